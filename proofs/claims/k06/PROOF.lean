import PyProof.Rows.All
import Wide.All
import OpenK.AllK
import Wide.FinOn
import HandS.ForExc
import HandS.Comp
import HandS.Conv
import HandS.TupAny
import HandS.Strs
import HandS.Iter
import HandS.ExcSuper
import HandS.ExcField
import HandS.TryMany
import HandS.IsInst
import HandS.Wide
import HandS.Deep
import HandS.Style
import HandS.SortInts
import HandS.Defaults
import HandS.Head0
import HandS.Head1
import HandS.Head2
import HandS.HeadEnd
import HandS.HeadHook1
import HandS.HeadHook2
import KE.KExcSuper
import HandS.TupSets
import HandS.TupMul
import PyProof.StrOps2
import HandS.SetFor
import PySem.Challenge.RW_reesblocks_k06_restricted_semigroups
set_option Elab.async false
set_option linter.all false
set_option maxRecDepth 100000
set_option maxHeartbeats 8000000
/-! Tuples made at run time whose object is kept (its dict is none), and what asks for it: tuple.index. -/
namespace DL
open PySem PySem.Spec PyProof.Rows L2
abbrev KnO (o : Obj) : Prop := o.cls = .type "tuple" ∧ o.dict = none
section
variable {X : Cx}
theorem laidK {pins : List (Addr × Obj)} {σ : L2.St} {H : Hp} {s : Shared} {h' : Heap} {tk : Nat} {xs : List V} {its : List Value} (I : Inv X pins σ H s) (hk : ∀ b ob, s.heap.get? b = some ob → (h'.push { cls := .type "tuple", data := .seq its.toArray }).get? b = some ob) (hl : s.heap.objs.size ≤ h'.objs.size)
    (hz : xs.length ≤ sizeLine) (r : Vals xs its) : Inv X pins σ (upd H h'.objs.size (.frz { cls := .type "tuple", data := .seq its.toArray } (.tup xs))) { s with heap := h'.push { cls := .type "tuple", data := .seq its.toArray }, toks := tk } :=
  I.laid (t' := tk) hk hl ⟨Heap.get?_push_size _ rfl, hz, its, r, IsTup.new _ _⟩
def rCatK (K : PySem.W.Frag) : R2 := fun x y H Q => ∃ a b xs ys, x = .ref a ∧ y = .ref b ∧ SqT K H a xs ∧ SqT K H b ys ∧ xs.length + ys.length ≤ sizeLine ∧
  (xs = [] → Q (.ref b) H) ∧ (xs ≠ [] → ys = [] → Q (.ref a) H) ∧ (xs ≠ [] → ys ≠ [] → ∀ p o, H p = none → KnO o → Q (.ref p) (upd H p (.frz o (.tup (xs ++ ys)))))
theorem op_catK : OpR X (binaryOp .Add) (rCatK X.K) := by
  intro pins s σ H x y v u Q I rx ry h
  obtain ⟨a, b, xs, ys, rfl, rfl, ha, hb, hz, q0, q1, q2⟩ := h
  by_cases hx : xs = []
  · exact op_catA pins s σ H _ _ v u Q I rx ry ⟨a, b, xs, ys, rfl, rfl, ha, hb, hz, q0, q1, fun z => absurd hx z⟩
  · cases rx
    cases ry
    obtain ⟨its, r1, p1, _⟩ := I.tuple ha
    obtain ⟨its2, r2, p2, _⟩ := I.tuple hb
    refine HT.cat_tup p1 p2 (fun z => hx (r1.nil_iff.mp z)) (fun z => ⟨.ref a, H, I, rfl, q1 hx (r2.nil_iff.mp z)⟩) (fun z => ?_) (by rw [← r1.length, ← r2.length]; exact hz)
    exact ⟨.ref s.heap.objs.size, _, laidK I (fun b ob q => Heap.get?_push_of_some _ q) (Nat.le_refl _) (by rw [List.length_append]; exact hz) (r1.append r2), rfl, q2 hx (fun w => z (r2.nil_iff.mpr w)) _ _ (I.hok.fresh (Nat.le_refl _)) ⟨rfl, rfl⟩⟩
theorem call_tupleK : CallR X (.type "tuple") (fun xs H Q => ∃ p ys, xs = [.ref p] ∧ ((SqL X.K H p ys ∧ ∀ l o, H l = none → KnO o → Q (.ref l) (upd H l (.frz o (.tup ys)))) ∨ (SqT X.K H p ys ∧ Q (.ref p) H))) := by
  intro pins s σ H xs us Q I r h
  obtain ⟨p, ys, rfl, h⟩ := h
  rcases h with ⟨hq, q⟩ | ⟨hq, q⟩
  · obtain ⟨u, rfl, rx⟩ := vals1 r
    cases rx
    obtain ⟨its, r', pl, hz⟩ := I.list hq
    have hlen := r'.length
    refine call_tuple_list pl.isList (fun h' kp => ?_) (by simp only [List.size_toArray] <;> omega)
    have I1 : Inv X pins σ H { s with heap := h' } := I.kept (t' := s.toks) kp
    exact ⟨.ref h'.objs.size, _, laidK (s := { s with heap := h' }) (tk := s.toks) I1 (fun b o e => Heap.get?_push_of_some _ e) (Nat.le_refl _) hz r', rfl, q _ _ (I1.hok.fresh (Nat.le_refl _)) ⟨rfl, rfl⟩⟩
  · exact call_tuple_of pins s σ H _ us Q I r ⟨p, ys, rfl, .inr ⟨hq, q⟩⟩
def rSlK (K : PySem.W.Frag) : V → Option Int → Option Int → Hp → VK → Prop := fun x lo hi H Q => ∃ a xs, x = .ref a ∧ SqT K H a xs ∧
  (HT.sIx xs.length 0 lo = 0 ∧ HT.sIx xs.length xs.length hi = xs.length → Q (.ref a) H) ∧ (¬ (HT.sIx xs.length 0 lo = 0 ∧ HT.sIx xs.length xs.length hi = xs.length) → ∀ p o, H p = none → KnO o → Q (.ref p) (upd H p (.frz o (.tup (cutV xs lo hi)))))
theorem sl_tupK : SlR X (rSlK X.K) := by
  intro pins s σ H x v vl vu lo hi sl Q I rx hs pl pu h
  obtain ⟨a, xs, rfl, hx, q1, q2⟩ := h
  by_cases hw : HT.sIx xs.length 0 lo = 0 ∧ HT.sIx xs.length xs.length hi = xs.length
  · exact sl_tupA pins s σ H _ v vl vu lo hi sl Q I rx hs pl pu ⟨a, xs, rfl, hx, q1, fun z => absurd hw z⟩
  · cases rx
    obtain ⟨its, r, ht, hz⟩ := I.tuple hx
    have hlen : its.toArray.size = xs.length := by rw [List.size_toArray]; exact r.length.symm
    refine ⟨"tuple", _, PyProof.Rows.slot_tuple_getitem.lookup, ht.typeIs, ?_⟩
    refine HT.getItem_tuple_cut ht hs pl pu (by rw [hlen]; exact hw) ?_ (by rw [hlen]; exact hz)
    rw [hlen]
    exact ⟨.ref s.heap.objs.size, _, laidK I (fun b ob q => Heap.get?_push_of_some _ q) (Nat.le_refl _) (Nat.le_trans (cutV_length xs lo hi) hz) ((r.drop (HT.sIx xs.length 0 lo)).take (HT.sIx xs.length xs.length hi - HT.sIx xs.length 0 lo)), rfl, q2 hw _ _ (I.hok.fresh (Nat.le_refl _)) ⟨rfl, rfl⟩⟩
/-! what is known of a tuple -/
def KnT (K : PySem.W.Frag) (H : Hp) (a : Addr) : Prop := (∃ o u, H a = some (.frz o u) ∧ KnO o) ∨ ∃ o, K.lookup a = some o ∧ KnO o
theorem KnT.mono {K : PySem.W.Frag} {H H' : Hp} {a : Addr} (e : Same H H') (h : KnT K H a) : KnT K H' a := by
  rcases h with ⟨o, u, h, k⟩ | h
  · exact .inl ⟨o, u, e _ _ h, k⟩
  · exact .inr h
theorem KnT.new {K : PySem.W.Frag} {H : Hp} {p : Addr} {o : Obj} {u : HO} (k : KnO o) : KnT K (upd H p (.frz o u)) p := .inl ⟨o, u, upd_same, k⟩
theorem KnT.is {pins : List (Addr × Obj)} {σ : L2.St} {H : Hp} {s : Shared} {a : Addr} (I : Inv X pins σ H s) (h : KnT X.K H a) : s.TypeIs (.ref a) "tuple" ∧ ∃ ob, s.heap.get? a = some ob ∧ ob.dict = none := by
  rcases h with ⟨o, u, h, k⟩ | ⟨o, h, k⟩
  · obtain ⟨g, _⟩ := I.hok a _ h
    exact ⟨⟨o, g, k.1⟩, o, g, k.2⟩
  · have g := I.kIn a o h
    exact ⟨⟨o, g, k.1⟩, o, g, k.2⟩
/-- t.index(x), flat items -/
def rIndexT (K : PySem.W.Frag) : V → List V → Hp → VK → Prop := fun x xs H Q => ∃ (a : Addr) (ys : List V) (y : V) (j : Nat) (z : V), x = V.ref a ∧ xs = [y] ∧ SqT K H a ys ∧ flatV y = true ∧ ys.all flatV = true ∧ ys[j]? = some z ∧ eqV z y = true ∧
  (∀ (m : Nat) (z' : V), m < j → ys[m]? = some z' → eqV z' y = false) ∧ Q (.int (j : Nat)) H
theorem mt_indexT : MtR X "tuple.index" (rIndexT X.K) := by
  intro pins s σ H x xs v us Q I rx rxs h
  obtain ⟨a, ys, y, j, z, rfl, rfl, hs, fy, fys, hz, hzj, hno, q⟩ := h
  cases rx
  cases rxs with
  | cons ry rt =>
    rename_i uy ut
    cases rt
    obtain ⟨its, rv, ⟨⟨cls, dd, data, sl⟩, ho, hc, n, hd⟩, hlen⟩ := I.tuple hs
    simp only at hc hd
    subst hc hd
    obtain ⟨u, hu, ru⟩ := rv.get hz
    obtain ⟨hjl, hje⟩ := List.getElem?_eq_some_iff.mp hu
    have hvl := rv.length
    have hj : j < its.toArray.size := by simpa using hjl
    refine call_meets PySem.F.slot_tuple_index ⟨_, ho, rfl⟩ PySem.F.entry_tuple_index (PySem.F.args_tuple_index_2 _ _)
      (TI.tuple_indexAt a its.toArray n dd sl uy (eqU y) j hj ?_ ?_) ⟨ho, fun u' hu' => mem_eqAt ry fy rv fys u' (by simpa using hu'), ⟨.int (j : Nat), H, I.tok _, ⟨_, rfl⟩, q⟩⟩
    · have e1 : its.toArray[j] = u := by simpa using hje
      rw [e1, eqU_of ru (flat_at fys hz)]
      exact hzj
    · intro m hm hmj
      have hml : m < its.length := by simpa using hm
      have hmy : m < ys.length := by omega
      have hy' : ys[m]? = some ys[m] := List.getElem?_eq_getElem hmy
      obtain ⟨u2, hu2, ru2⟩ := rv.get hy'
      have e2 : its.toArray[m] = u2 := by
        rw [List.getElem?_eq_getElem hml] at hu2
        simpa using hu2
      rw [e2, eqU_of ru2 (flat_at fys hy')]
      exact hno m _ hmj hy'
/-! both ways -/
def NewT (H : Hp) (Q : VK) (xs : List V) : Prop := (∀ p, H p = none → Q (.ref p) (upd H p (.tup xs))) ∨ (∀ p o, H p = none → KnO o → Q (.ref p) (upd H p (.frz o (.tup xs))))
def rCatN (K : PySem.W.Frag) : R2 := fun x y H Q => ∃ a b xs ys, x = .ref a ∧ y = .ref b ∧ SqT K H a xs ∧ SqT K H b ys ∧ xs.length + ys.length ≤ sizeLine ∧
  (xs = [] → Q (.ref b) H) ∧ (xs ≠ [] → ys = [] → Q (.ref a) H) ∧ (xs ≠ [] → ys ≠ [] → NewT H Q (xs ++ ys))
theorem op_catN : OpR X (binaryOp .Add) (rCatN X.K) := by
  intro pins s σ H x y v u Q I rx ry h
  obtain ⟨a, b, xs, ys, rfl, rfl, ha, hb, hz, q0, q1, q2⟩ := h
  by_cases hx : xs = []
  · exact op_catA pins s σ H _ _ v u Q I rx ry ⟨a, b, xs, ys, rfl, rfl, ha, hb, hz, q0, q1, fun z => absurd hx z⟩
  by_cases hy : ys = []
  · exact op_catA pins s σ H _ _ v u Q I rx ry ⟨a, b, xs, ys, rfl, rfl, ha, hb, hz, q0, q1, fun _ z => absurd hy z⟩
  rcases q2 hx hy with q | q
  · exact op_catA pins s σ H _ _ v u Q I rx ry ⟨a, b, xs, ys, rfl, rfl, ha, hb, hz, q0, q1, fun _ _ => q⟩
  · exact op_catK pins s σ H _ _ v u Q I rx ry ⟨a, b, xs, ys, rfl, rfl, ha, hb, hz, q0, q1, fun _ _ => q⟩
def rTupN (K : PySem.W.Frag) : List V → Hp → VK → Prop := fun xs H Q => ∃ p ys, xs = [.ref p] ∧ ((SqL K H p ys ∧ NewT H Q ys) ∨ (SqT K H p ys ∧ Q (.ref p) H))
theorem call_tupleN : CallR X (.type "tuple") (rTupN X.K) := by
  intro pins s σ H xs us Q I r h
  obtain ⟨p, ys, rfl, ⟨hq, q | q⟩ | ⟨hq, q⟩⟩ := h
  · exact call_tuple_of pins s σ H _ us Q I r ⟨p, ys, rfl, .inl ⟨hq, q⟩⟩
  · exact call_tupleK pins s σ H _ us Q I r ⟨p, ys, rfl, .inl ⟨hq, q⟩⟩
  · exact call_tuple_of pins s σ H _ us Q I r ⟨p, ys, rfl, .inr ⟨hq, q⟩⟩
def tTupN (t : TA) : TE := fun σ H Q => t σ H fun xs H1 => xs.length ≤ sizeLine ∧ NewT H1 Q xs
theorem pe_tupN {es : List Expr} {t : TA} {pos : Pos} {x1} (h : PA X es t) : PE X (.Tuple es x1 pos) (tTupN t) := by
  refine ⟨fun pins s σ H Q I hq => ?_⟩
  refine wpAny_Tuple_spliced (thn (h.run pos pins s σ H _ I hq) fun us s1 ⟨xs, H1, I1, r, z, q⟩ => ⟨by rw [← r.length]; exact z, ?_⟩)
  have hf : H1 s1.heap.objs.size = none := I1.hok.fresh (Nat.le_refl _)
  rcases q with q | q
  · refine ⟨.ref s1.heap.objs.size, upd H1 s1.heap.objs.size (.tup xs), I1.laid (t' := s1.toks) (fun b u e => Heap.get?_push_of_some _ e) (Nat.le_refl _) ?_, rfl, q _ hf⟩
    exact ⟨z, us, r, ⟨_, Heap.get?_push_size _ rfl, rfl, _, rfl⟩⟩
  · exact ⟨.ref s1.heap.objs.size, _, laidK I1 (fun b u e => Heap.get?_push_of_some _ e) (Nat.le_refl _) z r, rfl, q _ _ hf ⟨rfl, rfl⟩⟩
def rSlN (K : PySem.W.Frag) : V → Option Int → Option Int → Hp → VK → Prop := fun x lo hi H Q => ∃ a xs, x = .ref a ∧ SqT K H a xs ∧
  (HT.sIx xs.length 0 lo = 0 ∧ HT.sIx xs.length xs.length hi = xs.length → Q (.ref a) H) ∧ (¬ (HT.sIx xs.length 0 lo = 0 ∧ HT.sIx xs.length xs.length hi = xs.length) → NewT H Q (cutV xs lo hi))
theorem sl_tupN : SlR X (rSlN X.K) := by
  intro pins s σ H x v vl vu lo hi sl Q I rx hs pl pu h
  obtain ⟨a, xs, rfl, hx, q1, q2⟩ := h
  by_cases hw : HT.sIx xs.length 0 lo = 0 ∧ HT.sIx xs.length xs.length hi = xs.length
  · exact sl_tupA pins s σ H _ v vl vu lo hi sl Q I rx hs pl pu ⟨a, xs, rfl, hx, q1, fun z => absurd hw z⟩
  rcases q2 hw with q | q
  · exact sl_tupA pins s σ H _ v vl vu lo hi sl Q I rx hs pl pu ⟨a, xs, rfl, hx, q1, fun _ => q⟩
  · exact sl_tupK pins s σ H _ v vl vu lo hi sl Q I rx hs pl pu ⟨a, xs, rfl, hx, q1, fun _ => q⟩
def tTupRgN (te : L2.St → Hp → (Int → Int → Hp → Prop) → Prop) : TE := fun σ H Q => te σ H fun a b H1 => RgOk a b ∧ NewT H1 Q (rgV a b)
theorem pe_tupRgN {e : Expr} {te : L2.St → Hp → (Int → Int → Hp → Prop) → Prop} {p pos : Pos} (hc : X.calm = true) (hg : Gl X "tuple") (hm : X.mg "tuple" = none) (he : PRg X e te) (na : starEach [e] X.env = (false, eval e X.env) :: starEach [] X.env := by rfl) : PE X (.Call (.Name "tuple" p) [e] [] pos) (tTupRgN te) := by
  refine ⟨fun pins s σ H Q I h => ?_⟩
  refine Call_ (ld_blt I hg hm boot_tuple (PyProof.Rows.callWith_type1 (args_cons (thn (he pins s σ H _ I h) fun x s1 ⟨r, a, b, t, u, v, H1, ex, hr, I1, ok, q⟩ => args_nil ?_) na) na))
  subst ex
  obtain ⟨b1, b2, b3, b4, b5⟩ := ok
  refine call_tuple_range (n := (b - a).toNat) (I1.ok.hd hc) hr (small_one b1 b2 b3 b4) (rangeSize_nat a b) b5 fun h' tk acc hk hi => ?_
  have I2 : Inv X pins σ H1 { s1 with heap := h', toks := tk } := I1.kept hk
  have hz : (rgV a b).length ≤ sizeLine := by rw [rgV_length, sizeLine_eq]; omega
  rcases q with q | q
  · refine ⟨.ref h'.objs.size, upd H1 h'.objs.size (.tup (rgV a b)), I2.laid (t' := tk) (fun c o e => Heap.get?_push_of_some _ e) (Nat.le_refl _) (show ObjOk X.prog X.w _ _ _ (.tup (rgV a b)) from ⟨hz, acc.toList, vals_rg hi, ?_⟩), rfl, q _ (I2.hok.fresh (Nat.le_refl _))⟩
    rw [Array.toArray_toList]; exact IsTup.new _ _
  · have := laidK (s := { s1 with heap := h', toks := tk }) (tk := tk) (its := acc.toList) I2 (fun c o e => Heap.get?_push_of_some _ e) (Nat.le_refl _) hz (vals_rg hi)
    rw [Array.toArray_toList] at this
    exact ⟨.ref h'.objs.size, _, this, rfl, q _ _ (I2.hok.fresh (Nat.le_refl _)) ⟨rfl, rfl⟩⟩
/-- o.m(..), o a list or a known tuple -/
def tBMA (K : PySem.W.Frag) (r r' : V → List V → Hp → VK → Prop) (to : TE) (t : TA) : TE := fun σ H Q => to σ H fun x H1 => (tyV K "list" x H1 ∧ t σ H1 fun xs H2 => r x xs H2 Q) ∨ ((∃ a, x = .ref a ∧ KnT K H1 a) ∧ t σ H1 fun xs H2 => r' x xs H2 Q)
theorem pe_bmA {o e : Expr} {es : List Expr} {to : TE} {t : TA} {name : Str} {apos cpos : Pos} {id id' : String} {r r' : V → List V → Hp → VK → Prop} (pa : PlainAttrs "list") (slot : Slot "list" name id) (hty : typeOf (.builtin id) = pure (.type "method_descriptor")) (hm : MtR X id r)
    (pa' : PlainAttrs "tuple") (slot' : Slot "tuple" name id') (hty' : typeOf (.builtin id') = pure (.type "method_descriptor")) (hm' : MtR X id' r') (ho : PE X o to) (ha : PA X (e :: es) t)
    (hbase : attributeBase o name X.env (eval o X.env) = eval o X.env := by rfl)
    (hfew : ((backTo cpos (starEach (e :: es) X.env)).all (fun x => !x.1) && (backToKw cpos (keywordEach [] X.env)).all (fun x => x.1.isSome)
      && decide ((e :: es).length + ([] : List Keyword).length + (if ([] : List Keyword).isEmpty then 0 else 1) < 30)) = true := by rfl)
    (hline : (apos.endLine == cpos.line) = true := by rfl) (hs : starEach (e :: es) X.env = (false, eval e X.env) :: starEach es X.env := by rfl) (hplain : (backTo cpos (starEach es X.env)).any (·.1) = false := by rfl) :
    PE X (.Call (.Attribute o name apos) (e :: es) [] cpos) (tBMA X.K r r' to t) := by
  refine ⟨fun pins s σ H Q I h => ?_⟩
  refine wpAny_Call_method_late hbase hfew hline rfl (thn (ho.run pins s σ H _ I h) fun v s1 ⟨x, H1, I1, r1, q⟩ => ?_)
  rcases q with ⟨ty, q1⟩ | ⟨⟨a, ex, ty⟩, q1⟩
  · obtain ⟨h1, h2⟩ := tyV_is I1 r1 ty
    refine ⟨"list", id, pa, slot, hty, h1, h2, ?_⟩
    have hA := ha.run cpos pins s1 σ H1 _ I1 q1
    rw [hs] at hA ⊢
    refine Calls.callWith_builtin (by show (false || (backTo cpos (starEach es X.env)).any (·.1)) = false; rw [hplain] <;> rfl) (Calls.evalArgs_plain ?_)
    exact thn hA fun us s2 ⟨vs, H2, I2, r2, q2⟩ => hm pins s2 σ H2 x vs v us Q I2 r1 r2 q2
  · subst ex
    cases r1
    obtain ⟨h1, ob, h2, h3⟩ := ty.is I1
    refine ⟨"tuple", id', pa', slot', hty', h1, (fun b e => by cases e; exact ⟨ob, h2, h3⟩), ?_⟩
    have hA := ha.run cpos pins s1 σ H1 _ I1 q1
    rw [hs] at hA ⊢
    refine Calls.callWith_builtin (by show (false || (backTo cpos (starEach es X.env)).any (·.1)) = false; rw [hplain] <;> rfl) (Calls.evalArgs_plain ?_)
    exact thn hA fun us s2 ⟨vs, H2, I2, r2, q2⟩ => hm' pins s2 σ H2 (.ref a) vs _ us Q I2 rfl r2 q2
end
end DL

/-! Data layer: programs over immutable data (D), owned local lists; a body's meaning is a plain function of data. -/
namespace DL
open PySem PySem.Spec PyProof.Rows L2

inductive D where
  | non | bl (b : Bool) | int (i : Int) | str (x : Str)
  | lst (xs : List D) | tup (xs : List D)
  | ins (c : Str) (ns : List Str) (ds : List D)
  /-- the script -/
  | scr (ns : List Int)

structure G where
  K : PySem.W.Frag
  mg : Str → Option Value
  /-- the exception that an except suite holds: its address, class, dict -/
  xa : Option (Addr × Value × Option Addr)
  /-- are the objects of tuples known (their dicts are none) -/
  tk : Bool

mutual
inductive Rv (g : G) (F : Hp) : V → D → Prop
  | non : Rv g F .non .non
  | bl (b : Bool) : Rv g F (.bl b) (.bl b)
  | int (i : Int) : Rv g F (.int i) (.int i)
  | str (x : Str) : Rv g F (.str x) (.str x)
  | lst {a : Addr} {vs : List V} {ds : List D} : F a = some (.lst vs) → Rl g F vs ds → Rv g F (.ref a) (.lst ds)
  | tup {a : Addr} {vs : List V} {ds : List D} : SqT g.K F a vs → (g.tk = true → KnT g.K F a) → Rl g F vs ds → Rv g F (.ref a) (.tup ds)
  | ins {a C dx : Addr} {c : Str} {ns : List Str} {vs : List V} {ds : List D} : F a = some (.ins C dx (ns.zip vs)) → g.mg c = some (.ref C) → ns.length = vs.length → Rl g F vs ds → Rv g F (.ref a) (.ins c ns ds)
  | scr {a : Addr} {ns : List Int} : SqL g.K F a (ns.map V.int) → Rv g F (.ref a) (.scr ns)
inductive Rl (g : G) (F : Hp) : List V → List D → Prop
  | nil : Rl g F [] []
  | cons {v : V} {vs : List V} {d : D} {ds : List D} : Rv g F v d → Rl g F vs ds → Rl g F (v :: vs) (d :: ds)
end

theorem sqT_mono {K : PySem.W.Frag} {F F' : Hp} {a : Addr} {xs : List V} (e : Same F F') (h : SqT K F a xs) : SqT K F' a xs := by
  rcases h with (h | ⟨o, h⟩) | h
  · exact .inl (.inl (e _ _ h))
  · exact .inl (.inr ⟨o, e _ _ h⟩)
  · exact .inr h
theorem sqL_mono {K : PySem.W.Frag} {F F' : Hp} {a : Addr} {xs : List V} (e : Same F F') (h : SqL K F a xs) : SqL K F' a xs := by
  rcases h with (h | ⟨o, h⟩) | h
  · exact .inl (.inl (e _ _ h))
  · exact .inl (.inr ⟨o, e _ _ h⟩)
  · exact .inr h
mutual
theorem Rv.mono {g : G} {F F' : Hp} (e : Same F F') : ∀ {v : V} {d : D}, Rv g F v d → Rv g F' v d
  | _, _, .non => .non
  | _, _, .bl b => .bl b
  | _, _, .int i => .int i
  | _, _, .str x => .str x
  | _, _, .lst h r => .lst (e _ _ h) (Rl.mono e r)
  | _, _, .tup h k r => .tup (sqT_mono e h) (fun z => (k z).mono e) (Rl.mono e r)
  | _, _, .ins h m l r => .ins (e _ _ h) m l (Rl.mono e r)
  | _, _, .scr h => .scr (sqL_mono e h)
theorem Rl.mono {g : G} {F F' : Hp} (e : Same F F') : ∀ {vs : List V} {ds : List D}, Rl g F vs ds → Rl g F' vs ds
  | _, _, .nil => .nil
  | _, _, .cons r t => .cons (Rv.mono e r) (Rl.mono e t)
end
section
variable {g : G} {F : Hp}
theorem Rl.length : ∀ {vs : List V} {ds : List D}, Rl g F vs ds → vs.length = ds.length
  | _, _, .nil => rfl
  | _, _, .cons _ t => by rw [List.length_cons, List.length_cons, Rl.length t]
theorem Rl.get : ∀ {vs : List V} {ds : List D} {i : Nat} {d : D}, Rl g F vs ds → ds[i]? = some d → ∃ v, vs[i]? = some v ∧ Rv g F v d
  | _, _, _, _, .nil, e => by simp at e
  | _, _, 0, _, .cons r _, e => by simp at e; subst e; exact ⟨_, rfl, r⟩
  | _, _, i + 1, d, .cons _ t, e => by
    obtain ⟨u, h1, h2⟩ := Rl.get (i := i) (d := d) t (by simpa using e)
    exact ⟨u, by simpa using h1, h2⟩
theorem Rl.get' : ∀ {vs : List V} {ds : List D} {i : Nat} {v : V}, Rl g F vs ds → vs[i]? = some v → ∃ d, ds[i]? = some d ∧ Rv g F v d
  | _, _, _, _, .nil, e => by simp at e
  | _, _, 0, _, .cons r _, e => by simp at e; subst e; exact ⟨_, rfl, r⟩
  | _, _, i + 1, d, .cons _ t, e => by
    obtain ⟨u, h1, h2⟩ := Rl.get' (i := i) (v := d) t (by simpa using e)
    exact ⟨u, by simpa using h1, h2⟩
theorem Rl.append : ∀ {vs ws : List V} {ds es : List D}, Rl g F vs ds → Rl g F ws es → Rl g F (vs ++ ws) (ds ++ es)
  | _, _, _, _, .nil, s => s
  | _, _, _, _, .cons r t, s => .cons r (Rl.append t s)
theorem Rl.take : ∀ {vs : List V} {ds : List D} (n : Nat), Rl g F vs ds → Rl g F (vs.take n) (ds.take n)
  | _, _, 0, _ => .nil
  | _, _, _ + 1, .nil => .nil
  | _, _, n + 1, .cons r t => .cons r (Rl.take n t)
theorem Rl.drop : ∀ {vs : List V} {ds : List D} (n : Nat), Rl g F vs ds → Rl g F (vs.drop n) (ds.drop n)
  | _, _, 0, r => r
  | _, _, _ + 1, .nil => .nil
  | _, _, n + 1, .cons _ t => Rl.drop n t
theorem Rl.set {v : V} {d : D} (r : Rv g F v d) : ∀ {vs : List V} {ds : List D} (i : Nat), Rl g F vs ds → Rl g F (vs.set i v) (ds.set i d)
  | _, _, _, .nil => .nil
  | _, _, 0, .cons _ t => .cons r t
  | _, _, i + 1, .cons q t => .cons q (Rl.set r i t)
theorem Rl.eraseIdx : ∀ {vs : List V} {ds : List D} (i : Nat), Rl g F vs ds → Rl g F (vs.eraseIdx i) (ds.eraseIdx i)
  | _, _, _, .nil => .nil
  | _, _, 0, .cons _ t => t
  | _, _, i + 1, .cons q t => .cons q (Rl.eraseIdx i t)
theorem Rl.rep {vs : List V} {ds : List D} (h : Rl g F vs ds) : ∀ k : Nat, Rl g F (List.replicate k vs).flatten (List.replicate k ds).flatten
  | 0 => .nil
  | k + 1 => by rw [List.replicate_succ, List.replicate_succ, List.flatten_cons, List.flatten_cons]; exact h.append (Rl.rep h k)
theorem Rl.ints : ∀ {vs : List V} {ns : List Int}, Rl g F vs (ns.map D.int) → vs = ns.map V.int
  | _, [], .nil => rfl
  | _, n :: ns, .cons r t => by cases r; rw [Rl.ints t]; rfl
theorem Rl.of_ints : ∀ (ns : List Int), Rl g F (ns.map V.int) (ns.map D.int)
  | [] => .nil
  | n :: ns => .cons (.int n) (Rl.of_ints ns)
theorem Rl.bls : ∀ {vs : List V} {ns : List Bool}, Rl g F vs (ns.map D.bl) → vs = ns.map V.bl
  | _, [], .nil => rfl
  | _, n :: ns, .cons r t => by cases r; rw [Rl.bls t]; rfl
end

/-! ### slots, states -/
inductive Slot where
  | no | sh (d : D) | ow (ds : List D) | rf (k : Nat) (ds : List D) | oi (k : Nat) (c : Str) (ns : List Str) (ds : List D) | o2 (dss : List (List D)) | xc (c nm : Str) (x : D)
abbrev DSt := List Slot
structure Par where
  B : List Addr
  R : Hp
  N : Addr → Prop

def SlotOk (g : G) (P : Par) (O : Addr → Option Nat) (F H : Hp) (i : Nat) (s : Slot) (ov : Option V) : Prop := match s with
  | .no => True
  | .sh d => ∃ v, ov = some v ∧ Rv g F v d
  | .ow ds => ∃ a vs, ov = some (.ref a) ∧ O a = some i ∧ ¬ P.N a ∧ H a = some (.lst vs) ∧ Rl g F vs ds
  | .rf k ds => ∃ a vs, ov = some (.ref a) ∧ P.B[k]? = some a ∧ O a = some i ∧ H a = some (.lst vs) ∧ Rl g F vs ds
  | .oi k c ns ds => ∃ a C dx vs, ov = some (.ref a) ∧ P.B[k]? = some a ∧ O a = some i ∧ g.mg c = some (.ref C) ∧ ns.length = vs.length ∧ H a = some (.ins C dx (ns.zip vs)) ∧ Rl g F vs ds
  | .o2 dss => ∃ (a : Addr) (bs : List Addr), ov = some (.ref a) ∧ O a = some i ∧ ¬ P.N a ∧ H a = some (.lst (bs.map V.ref)) ∧ bs.Nodup ∧ a ∉ bs ∧ bs.length = dss.length ∧
      ∀ (j : Nat) (b : Addr) (ds : List D), bs[j]? = some b → dss[j]? = some ds → O b = some i ∧ ¬ P.N b ∧ ∃ vs, H b = some (.lst vs) ∧ Rl g F vs ds
  | .xc c nm x => ∃ (a C d : Addr) (v : V), g.xa = some (a, .ref C, some d) ∧ g.mg c = some (.ref C) ∧ ov = some (.ref a) ∧ F d = some (.xd [(nm, v)]) ∧ Rv g F v x
theorem SlotOk.move {g : G} {P P' : Par} {O O' : Addr → Option Nat} {F F' H H' : Hp} {i : Nat} {s : Slot} {ov : Option V} (h : SlotOk g P O F H i s ov) (hB : P'.B = P.B) (hO : ∀ a, O a = some i → O' a = some i) (hF : Same F F')
    (hH : ∀ a o, O a = some i → H a = some o → H' a = some o) (hN : ∀ a, O a = some i → ¬ P.N a → ¬ P'.N a) : SlotOk g P' O' F' H' i s ov := by
  cases s with
  | no => trivial
  | sh d => obtain ⟨v, e, r⟩ := h; exact ⟨v, e, r.mono hF⟩
  | ow ds => obtain ⟨a, vs, e, o, n, h1, r⟩ := h; exact ⟨a, vs, e, hO a o, hN a o n, hH _ _ o h1, r.mono hF⟩
  | rf k ds => obtain ⟨a, vs, e, b, o, h1, r⟩ := h; exact ⟨a, vs, e, by rw [hB]; exact b, hO a o, hH _ _ o h1, r.mono hF⟩
  | oi k c ns ds => obtain ⟨a, C, dx, vs, e, b, o, m, l, h1, r⟩ := h; exact ⟨a, C, dx, vs, e, by rw [hB]; exact b, hO a o, m, l, hH _ _ o h1, r.mono hF⟩
  | xc c nm x => obtain ⟨a, C, d, v, e1, e2, e3, h1, r⟩ := h; exact ⟨a, C, d, v, e1, e2, e3, hF _ _ h1, r.mono hF⟩
  | o2 dss =>
    obtain ⟨a, bs, e, o, n, h1, nd, na, l, r⟩ := h
    refine ⟨a, bs, e, hO a o, hN a o n, hH _ _ o h1, nd, na, l, fun j b ds e1 e2 => ?_⟩
    obtain ⟨o', n', vs, h2, r2⟩ := r j b ds e1 e2
    exact ⟨hO b o', hN b o' n', vs, hH _ _ o' h2, r2.mono hF⟩

structure SRc (g : G) (P : Par) (O : Addr → Option Nat) (σ : L2.St) (H F : Hp) (st : DSt) : Prop where
  le : Same F H
  rr : Same P.R H
  oo : ∀ a i, O a = some i → F a = none ∧ P.R a = none ∧ H a ≠ none
  no : ∀ a, P.N a → F a = none ∧ H a ≠ none
  len : σ.length = st.length
  sl : ∀ i s ov, st[i]? = some s → σ[i]? = some ov → SlotOk g P O F H i s ov
def SR (g : G) (P : Par) (σ : L2.St) (H F : Hp) (st : DSt) : Prop := ∃ O, SRc g P O σ H F st
/-- .. and p belongs to nobody -/
def SRx (g : G) (P : Par) (σ : L2.St) (H F : Hp) (st : DSt) (p : Addr) : Prop := ∃ O, SRc g P O σ H F st ∧ O p = none ∧ F p = none ∧ P.R p = none ∧ ¬ P.N p

structure Grow (H F H' F' : Hp) : Prop where
  h : Same H H'
  f : Same F F'
  i : Same F' H'
  n : ∀ a, H a ≠ none → F a = none → F' a = none
theorem Grow.refl {H F : Hp} (l : Same F H) : Grow H F H F := ⟨Same.refl _, Same.refl _, l, fun _ _ h => h⟩
theorem Grow.trans {H F H1 F1 H2 F2 : Hp} (a : Grow H F H1 F1) (b : Grow H1 F1 H2 F2) : Grow H F H2 F2 :=
  ⟨a.h.trans b.h, a.f.trans b.f, b.i, fun x h1 h2 => b.n x (fun z => by
    cases e : H x with
    | none => exact h1 e
    | some o => rw [a.h x o e] at z; cases z) (a.n x h1 h2)⟩
theorem ne_some {α : Type} {o : Option α} (h : o ≠ none) : ∃ x, o = some x := by
  cases o with
  | none => exact absurd rfl h
  | some x => exact ⟨x, rfl⟩
theorem Same.ne {H H' : Hp} (e : Same H H') {a : Addr} (h : H a ≠ none) : H' a ≠ none := by
  obtain ⟨o, ho⟩ := ne_some h
  rw [e a o ho]; simp
/-- a new object, frozen -/
theorem Grow.new {H F : Hp} {p : Addr} {o : HO} (l : Same F H) (h : H p = none) : Grow H F (upd H p o) (upd F p o) := by
  have hp : ∀ {b : Addr} {u : HO}, H b = some u → b ≠ p := fun e z => by subst z; rw [h] at e; cases e
  refine ⟨fun b u e => by rw [upd_ne (hp e)]; exact e, fun b u e => by rw [upd_ne (hp (l _ _ e))]; exact e, fun b u e => ?_, fun b hb hf => ?_⟩
  · by_cases hbp : b = p
    · subst hbp; rw [upd_same] at e ⊢; exact e
    · rw [upd_ne hbp] at e ⊢; exact l _ _ e
  · obtain ⟨u, e⟩ := ne_some hb
    rw [upd_ne (hp e)]; exact hf
/-- a new object, not frozen -/
theorem Grow.new0 {H F : Hp} {p : Addr} {o : HO} (l : Same F H) (h : H p = none) : Grow H F (upd H p o) F := by
  have hp : ∀ {b : Addr} {u : HO}, H b = some u → b ≠ p := fun e z => by subst z; rw [h] at e; cases e
  exact ⟨fun b u e => by rw [upd_ne (hp e)]; exact e, Same.refl _, fun b u e => by rw [upd_ne (hp (l _ _ e))]; exact l _ _ e, fun _ _ h => h⟩
section
variable {g : G} {P : Par} {O : Addr → Option Nat} {σ : L2.St} {H F H' F' : Hp} {st : DSt}
theorem SlotOk.grow {i : Nat} {s : Slot} {ov : Option V} (gr : Grow H F H' F') (h : SlotOk g P O F H i s ov) : SlotOk g P O F' H' i s ov :=
  h.move rfl (fun _ h => h) gr.f (fun _ _ _ h => gr.h _ _ h) fun _ _ h => h
theorem SRc.grow (s : SRc g P O σ H F st) (gr : Grow H F H' F') : SRc g P O σ H' F' st :=
  ⟨gr.i, s.rr.trans gr.h, fun a i e => ⟨gr.n a (s.oo a i e).2.2 (s.oo a i e).1, (s.oo a i e).2.1, Same.ne gr.h (s.oo a i e).2.2⟩,
    fun a n => ⟨gr.n a (s.no a n).2 (s.no a n).1, Same.ne gr.h (s.no a n).2⟩, s.len, fun i sl ov e1 e2 => (s.sl i sl ov e1 e2).grow gr⟩
theorem SR.grow (s : SR g P σ H F st) (gr : Grow H F H' F') : SR g P σ H' F' st := let ⟨O, c⟩ := s; ⟨O, c.grow gr⟩
theorem SR.le (s : SR g P σ H F st) : Same F H := let ⟨_, c⟩ := s; c.le
theorem SR.len (s : SR g P σ H F st) : σ.length = st.length := let ⟨_, c⟩ := s; c.len
end

/-! ### results -/
inductive Res (α : Type) where
  | ok (a : α) (st : DSt) | exn (c : Str) (fs : List (Str × D)) (st : DSt) | stuck
inductive M (α : Type) where
  | ok (a : α) | exn (c : Str) (fs : List (Str × D)) | stuck
abbrev Den (α : Type) := DSt → Res α
@[simp] def bindD {α β : Type} (a : Den α) (k : α → Den β) : Den β := fun st => match a st with
  | .ok x st' => k x st'
  | .exn c fs st' => .exn c fs st'
  | .stuck => .stuck
@[simp] def liftO {α : Type} (o : Option α) : Den α := fun st => match o with
  | some a => .ok a st
  | none => .stuck
@[simp] def liftM' {α : Type} (m : M α) : Den α := fun st => match m with
  | .ok a => .ok a st
  | .exn c fs => .exn c fs st
  | .stuck => .stuck
@[simp] def retD {α : Type} (a : α) : Den α := fun st => .ok a st

def RepX (g : G) (F H : Hp) (c : Str) (fs : List (Str × D)) (cls : Value) (dd : Option Addr) : Prop :=
  ∃ C, g.mg c = some (.ref C) ∧ cls = .ref C ∧ ((fs = [] ∧ dd = none) ∨ ∃ d nm v x, dd = some d ∧ fs = [(nm, x)] ∧ F d = some (.xd [(nm, v)]) ∧ Rv g F v x)
theorem RepX.mono {g : G} {F F' H H' : Hp} {c : Str} {fs : List (Str × D)} {cls : Value} {dd : Option Addr} (ef : Same F F') (eh : Same H H') (h : RepX g F H c fs cls dd) : RepX g F' H' c fs cls dd := by
  obtain ⟨C, m, e, h⟩ := h
  refine ⟨C, m, e, ?_⟩
  rcases h with h | ⟨d, nm, v, x, e1, e2, e3, r⟩
  · exact .inl h
  · exact .inr ⟨d, nm, v, x, e1, e2, ef _ _ e3, r.mono ef⟩

def Out {α : Type} (g : G) (W : WX) (P : Par) (σ : L2.St) (F : Hp) (r : Res α) (k : α → DSt → Hp → Hp → Prop) : Prop := match r with
  | .ok a st' => ∀ H' F', Same F F' → SR g P σ H' F' st' → k a st' H' F'
  | .exn c fs st' => ∀ cls dd H' F', Same F F' → SR g P σ H' F' st' → RepX g F' H' c fs cls dd → W cls dd σ H'
  | .stuck => False
section
variable {g : G} {W : WX} {P : Par} {σ : L2.St} {F F' : Hp} {α β : Type}
theorem Out.imp {r : Res α} {k k' : α → DSt → Hp → Hp → Prop} (h : Out g W P σ F r k) (hk : ∀ a st' H' F', Same F F' → SR g P σ H' F' st' → k a st' H' F' → k' a st' H' F') : Out g W P σ F r k' := by
  cases r with
  | ok a st' => exact fun H' F' e s => hk a st' H' F' e s (h H' F' e s)
  | exn c fs st' => exact h
  | stuck => exact h
theorem Out.weak {r : Res α} {k : α → DSt → Hp → Hp → Prop} (e : Same F F') (h : Out g W P σ F r k) : Out g W P σ F' r k := by
  cases r with
  | ok a st' => exact fun H' F2 e2 s => h H' F2 (e.trans e2) s
  | exn c fs st' => exact fun cls dd H' F2 e2 s => h cls dd H' F2 (e.trans e2) s
  | stuck => exact h
theorem Out.bind {a : Den α} {f : α → Den β} {st : DSt} {k : β → DSt → Hp → Hp → Prop} (h : Out g W P σ F (bindD a f st) k) : Out g W P σ F (a st) (fun x st1 _ F1 => Out g W P σ F1 (f x st1) k) := by
  unfold bindD at h
  revert h
  cases a st with
  | ok x st' => exact fun h H' F' e s => Out.weak e h
  | exn c fs st' => exact fun h => h
  | stuck => exact fun h => h
theorem Out.lift {o : Option α} {st : DSt} {k : α → DSt → Hp → Hp → Prop} (h : Out g W P σ F (liftO o st) k) : ∃ a, o = some a ∧ ∀ H' F', Same F F' → SR g P σ H' F' st → k a st H' F' := by
  cases o with
  | some a => exact ⟨a, rfl, h⟩
  | none => exact h.elim
end

/-! ### judgements -/
def tE (g : G) (W : WX) (f : Den D) : TE := fun σ H Q => ∃ P F st, SR g P σ H F st ∧ Out g W P σ F (f st) fun d _ H' F' => ∀ v, Rv g F' v d → Q v H'
def tT (g : G) (W : WX) (f : Den Bool) : TT := fun σ H Q => ∃ P F st, SR g P σ H F st ∧ Out g W P σ F (f st) fun b _ H' _ => Q b H'
def tA (g : G) (W : WX) (f : Den (List D)) : TA := fun σ H Q => ∃ P F st, SR g P σ H F st ∧ Out g W P σ F (f st) fun ds _ H' F' => ∀ vs, Rl g F' vs ds → Q vs H'
/-- a new list, owned by nobody -/
def OutN (g : G) (W : WX) (P : Par) (σ : L2.St) (F : Hp) (r : Res (List D)) (Q : VK) : Prop := match r with
  | .ok ds st' => ∀ H' F' p vs, Same F F' → SRx g P σ H' F' st' p → H' p = some (.lst vs) → Rl g F' vs ds → Q (.ref p) H'
  | .exn c fs st' => ∀ cls dd H' F', Same F F' → SR g P σ H' F' st' → RepX g F' H' c fs cls dd → W cls dd σ H'
  | .stuck => False
def tN (g : G) (W : WX) (f : Den (List D)) : TE := fun σ H Q => ∃ P F st, SR g P σ H F st ∧ OutN g W P σ F (f st) Q

theorem _root_.L2.PE.imp {X : Cx} {e : Expr} {t t' : TE} (h : PE X e t) (i : ∀ σ H Q, t' σ H Q → t σ H Q) : PE X e t' := ⟨fun pins s σ H Q I q => h.run pins s σ H Q I (i σ H Q q)⟩
theorem _root_.L2.PT.imp {X : Cx} {e : Expr} {t t' : TT} (h : PT X e t) (i : ∀ σ H Q, t' σ H Q → t σ H Q) : PT X e t' := ⟨fun pins s σ H Q I q => h.run pins s σ H Q I (i σ H Q q)⟩
theorem _root_.L2.PW.imp {X : Cx} {e : Expr} {t t' : TT} (h : PW X e t) (i : ∀ σ H Q, t' σ H Q → t σ H Q) : PW X e t' := ⟨fun w pins s σ H Q I q => h.run w pins s σ H Q I (i σ H Q q)⟩
theorem _root_.L2.PA.imp {X : Cx} {e : List Expr} {t t' : TA} (h : PA X e t) (i : ∀ σ H Q, t' σ H Q → t σ H Q) : PA X e t' := ⟨fun pos pins s σ H Q I q => h.run pos pins s σ H Q I (i σ H Q q)⟩
theorem _root_.L2.PS.imp {X : Cx} {e : Stmt} {t t' : TS} (h : PS X e t) (i : ∀ D σ H, t' D σ H → t D σ H) : PS X e t' := ⟨fun pins s σ H D I q => h.run pins s σ H D I (i D σ H q)⟩
theorem _root_.L2.PSs.imp {X : Cx} {e : List Stmt} {t t' : TS} (h : PSs X e t) (i : ∀ D σ H, t' D σ H → t D σ H) : PSs X e t' := ⟨fun pins s σ H D I q => h.run pins s σ H D I (i D σ H q)⟩
/-- read at the heap: frozen, or an owned list -/
def Br (g : G) (F H : Hp) (v : V) (d : D) : Prop := Rv g F v d ∨ ∃ a vs ds, v = .ref a ∧ d = .lst ds ∧ H a = some (.lst vs) ∧ Rl g F vs ds
end DL

namespace DL
open PySem PySem.Spec PyProof.Rows L2

/-! ### data as plain data -/
mutual
def toPy : D → Option PyData
  | .non => some .none
  | .bl b => some (.bool b)
  | .int i => some (.int i)
  | .str x => some (.str x)
  | .lst xs => match toPys xs with | some ps => some (.list ps) | none => none
  | .tup xs => match toPys xs with | some ps => some (.tuple ps) | none => none
  | .ins _ _ _ => none
  | .scr _ => none
def toPys : List D → Option (List PyData)
  | [] => some []
  | d :: ds => match toPy d, toPys ds with | some p, some ps => some (p :: ps) | _, _ => none
end
theorem sqL_of {K : PySem.W.Frag} {H : Hp} {a : Addr} {xs : List V} (h : H a = some (.lst xs)) : SqL K H a xs := .inl (.inl h)
mutual
theorem Rv.dp {g : G} {F H : Hp} (l : Same F H) : ∀ {v : V} {d : D} {p : PyData}, Rv g F v d → toPy d = some p → Dp g.K H v p
  | _, .non, _, r, e => by cases r; cases e; exact .non
  | _, .bl b, _, r, e => by cases r; cases e; exact .bl b
  | _, .int b, _, r, e => by cases r; cases e; exact .int b
  | _, .str b, _, r, e => by cases r; cases e; exact .str b
  | _, .lst xs, _, r, e => by
    cases r with
    | lst h q =>
      unfold toPy at e
      cases z : toPys xs with
      | none => rw [z] at e; cases e
      | some ps => rw [z] at e; cases e; exact .lst (sqL_of (l _ _ h)) (Rl.dp l q z)
  | _, .tup xs, _, r, e => by
    cases r with
    | tup h _ q =>
      unfold toPy at e
      cases z : toPys xs with
      | none => rw [z] at e; cases e
      | some ps => rw [z] at e; cases e; exact .tup (sqT_mono l h) (Rl.dp l q z)
  | _, .ins _ _ _, _, r, e => by cases e
  | _, .scr _, _, r, e => by cases e
theorem Rl.dp {g : G} {F H : Hp} (l : Same F H) : ∀ {vs : List V} {ds : List D} {ps : List PyData}, Rl g F vs ds → toPys ds = some ps → DpAll g.K H vs ps
  | _, [], _, r, e => by cases r; cases e; exact .nil
  | _, d :: ds, _, r, e => by
    cases r with
    | cons a b =>
      unfold toPys at e
      cases z : toPy d with
      | none => rw [z] at e; cases e
      | some p =>
        cases z2 : toPys ds with
        | none => rw [z, z2] at e; cases e
        | some ps => rw [z, z2] at e; cases e; exact .cons (Rv.dp l a z) (Rl.dp l b z2)
end
theorem Br.dp {g : G} {F H : Hp} (l : Same F H) {v : V} {d : D} {p : PyData} (r : Br g F H v d) (e : toPy d = some p) : Dp g.K H v p := by
  rcases r with r | ⟨a, vs, ds, rfl, rfl, h, q⟩
  · exact r.dp l e
  · unfold toPy at e
    cases z : toPys ds with
    | none => rw [z] at e; cases e
    | some ps => rw [z] at e; cases e; exact .lst (sqL_of h) (Rl.dp l q z)
theorem Br.lst {g : G} {F H : Hp} (l : Same F H) {v : V} {ds : List D} (r : Br g F H v (.lst ds)) : ∃ a vs, v = .ref a ∧ H a = some (.lst vs) ∧ Rl g F vs ds := by
  rcases r with r | ⟨a, vs, ds', rfl, e, h, q⟩
  · cases r with
    | lst h q => exact ⟨_, _, rfl, l _ _ h, q⟩
  · cases e; exact ⟨a, vs, rfl, h, q⟩
theorem Br.tup {g : G} {F H : Hp} (l : Same F H) {v : V} {ds : List D} (r : Br g F H v (.tup ds)) : ∃ a vs, v = .ref a ∧ SqT g.K H a vs ∧ Rl g F vs ds := by
  rcases r with r | ⟨a, vs, ds', rfl, e, h, q⟩
  · cases r with
    | tup h _ q => exact ⟨_, _, rfl, sqT_mono l h, q⟩
  · cases e
theorem Br.int {g : G} {F H : Hp} {v : V} {i : Int} (r : Br g F H v (.int i)) : v = .int i := by
  rcases r with r | ⟨a, vs, ds', rfl, e, h, q⟩
  · cases r; rfl
  · cases e
theorem Br.bl {g : G} {F H : Hp} {v : V} {i : Bool} (r : Br g F H v (.bl i)) : v = .bl i := by
  rcases r with r | ⟨a, vs, ds', rfl, e, h, q⟩
  · cases r; rfl
  · cases e
theorem Br.str {g : G} {F H : Hp} {v : V} {i : Str} (r : Br g F H v (.str i)) : v = .str i := by
  rcases r with r | ⟨a, vs, ds', rfl, e, h, q⟩
  · cases r; rfl
  · cases e
theorem Br.non {g : G} {F H : Hp} {v : V} (r : Br g F H v .non) : v = .non := by
  rcases r with r | ⟨a, vs, ds', rfl, e, h, q⟩
  · cases r; rfl
  · cases e

/-! ### operations on values -/
def VO1 (g : G) (r : V → Hp → VK → Prop) (op : D → Option D) : Prop := ∀ (H F : Hp) (v : V) (d z : D), Same F H → Br g F H v d → op d = some z → ∀ Q : VK, (∀ v' H' F', Grow H F H' F' → Rv g F' v' z → Q v' H') → r v H Q
def VO2 (g : G) (r : R2) (op : D → D → Option D) : Prop := ∀ (H F : Hp) (v u : V) (d e z : D), Same F H → Br g F H v d → Br g F H u e → op d e = some z → ∀ Q : VK, (∀ v' H' F', Grow H F H' F' → Rv g F' v' z → Q v' H') → r v u H Q
def VOC (g : G) (r : List V → Hp → VK → Prop) (op : D → Option D) : Prop := VO1 g (fun v => r [v]) op
def VOC2 (g : G) (r : List V → Hp → VK → Prop) (op : D → D → Option D) : Prop := VO2 g (fun v u => r [v, u]) op
/-- .. that give a new list -/
def VN1 (g : G) (r : V → Hp → VK → Prop) (op : D → Option (List D)) : Prop := ∀ (H F : Hp) (v : V) (d : D) (zs : List D), Same F H → Br g F H v d → op d = some zs → ∀ Q : VK, (∀ p vs, H p = none → Rl g F vs zs → Q (.ref p) (upd H p (.lst vs))) → r v H Q
def VN2 (g : G) (r : R2) (op : D → D → Option (List D)) : Prop := ∀ (H F : Hp) (v u : V) (d e : D) (zs : List D), Same F H → Br g F H v d → Br g F H u e → op d e = some zs → ∀ Q : VK, (∀ p vs, H p = none → Rl g F vs zs → Q (.ref p) (upd H p (.lst vs))) → r v u H Q

theorem OpR.or {X : Cx} {f : Value → Value → Sem Value} {r r' : R2} (h : OpR X f r) (h' : OpR X f r') : OpR X f (fun x y H Q => r x y H Q ∨ r' x y H Q) := by
  intro pins s σ H x y v u Q I rx ry q
  rcases q with q | q
  · exact h pins s σ H x y v u Q I rx ry q
  · exact h' pins s σ H x y v u Q I rx ry q

theorem newT {g : G} {H F : Hp} {vs : List V} {ds : List D} {Q : VK} (l : Same F H) (r : Rl g F vs ds) (q : ∀ v' H' F', Grow H F H' F' → Rv g F' v' (.tup ds) → Q v' H') : NewT H Q vs := by
  cases ht : g.tk with
  | false => exact .inl fun p hp => q _ _ _ (Grow.new l hp) (.tup (.inl (.inl upd_same)) (fun z => by rw [ht] at z; cases z) (r.mono (Grow.new l hp).f))
  | true => exact .inr fun p o hp ko => q _ _ _ (Grow.new l hp) (.tup (.inl (.inr ⟨o, upd_same⟩)) (fun _ => KnT.new ko) (r.mono (Grow.new l hp).f))
section
variable {g : G}
def big : Nat := 16777216
theorem big_eq : big = sizeLine := by rw [sizeLine_eq]; rfl

@[simp] def opAdd : D → D → Option D
  | .int i, .int j => some (.int (i + j))
  | .str x, .str y => if x.length + y.length ≤ big then some (.str (x ++ y)) else none
  | .tup xs, .tup ys => if xs.length + ys.length ≤ big then some (.tup (xs ++ ys)) else none
  | .lst xs, .lst ys => if xs.length + ys.length ≤ big then some (.lst (xs ++ ys)) else none
  | _, _ => none
def rAddD (K : PySem.W.Frag) : R2 := fun x y H Q => rI0 (fun i j => .int (i + j)) x y H Q ∨ (∃ i j, x = .str i ∧ y = .str j ∧ i.length + j.length ≤ sizeLine ∧ Q (.str (i ++ j)) H) ∨ rCatN K x y H Q ∨ rCat x y H Q
theorem op_addD {X : Cx} : OpR X (binaryOp .Add) (rAddD X.K) := op_add.or (op_add_str.or (op_catN.or op_cat))
theorem vo_add : VO2 g (rAddD g.K) opAdd := by
  intro H F v u d e z l rd re h Q q
  unfold opAdd at h
  split at h
  · cases h; cases rd.int; cases re.int
    exact .inl ⟨_, _, rfl, rfl, q _ _ _ (Grow.refl l) (.int _)⟩
  · split at h
    · rename_i hl
      cases h; cases rd.str; cases re.str
      exact .inr (.inl ⟨_, _, rfl, rfl, by rw [← big_eq]; exact hl, q _ _ _ (Grow.refl l) (.str _)⟩)
    · cases h
  · split at h
    · rename_i xs ys hl
      cases h
      obtain ⟨a, vs, rfl, h1, r1⟩ := rd.tup l
      obtain ⟨b, ws, rfl, h2, r2⟩ := re.tup l
      refine .inr (.inr (.inl ?_))
      refine ⟨a, b, vs, ws, rfl, rfl, h1, h2, by rw [r1.length, r2.length, ← big_eq]; exact hl, fun e => ?_, fun _ e => ?_, fun _ _ => newT l (r1.append r2) q⟩
      · subst e
        cases r1
        rcases re with re | ⟨_, _, _, _, e, _⟩
        · exact q _ _ _ (Grow.refl l) re
        · cases e
      · subst e
        cases r2
        rw [List.append_nil] at q
        rcases rd with rd | ⟨_, _, _, _, e, _⟩
        · exact q _ _ _ (Grow.refl l) rd
        · cases e
    · cases h
  · split at h
    · rename_i xs ys hl
      cases h
      obtain ⟨a, vs, rfl, h1, r1⟩ := rd.lst l
      obtain ⟨b, ws, rfl, h2, r2⟩ := re.lst l
      exact .inr (.inr (.inr ⟨a, b, vs, ws, rfl, rfl, h1, h2, by rw [r1.length, r2.length, ← big_eq]; exact hl, fun p hp => q _ _ _ (Grow.new l hp) (.lst upd_same ((r1.append r2).mono (Grow.new l hp).f))⟩))
    · cases h
  · cases h
@[simp] def nAdd : D → D → Option (List D)
  | .lst xs, .lst ys => if xs.length + ys.length ≤ big then some (xs ++ ys) else none
  | _, _ => none
theorem vn_add : VN2 g (rAddD g.K) nAdd := by
  intro H F v u d e z l rd re h Q q
  unfold nAdd at h
  split at h
  · split at h
    · rename_i xs ys hl
      cases h
      obtain ⟨a, vs, rfl, h1, r1⟩ := rd.lst l
      obtain ⟨b, ws, rfl, h2, r2⟩ := re.lst l
      exact .inr (.inr (.inr ⟨a, b, vs, ws, rfl, rfl, h1, h2, by rw [r1.length, r2.length, ← big_eq]; exact hl, fun p hp => q _ _ hp (r1.append r2)⟩))
    · cases h
  · cases h
@[simp] def opSub : D → D → Option D
  | .int i, .int j => some (.int (i - j))
  | _, _ => none
theorem vo_sub : VO2 g (rI0 fun i j => .int (i - j)) opSub := by
  intro H F v u d e z l rd re h Q q
  unfold opSub at h
  split at h
  · cases h; cases rd.int; cases re.int
    exact ⟨_, _, rfl, rfl, q _ _ _ (Grow.refl l) (.int _)⟩
  · cases h
def smallI (i : Int) : Bool := decide (i.natAbs < 18446744073709551616)
theorem small_of {i : Int} (h : smallI i = true) : -(2 ^ 64) < i ∧ i < 2 ^ 64 := by
  have : i.natAbs < 18446744073709551616 := of_decide_eq_true h
  omega
@[simp] def opMul : D → D → Option D
  | .int i, .int j => if smallI i || smallI j then some (.int (i * j)) else none
  | .lst xs, .int k => if xs.length * k.toNat ≤ big ∧ smallI (k * 4) = true ∧ k.natAbs < 9223372036854775808 then some (.lst (List.replicate k.toNat xs).flatten) else none
  | _, _ => none
def rMulD : R2 := fun x y H Q => rI CMul (fun i j => .int (i * j)) x y H Q ∨ rRep x y H Q
theorem op_mulD {X : Cx} : OpR X (binaryOp .Mult) rMulD := op_mul.or op_rep
theorem vo_mul : VO2 g rMulD opMul := by
  intro H F v u d e z l rd re h Q q
  unfold opMul at h
  split at h
  · split at h
    · rename_i hc
      cases h; cases rd.int; cases re.int
      refine .inl ⟨_, _, rfl, rfl, ?_, q _ _ _ (Grow.refl l) (.int _)⟩
      rcases Bool.or_eq_true_iff.mp hc with c | c
      · exact .inl (small_of c)
      · exact .inr (small_of c)
    · cases h
  · split at h
    · rename_i xs k hl
      cases h
      obtain ⟨a, vs, rfl, h1, r1⟩ := rd.lst l
      cases re.int
      obtain ⟨hl1, hl2, hl3⟩ := hl
      exact .inr ⟨a, k, vs, rfl, rfl, h1, by omega, by omega, by rw [r1.length, ← big_eq]; exact hl1, fun p hp => q _ _ _ (Grow.new l hp) (.lst upd_same ((r1.rep k.toNat).mono (Grow.new l hp).f))⟩
    · cases h
  · cases h
@[simp] def nMul : D → D → Option (List D)
  | .lst xs, .int k => if xs.length * k.toNat ≤ big ∧ k.natAbs < 9223372036854775808 then some (List.replicate k.toNat xs).flatten else none
  | _, _ => none
theorem vn_mul : VN2 g rMulD nMul := by
  intro H F v u d e z l rd re h Q q
  unfold nMul at h
  split at h
  · split at h
    · rename_i xs k hl
      cases h
      obtain ⟨a, vs, rfl, h1, r1⟩ := rd.lst l
      cases re.int
      obtain ⟨hl1, hl3⟩ := hl
      exact .inr ⟨a, k, vs, rfl, rfl, h1, by omega, by omega, by rw [r1.length, ← big_eq]; exact hl1, fun p hp => q _ _ hp (r1.rep k.toNat)⟩
    · cases h
  · cases h
@[simp] def opDiv : D → D → Option D
  | .int i, .int j => if j ≠ 0 ∧ j.natAbs < 1073741824 then some (.int (i.fdiv j)) else none
  | _, _ => none
theorem vo_div : VO2 g (rI CDivN fun i j => .int (i.fdiv j)) opDiv := by
  intro H F v u d e z l rd re h Q q
  unfold opDiv at h
  split at h
  · split at h
    · rename_i hc
      cases h; cases rd.int; cases re.int
      exact ⟨_, _, rfl, rfl, hc, q _ _ _ (Grow.refl l) (.int _)⟩
    · cases h
  · cases h
@[simp] def opMod : D → D → Option D
  | .int i, .int j => if j ≠ 0 then some (.int (i.fmod j)) else none
  | _, _ => none
theorem vo_mod : VO2 g (rI (fun _ j => j ≠ 0) fun i j => .int (i.fmod j)) opMod := by
  intro H F v u d e z l rd re h Q q
  unfold opMod at h
  split at h
  · split at h
    · rename_i hc
      cases h; cases rd.int; cases re.int
      exact ⟨_, _, rfl, rfl, hc, q _ _ _ (Grow.refl l) (.int _)⟩
    · cases h
  · cases h
@[simp] def opNeg : D → Option D
  | .int i => some (.int (-i))
  | _ => none
theorem vo_neg : VO1 g (rU fun i => .int (-i)) opNeg := by
  intro H F v d z l rd h Q q
  unfold opNeg at h
  split at h
  · cases h; cases rd.int
    exact ⟨_, rfl, q _ _ _ (Grow.refl l) (.int _)⟩
  · cases h
/-! comparisons -/
@[simp] def cmpI (p : Int → Int → Bool) : D → D → Option D
  | .int i, .int j => some (.bl (p i j))
  | _, _ => none
theorem vo_cmpI (p : Int → Int → Bool) : VO2 g (rI0 fun i j => .bl (p i j)) (cmpI p) := by
  intro H F v u d e z l rd re h Q q
  unfold cmpI at h
  split at h
  · cases h; cases rd.int; cases re.int
    exact ⟨_, _, rfl, rfl, q _ _ _ (Grow.refl l) (.bl _)⟩
  · cases h
@[simp] def opLt : D → D → Option D := cmpI fun i j => decide (i < j)
@[simp] def opLe : D → D → Option D := cmpI fun i j => decide (i ≤ j)
@[simp] def opGt : D → D → Option D := cmpI fun i j => decide (j < i)
@[simp] def opGe : D → D → Option D := cmpI fun i j => decide (j ≤ i)
def eqD (x y : D) : Option Bool := match toPy x, toPy y with
  | some p, some q => if SeqAt.shaped p && SeqAt.shaped q then some (PyData.eqv p q) else none
  | _, _ => none
@[simp] def opEq (x y : D) : Option D := match eqD x y with | some b => some (.bl b) | none => none
@[simp] def opNe (x y : D) : Option D := match eqD x y with | some b => some (.bl (!b)) | none => none
theorem eqD_some {x y : D} {b : Bool} (h : eqD x y = some b) : ∃ p q, toPy x = some p ∧ toPy y = some q ∧ SeqAt.shaped p = true ∧ SeqAt.shaped q = true ∧ b = PyData.eqv p q := by
  unfold eqD at h
  split at h
  · rename_i p q e1 e2
    split at h
    · rename_i hs
      cases h
      obtain ⟨h1, h2⟩ := Bool.and_eq_true_iff.mp hs
      exact ⟨p, q, e1, e2, h1, h2, rfl⟩
    · cases h
  · cases h
theorem vo_eq : VO2 g (rEqD g.K) opEq := by
  intro H F v u d e z l rd re h Q q
  unfold opEq at h
  split at h
  · rename_i b hb
    cases h
    obtain ⟨p, r, e1, e2, s1, s2, rfl⟩ := eqD_some hb
    exact ⟨p, r, rd.dp l e1, re.dp l e2, s1, s2, q _ _ _ (Grow.refl l) (.bl _)⟩
  · cases h
theorem vo_ne : VO2 g (rNeD g.K) opNe := by
  intro H F v u d e z l rd re h Q q
  unfold opNe at h
  split at h
  · rename_i b hb
    cases h
    obtain ⟨p, r, e1, e2, s1, s2, rfl⟩ := eqD_some hb
    exact ⟨p, r, rd.dp l e1, re.dp l e2, s1, s2, q _ _ _ (Grow.refl l) (.bl _)⟩
  · cases h
/-- is, is not: None and truth values -/
@[simp] def isD : D → D → Option Bool
  | .bl a, .bl b => some (decide (a = b))
  | d, .non => some (match d with | .non => true | _ => false)
  | _, _ => none
@[simp] def opIs (x y : D) : Option D := match isD x y with | some b => some (.bl b) | none => none
@[simp] def opIsNot (x y : D) : Option D := match isD x y with | some b => some (.bl (!b)) | none => none
def rIsD : R2 := fun x y H Q => (y = .non ∧ Q (.bl (decide (x = .non))) H) ∨ rIsB x y H Q
def rIsNotD : R2 := fun x y H Q => (y = .non ∧ Q (.bl (!decide (x = .non))) H) ∨ rNotB x y H Q
theorem op_isD {X : Cx} : OpR X (compareOp .Is) rIsD := op_isN.or op_isBl
theorem op_isNotD {X : Cx} : OpR X (compareOp .IsNot) rIsNotD := op_notN.or op_notBl
theorem isD_cases {H F : Hp} {v u : V} {d e : D} {b : Bool} (l : Same F H) (rd : Br g F H v d) (re : Br g F H u e) (h : isD d e = some b) : (u = .non ∧ b = decide (v = .non)) ∨ ∃ x y, v = .bl x ∧ u = .bl y ∧ b = decide (x = y) := by
  unfold isD at h
  split at h
  · cases h; cases rd.bl; cases re.bl
    exact .inr ⟨_, _, rfl, rfl, rfl⟩
  · cases h; cases re.non
    refine .inl ⟨rfl, ?_⟩
    rcases rd with rd | ⟨a, vs, ds, rfl, rfl, _⟩
    · cases rd <;> rfl
    · rfl
  · cases h
theorem vo_is : VO2 g rIsD opIs := by
  intro H F v u d e z l rd re h Q q
  unfold opIs at h
  split at h
  · rename_i b hb
    cases h
    rcases isD_cases l rd re hb with ⟨rfl, rfl⟩ | ⟨x, y, rfl, rfl, rfl⟩
    · exact .inl ⟨rfl, q _ _ _ (Grow.refl l) (.bl _)⟩
    · exact .inr ⟨x, y, rfl, rfl, q _ _ _ (Grow.refl l) (.bl _)⟩
  · cases h
theorem vo_isnot : VO2 g rIsNotD opIsNot := by
  intro H F v u d e z l rd re h Q q
  unfold opIsNot at h
  split at h
  · rename_i b hb
    cases h
    rcases isD_cases l rd re hb with ⟨rfl, rfl⟩ | ⟨x, y, rfl, rfl, rfl⟩
    · exact .inl ⟨rfl, q _ _ _ (Grow.refl l) (.bl _)⟩
    · exact .inr ⟨x, y, rfl, rfl, q _ _ _ (Grow.refl l) (.bl _)⟩
  · cases h
/-! in, not in -/
def flatD : D → Bool
  | .non | .bl _ | .int _ | .str _ => true
  | _ => false
def eqF : D → D → Bool
  | .non, .non => true
  | .bl a, .bl b => a == b
  | .bl a, .int b => (if a then 1 else 0) == b
  | .int a, .bl b => a == (if b then 1 else 0)
  | .int a, .int b => a == b
  | .str a, .str b => a == b
  | _, _ => false
theorem flat_rv {F : Hp} {v : V} {d : D} (r : Rv g F v d) (h : flatD d = true) : flatV v = true := by
  cases r <;> first | rfl | cases h
theorem eqF_rv {F : Hp} {v u : V} {d e : D} (r : Rv g F v d) (s : Rv g F u e) (h : flatD d = true) (h2 : flatD e = true) : eqV v u = eqF d e := by
  cases r <;> first | (cases s <;> first | rfl | cases h2) | cases h
theorem all_flat {F : Hp} : ∀ {vs : List V} {ds : List D}, Rl g F vs ds → ds.all flatD = true → vs.all flatV = true
  | _, _, .nil, _ => rfl
  | _, _, .cons r t, h => by
    rw [List.all_cons, Bool.and_eq_true] at h
    rw [List.all_cons, flat_rv r h.1, all_flat t h.2]; rfl
theorem any_eqF {F : Hp} {u : V} {e : D} (s : Rv g F u e) (h2 : flatD e = true) : ∀ {vs : List V} {ds : List D}, Rl g F vs ds → ds.all flatD = true → vs.any (fun y => eqV y u) = ds.any fun y => eqF y e
  | _, _, .nil, _ => rfl
  | _, _, .cons r t, h => by
    rw [List.all_cons, Bool.and_eq_true] at h
    rw [List.any_cons, List.any_cons, eqF_rv r s h.1 h2, any_eqF s h2 t h.2]
def inD (x y : D) : Option Bool := match y with
  | .lst ys => if flatD x && ys.all flatD then some (ys.any fun y => eqF y x) else
      match toPy x, toPys ys with
      | some p, some qs => if SeqAt.shaped p && SeqAt.shaped (.list qs) then some (qs.any fun z => PyData.eqv z p) else none
      | _, _ => none
  | .tup ys => if flatD x && ys.all flatD then some (ys.any fun y => eqF y x) else
      match toPy x, toPys ys with
      | some p, some qs => if SeqAt.shaped p && SeqAt.shaped (.tuple qs) then some (qs.any fun z => PyData.eqv z p) else none
      | _, _ => none
  | .str t => match x with | .str s => some (!(Builtin.Str.occurrences t s 0 t.length 1).isEmpty) | _ => none
  | _ => none
@[simp] def opIn (x y : D) : Option D := match inD x y with | some b => some (.bl b) | none => none
@[simp] def opNotIn (x y : D) : Option D := match inD x y with | some b => some (.bl (!b)) | none => none
def rInT (K : PySem.W.Frag) : R2 := fun x y H Q => ∃ d ds, Dp K H x d ∧ Dp K H y (.tuple ds) ∧ SeqAt.shaped d = true ∧ SeqAt.shaped (.tuple ds) = true ∧ Q (.bl (ds.any fun z => PyData.eqv z d)) H
def rNotInT (K : PySem.W.Frag) : R2 := fun x y H Q => ∃ d ds, Dp K H x d ∧ Dp K H y (.tuple ds) ∧ SeqAt.shaped d = true ∧ SeqAt.shaped (.tuple ds) = true ∧ Q (.bl (!(ds.any fun z => PyData.eqv z d))) H
theorem op_inT {X : Cx} (hu : X.A.units + 65 < cLine) : OpR X (compareOp .In) (rInT X.K) := by
  intro pins s σ H x y v u Q I rx ry hw
  obtain ⟨d, ds, hd, he, sd, se, q⟩ := hw
  obtain ⟨as, r1⟩ := Dp.reads I d x v hd rx
  obtain ⟨bs, r2⟩ := Dp.reads I (.tuple ds) y u he ry
  exact SeqAt.in_tuple_reads r2 r1 (SeqAt.canLay_of_shaped se) (SeqAt.canLay_of_shaped sd) (room_in_shaped sd hu) ⟨.bl _, H, I, rfl, q⟩
theorem op_notInT {X : Cx} (hu : X.A.units + 65 < cLine) : OpR X (compareOp .NotIn) (rNotInT X.K) := by
  intro pins s σ H x y v u Q I rx ry hw
  obtain ⟨d, ds, hd, he, sd, se, q⟩ := hw
  obtain ⟨as, r1⟩ := Dp.reads I d x v hd rx
  obtain ⟨bs, r2⟩ := Dp.reads I (.tuple ds) y u he ry
  exact SeqAt.notIn_tuple_reads r2 r1 (SeqAt.canLay_of_shaped se) (SeqAt.canLay_of_shaped sd) (room_in_shaped sd hu) ⟨.bl _, H, I, rfl, q⟩
def rInA (K : PySem.W.Frag) : R2 := fun x y H Q => rIn K false x y H Q ∨ rInD K x y H Q ∨ rInT K x y H Q ∨ ∃ i j, x = .str i ∧ y = .str j ∧ Q (.bl (!(Builtin.Str.occurrences j i 0 j.length 1).isEmpty)) H
def rNotInA (K : PySem.W.Frag) : R2 := fun x y H Q => rIn K true x y H Q ∨ rNotInD K x y H Q ∨ rNotInT K x y H Q ∨ ∃ i j, x = .str i ∧ y = .str j ∧ Q (.bl (!(!(Builtin.Str.occurrences j i 0 j.length 1).isEmpty))) H
theorem op_inA {X : Cx} (hu : X.A.units + 65 < cLine) : OpR X (compareOp .In) (rInA X.K) := op_in_seq.or ((op_inD hu).or ((op_inT hu).or op_in_str))
theorem op_notInA {X : Cx} (hu : X.A.units + 65 < cLine) : OpR X (compareOp .NotIn) (rNotInA X.K) := op_notIn_seq.or ((op_notInD hu).or ((op_notInT hu).or op_notIn_str))
theorem Br.flat {F H : Hp} {v : V} {d : D} (r : Br g F H v d) (h : flatD d = true) : Rv g F v d := by
  rcases r with r | ⟨_, _, _, _, rfl, _⟩
  · exact r
  · cases h
theorem inD_cases {H F : Hp} {v u : V} {d e : D} {b : Bool} (l : Same F H) (rd : Br g F H v d) (re : Br g F H u e) (h : inD d e = some b) :
    (∃ p xs, u = .ref p ∧ (SqL g.K H p xs ∨ SqT g.K H p xs) ∧ flatV v = true ∧ xs.all flatV = true ∧ inV v xs = b) ∨
    (∃ d ds, Dp g.K H v d ∧ Dp g.K H u (.list ds) ∧ SeqAt.shaped d = true ∧ SeqAt.shaped (.list ds) = true ∧ (ds.any fun z => PyData.eqv z d) = b) ∨
    (∃ d ds, Dp g.K H v d ∧ Dp g.K H u (.tuple ds) ∧ SeqAt.shaped d = true ∧ SeqAt.shaped (.tuple ds) = true ∧ (ds.any fun z => PyData.eqv z d) = b) ∨
    ∃ i j, v = .str i ∧ u = .str j ∧ (!(Builtin.Str.occurrences j i 0 j.length 1).isEmpty) = b := by
  unfold inD at h
  split at h
  · rename_i ys
    split at h
    · rename_i hf
      cases h
      obtain ⟨f1, f2⟩ := Bool.and_eq_true_iff.mp hf
      obtain ⟨a, vs, rfl, h1, r1⟩ := re.lst l
      exact .inl ⟨a, vs, rfl, .inl (sqL_of h1), flat_rv (rd.flat f1) f1, all_flat r1 f2, any_eqF (rd.flat f1) f1 r1 f2⟩
    · split at h
      · rename_i p qs e1 e2
        split at h
        · rename_i hs
          cases h
          obtain ⟨h1, h2⟩ := Bool.and_eq_true_iff.mp hs
          exact .inr (.inl ⟨p, qs, rd.dp l e1, re.dp l (by unfold toPy; rw [e2]), h1, h2, rfl⟩)
        · cases h
      · cases h
  · rename_i ys
    split at h
    · rename_i hf
      cases h
      obtain ⟨f1, f2⟩ := Bool.and_eq_true_iff.mp hf
      obtain ⟨a, vs, rfl, h1, r1⟩ := re.tup l
      exact .inl ⟨a, vs, rfl, .inr h1, flat_rv (rd.flat f1) f1, all_flat r1 f2, any_eqF (rd.flat f1) f1 r1 f2⟩
    · split at h
      · rename_i p qs e1 e2
        split at h
        · rename_i hs
          cases h
          obtain ⟨h1, h2⟩ := Bool.and_eq_true_iff.mp hs
          exact .inr (.inr (.inl ⟨p, qs, rd.dp l e1, re.dp l (by unfold toPy; rw [e2]), h1, h2, rfl⟩))
        · cases h
      · cases h
  · split at h
    · cases h
      exact .inr (.inr (.inr ⟨_, _, rd.str, re.str, rfl⟩))
    · cases h
  · cases h
theorem vo_in : VO2 g (rInA g.K) opIn := by
  intro H F v u d e z l rd re h Q q
  unfold opIn at h
  split at h
  · rename_i b hb
    cases h
    rcases inD_cases l rd re hb with ⟨p, xs, e1, e2, e3, e4, rfl⟩ | ⟨p, ds, e1, e2, e3, e4, rfl⟩ | ⟨p, ds, e1, e2, e3, e4, rfl⟩ | ⟨i, j, e1, e2, rfl⟩
    · exact .inl ⟨p, xs, e1, e2, e3, e4, q _ _ _ (Grow.refl l) (.bl _)⟩
    · exact .inr (.inl ⟨p, ds, e1, e2, e3, e4, q _ _ _ (Grow.refl l) (.bl _)⟩)
    · exact .inr (.inr (.inl ⟨p, ds, e1, e2, e3, e4, q _ _ _ (Grow.refl l) (.bl _)⟩))
    · exact .inr (.inr (.inr ⟨i, j, e1, e2, q _ _ _ (Grow.refl l) (.bl _)⟩))
  · cases h
theorem vo_notin : VO2 g (rNotInA g.K) opNotIn := by
  intro H F v u d e z l rd re h Q q
  unfold opNotIn at h
  split at h
  · rename_i b hb
    cases h
    rcases inD_cases l rd re hb with ⟨p, xs, e1, e2, e3, e4, rfl⟩ | ⟨p, ds, e1, e2, e3, e4, rfl⟩ | ⟨p, ds, e1, e2, e3, e4, rfl⟩ | ⟨i, j, e1, e2, rfl⟩
    · exact .inl ⟨p, xs, e1, e2, e3, e4, q _ _ _ (Grow.refl l) (.bl _)⟩
    · exact .inr (.inl ⟨p, ds, e1, e2, e3, e4, q _ _ _ (Grow.refl l) (.bl _)⟩)
    · exact .inr (.inr (.inl ⟨p, ds, e1, e2, e3, e4, q _ _ _ (Grow.refl l) (.bl _)⟩))
    · exact .inr (.inr (.inr ⟨i, j, e1, e2, q _ _ _ (Grow.refl l) (.bl _)⟩))
  · cases h
/-! items -/
@[simp] def opIx : D → D → Option D
  | .lst xs, .int i => atI xs i
  | .tup xs, .int i => atI xs i
  | .str z, .int i => if z.length ≤ big then match atI z.cps.toList i with | some c => some (.str ⟨#[c]⟩) | none => none else none
  | _, _ => none
theorem atI_rl {F : Hp} {vs : List V} {ds : List D} {i : Int} {z : D} (r : Rl g F vs ds) (h : atI ds i = some z) : ∃ v, atI vs i = some v ∧ Rv g F v z := by
  unfold atI at h ⊢
  rw [r.length]
  cases e : ixN ds.length i with
  | none => rw [e] at h; cases h
  | some j =>
    rw [e] at h
    obtain ⟨v, h1, h2⟩ := r.get (show ds[j]? = some z from h)
    exact ⟨v, h1, h2⟩
theorem vo_ix : VO2 g (rIx g.K) opIx := by
  intro H F v u d e z l rd re h Q q
  unfold opIx at h
  split at h
  · cases re.int
    obtain ⟨a, vs, rfl, h1, r1⟩ := rd.lst l
    obtain ⟨w, h2, r2⟩ := atI_rl r1 h
    exact .inl ⟨a, vs, _, w, rfl, rfl, sqL_of h1, h2, q _ _ _ (Grow.refl l) r2⟩
  · cases re.int
    obtain ⟨a, vs, rfl, h1, r1⟩ := rd.tup l
    obtain ⟨w, h2, r2⟩ := atI_rl r1 h
    exact .inr (.inl ⟨a, vs, _, w, rfl, rfl, h1, h2, q _ _ _ (Grow.refl l) r2⟩)
  · split at h
    · rename_i hz
      split at h
      · rename_i c hc
        cases h; cases re.int; cases rd.str
        exact .inr (.inr ⟨_, _, c, rfl, rfl, by rw [← big_eq]; exact hz, hc, q _ _ _ (Grow.refl l) (.str _)⟩)
      · cases h
    · cases h
  · cases h
/-! built-in functions of one or two values -/
@[simp] def opLen : D → Option D
  | .lst xs => some (.int xs.length)
  | .tup xs => some (.int xs.length)
  | .str z => if z.length ≤ big then some (.int z.length) else none
  | _ => none
def rLenD (K : PySem.W.Frag) : List V → Hp → VK → Prop := fun xs H Q => (∃ p ys, xs = [.ref p] ∧ (SqL K H p ys ∨ SqT K H p ys) ∧ Q (.int ys.length) H) ∨ ∃ z, xs = [.str z] ∧ z.length ≤ sizeLine ∧ Q (.int z.length) H
theorem call_lenD {X : Cx} : CallR X (.builtin "len") (rLenD X.K) := call_len_seq.or call_len_str
theorem vo_len : VOC g (rLenD g.K) opLen := by
  intro H F v d z l rd h Q q
  unfold opLen at h
  split at h
  · cases h
    obtain ⟨a, vs, rfl, h1, r1⟩ := rd.lst l
    exact .inl ⟨a, vs, rfl, .inl (sqL_of h1), by rw [r1.length]; exact q _ _ _ (Grow.refl l) (.int _)⟩
  · cases h
    obtain ⟨a, vs, rfl, h1, r1⟩ := rd.tup l
    exact .inl ⟨a, vs, rfl, .inr h1, by rw [r1.length]; exact q _ _ _ (Grow.refl l) (.int _)⟩
  · split at h
    · rename_i hz
      cases h; cases rd.str
      exact .inr ⟨_, rfl, by rw [← big_eq]; exact hz, q _ _ _ (Grow.refl l) (.int _)⟩
    · cases h
  · cases h
@[simp] def opAbs : D → Option D
  | .int i => some (.int (if i < 0 then -i else i))
  | _ => none
theorem vo_abs : VOC g (fun xs H Q => ∃ i, xs = [.int i] ∧ Q (.int (if i < 0 then -i else i)) H) opAbs := by
  intro H F v d z l rd h Q q
  unfold opAbs at h
  split at h
  · cases h; cases rd.int; exact ⟨_, rfl, q _ _ _ (Grow.refl l) (.int _)⟩
  · cases h
@[simp] def opMax2 : D → D → Option D
  | .int i, .int j => some (.int (if j > i then j else i))
  | _, _ => none
theorem vo_max2 : VOC2 g (fun xs H Q => ∃ i j, xs = [.int i, .int j] ∧ Q (.int (if j > i then j else i)) H) opMax2 := by
  intro H F v u d e z l rd re h Q q
  unfold opMax2 at h
  split at h
  · cases h; cases rd.int; cases re.int; exact ⟨_, _, rfl, q _ _ _ (Grow.refl l) (.int _)⟩
  · cases h
@[simp] def opMin2 : D → D → Option D
  | .int i, .int j => some (.int (if j < i then j else i))
  | _, _ => none
theorem vo_min2 : VOC2 g (fun xs H Q => ∃ i j, xs = [.int i, .int j] ∧ Q (.int (if j < i then j else i)) H) opMin2 := by
  intro H F v u d e z l rd re h Q q
  unfold opMin2 at h
  split at h
  · cases h; cases rd.int; cases re.int; exact ⟨_, _, rfl, q _ _ _ (Grow.refl l) (.int _)⟩
  · cases h
@[simp] def opInt : D → Option D
  | .int i => some (.int i)
  | .bl b => some (.int (if b then 1 else 0))
  | _ => none
theorem vo_int : VOC g (fun xs H Q => (∃ i, xs = [.int i] ∧ Q (.int i) H) ∨ ∃ k, xs = [.bl k] ∧ Q (.int (if k then 1 else 0)) H) opInt := by
  intro H F v d z l rd h Q q
  unfold opInt at h
  split at h
  · cases h; cases rd.int; exact .inl ⟨_, rfl, q _ _ _ (Grow.refl l) (.int _)⟩
  · cases h; cases rd.bl; exact .inr ⟨_, rfl, q _ _ _ (Grow.refl l) (.int _)⟩
  · cases h
@[simp] def opStr : D → Option D
  | .int i => if i.natAbs.log2 < 1920 then some (.str (toString i : String)) else none
  | _ => none
theorem vo_str : VOC g (fun xs H Q => ∃ i, xs = [.int i] ∧ i.natAbs.log2 < 1920 ∧ Q (.str (toString i : String)) H) opStr := by
  intro H F v d z l rd h Q q
  unfold opStr at h
  split at h
  · split at h
    · rename_i hz
      cases h; cases rd.int; exact ⟨_, rfl, hz, q _ _ _ (Grow.refl l) (.str _)⟩
    · cases h
  · cases h
@[simp] def opTuple : D → Option D
  | .lst xs => some (.tup xs)
  | .tup xs => some (.tup xs)
  | _ => none
theorem vo_tuple : VOC g (rTupN g.K) opTuple := by
  intro H F v d z l rd h Q q
  unfold opTuple at h
  split at h
  · cases h
    obtain ⟨a, vs, rfl, h1, r1⟩ := rd.lst l
    exact ⟨a, vs, rfl, .inl ⟨sqL_of h1, newT l r1 q⟩⟩
  · cases h
    rcases rd with rd | ⟨_, _, _, _, e, _⟩
    · obtain ⟨a, vs, rfl, h1, r1⟩ := Br.tup l (.inl rd)
      exact ⟨a, vs, rfl, .inr ⟨h1, q _ _ _ (Grow.refl l) rd⟩⟩
    · cases e
  · cases h
@[simp] def nList : D → Option (List D)
  | .lst xs => some xs
  | .tup xs => some xs
  | _ => none
theorem vn_list : VN1 g (fun v => (fun xs H Q => ∃ p ys, xs = [V.ref p] ∧ (SqL g.K H p ys ∨ SqT g.K H p ys) ∧ ∀ l, H l = none → Q (.ref l) (upd H l (.lst ys))) [v]) nList := by
  intro H F v d z l rd h Q q
  unfold nList at h
  split at h
  · cases h
    obtain ⟨a, vs, rfl, h1, r1⟩ := rd.lst l
    exact ⟨a, vs, rfl, .inl (sqL_of h1), fun p hp => q _ _ hp r1⟩
  · cases h
    obtain ⟨a, vs, rfl, h1, r1⟩ := rd.tup l
    exact ⟨a, vs, rfl, .inr h1, fun p hp => q _ _ hp r1⟩
  · cases h
/-! lists of ints, of truth values -/
def intsOf : List D → Option (List Int)
  | [] => some []
  | .int i :: r => match intsOf r with | some is => some (i :: is) | none => none
  | _ :: _ => none
theorem intsOf_eq : ∀ {ds : List D} {is : List Int}, intsOf ds = some is → ds = is.map D.int
  | [], _, e => by cases e; rfl
  | .int i :: r, _, e => by
    unfold intsOf at e
    split at e
    · rename_i js hj; cases e; rw [intsOf_eq hj]; rfl
    · cases e
def blsOf : List D → Option (List Bool)
  | [] => some []
  | .bl i :: r => match blsOf r with | some is => some (i :: is) | none => none
  | _ :: _ => none
theorem blsOf_eq : ∀ {ds : List D} {is : List Bool}, blsOf ds = some is → ds = is.map D.bl
  | [], _, e => by cases e; rfl
  | .bl i :: r, _, e => by
    unfold blsOf at e
    split at e
    · rename_i js hj; cases e; rw [blsOf_eq hj]; rfl
    · cases e
@[simp] def onInts {α : Type} (f : List Int → Option α) : D → Option α
  | .lst ds => match intsOf ds with | some is => f is | none => none
  | _ => none
theorem onInts_some {α : Type} {H F : Hp} {v : V} {f : List Int → Option α} {d : D} {z : α} (l : Same F H) (rd : Br g F H v d) (h : onInts f d = some z) : ∃ a is, v = .ref a ∧ H a = some (.lst (is.map V.int)) ∧ f is = some z := by
  unfold onInts at h
  split at h
  · split at h
    · rename_i is hi
      have := intsOf_eq hi
      subst this
      obtain ⟨a, vs, rfl, h1, r1⟩ := rd.lst l
      rw [r1.ints] at h1
      exact ⟨a, is, rfl, h1, h⟩
    · cases h
  · cases h
@[simp] def opSum : D → Option D := onInts fun is => some (.int is.sum)
theorem vo_sum : VOC g (rSum g.K) opSum := by
  intro H F v d z l rd h Q q
  obtain ⟨a, is, rfl, h1, e⟩ := onInts_some l rd h
  cases e
  exact ⟨a, is, rfl, sqL_of h1, q _ _ _ (Grow.refl l) (.int _)⟩
def minL : List Int → Int
  | [] => 0
  | [x] => x
  | x :: r => if x ≤ minL r then x else minL r
def maxL : List Int → Int
  | [] => 0
  | [x] => x
  | x :: r => if maxL r ≤ x then x else maxL r
theorem minL_spec : ∀ {is : List Int}, is ≠ [] → minL is ∈ is ∧ ∀ y ∈ is, minL is ≤ y
  | [], h => absurd rfl h
  | [x], _ => by simp [minL]
  | x :: y :: r, _ => by
    obtain ⟨h1, h2⟩ := minL_spec (is := y :: r) (by simp)
    unfold minL
    split
    · rename_i hx
      refine ⟨List.mem_cons_self, fun z hz => ?_⟩
      rcases List.mem_cons.mp hz with rfl | hz
      · exact Int.le_refl _
      · exact Int.le_trans hx (h2 z hz)
    · rename_i hx
      refine ⟨List.mem_cons_of_mem _ h1, fun z hz => ?_⟩
      rcases List.mem_cons.mp hz with rfl | hz
      · omega
      · exact h2 z hz
theorem maxL_spec : ∀ {is : List Int}, is ≠ [] → maxL is ∈ is ∧ ∀ y ∈ is, y ≤ maxL is
  | [], h => absurd rfl h
  | [x], _ => by simp [maxL]
  | x :: y :: r, _ => by
    obtain ⟨h1, h2⟩ := maxL_spec (is := y :: r) (by simp)
    unfold maxL
    split
    · rename_i hx
      refine ⟨List.mem_cons_self, fun z hz => ?_⟩
      rcases List.mem_cons.mp hz with rfl | hz
      · exact Int.le_refl _
      · exact Int.le_trans (h2 z hz) hx
    · rename_i hx
      refine ⟨List.mem_cons_of_mem _ h1, fun z hz => ?_⟩
      rcases List.mem_cons.mp hz with rfl | hz
      · omega
      · exact h2 z hz
@[simp] def opMin : D → Option D := onInts fun is => if is.isEmpty then none else some (.int (minL is))
@[simp] def opMax : D → Option D := onInts fun is => if is.isEmpty then none else some (.int (maxL is))
theorem vo_min : VOC g (rMin g.K) opMin := by
  intro H F v d z l rd h Q q
  obtain ⟨a, is, rfl, h1, e⟩ := onInts_some l rd h
  split at e
  · cases e
  · rename_i hn
    cases e
    have hne : is ≠ [] := fun e => hn (by rw [e]; rfl)
    obtain ⟨m1, m2⟩ := minL_spec hne
    refine ⟨a, is, rfl, sqL_of h1, List.length_pos_iff.mpr hne, fun m hm hy => ?_⟩
    have : m = minL is := Int.le_antisymm (hy _ m1) (m2 m hm)
    rw [this]
    exact q _ _ _ (Grow.refl l) (.int _)
theorem vo_max : VOC g (rMax g.K) opMax := by
  intro H F v d z l rd h Q q
  obtain ⟨a, is, rfl, h1, e⟩ := onInts_some l rd h
  split at e
  · cases e
  · rename_i hn
    cases e
    have hne : is ≠ [] := fun e => hn (by rw [e]; rfl)
    obtain ⟨m1, m2⟩ := maxL_spec hne
    refine ⟨a, is, rfl, sqL_of h1, List.length_pos_iff.mpr hne, fun m hm hy => ?_⟩
    have : m = maxL is := Int.le_antisymm (m2 m hm) (hy _ m1)
    rw [this]
    exact q _ _ _ (Grow.refl l) (.int _)
@[simp] def onBls {α : Type} (f : List Bool → Option α) : D → Option α
  | .lst ds => match blsOf ds with | some is => f is | none => none
  | _ => none
theorem onBls_some {α : Type} {H F : Hp} {v : V} {f : List Bool → Option α} {d : D} {z : α} (l : Same F H) (rd : Br g F H v d) (h : onBls f d = some z) : ∃ a is, v = .ref a ∧ H a = some (.lst (is.map V.bl)) ∧ f is = some z := by
  unfold onBls at h
  split at h
  · split at h
    · rename_i is hi
      have := blsOf_eq hi
      subst this
      obtain ⟨a, vs, rfl, h1, r1⟩ := rd.lst l
      rw [r1.bls] at h1
      exact ⟨a, is, rfl, h1, h⟩
    · cases h
  · cases h
@[simp] def opAll : D → Option D := onBls fun is => some (.bl (is.all id))
@[simp] def opAny : D → Option D := onBls fun is => some (.bl (is.any id))
theorem vo_all : VOC g (rAll g.K) opAll := by
  intro H F v d z l rd h Q q
  obtain ⟨a, is, rfl, h1, e⟩ := onBls_some l rd h
  cases e
  exact ⟨a, is, rfl, sqL_of h1, q _ _ _ (Grow.refl l) (.bl _)⟩
theorem vo_any : VOC g (rAny g.K) opAny := by
  intro H F v d z l rd h Q q
  obtain ⟨a, is, rfl, h1, e⟩ := onBls_some l rd h
  cases e
  exact ⟨a, is, rfl, sqL_of h1, q _ _ _ (Grow.refl l) (.bl _)⟩
end
end DL

namespace DL
open PySem PySem.Spec PyProof.Rows L2

/-! ### combinators -/
@[simp] def dVar (i : Nat) : Den D := fun st => match st[i]? with
  | some (.sh d) => .ok d st
  | some (.ow ds) => .ok (.lst ds) (st.set i (.sh (.lst ds)))
  | some (.o2 dss) => .ok (.lst (dss.map .lst)) (st.set i (.sh (.lst (dss.map .lst))))
  | _ => .stuck
@[simp] def dRd (i : Nat) : Den D := fun st => match st[i]? with
  | some (.sh d) => .ok d st
  | some (.ow ds) => .ok (.lst ds) st
  | some (.rf _ ds) => .ok (.lst ds) st
  | _ => .stuck
@[simp] def dC (d : D) : Den D := retD d
@[simp] def dOp1 (op : D → Option D) (a : Den D) : Den D := bindD a fun x => liftO (op x)
@[simp] def dOp2 (op : D → D → Option D) (a b : Den D) : Den D := bindD a fun x => bindD b fun y => liftO (op x y)
/-- first b, then the name's content -/
@[simp] def dOp2n (op : D → D → Option D) (i : Nat) (b : Den D) : Den D := bindD (dRd i) fun _ => bindD b fun y => bindD (dRd i) fun x => liftO (op x y)
@[simp] def dOp2m (op : D → D → Option D) (a : Den D) (j : Nat) : Den D := bindD a fun x => bindD (dRd j) fun y => liftO (op x y)
@[simp] def dOp1n (op : D → Option D) (i : Nat) : Den D := bindD (dRd i) fun x => liftO (op x)
@[simp] def dN1n (op : D → Option (List D)) (i : Nat) : Den (List D) := bindD (dRd i) fun x => liftO (op x)
@[simp] def dN1 (op : D → Option (List D)) (a : Den D) : Den (List D) := bindD a fun x => liftO (op x)
@[simp] def dN2 (op : D → D → Option (List D)) (a b : Den D) : Den (List D) := bindD a fun x => bindD b fun y => liftO (op x y)
@[simp] def dFrz (a : Den (List D)) : Den D := bindD a fun ds => retD (.lst ds)
@[simp] def dNil : Den (List D) := retD []
@[simp] def dCons (a : Den D) (r : Den (List D)) : Den (List D) := bindD a fun x => bindD r fun xs => retD (x :: xs)
@[simp] def dTup (a : Den (List D)) : Den D := bindD a fun ds => liftO (if ds.length ≤ big then some (.tup ds) else none)
@[simp] def dLst (a : Den (List D)) : Den (List D) := bindD a fun ds => liftO (if ds.length ≤ big then some ds else none)
@[simp] def asB : D → Option Bool
  | .bl b => some b
  | _ => none
@[simp] def dTst (a : Den D) : Den Bool := bindD a fun x => liftO (asB x)
@[simp] def dVal (a : Den Bool) : Den D := bindD a fun b => retD (.bl b)
@[simp] def dAnd (a b : Den Bool) : Den Bool := bindD a fun x => if x then b else retD false
@[simp] def dOr (a b : Den Bool) : Den Bool := bindD a fun x => if x then retD true else b
@[simp] def dNot (a : Den Bool) : Den Bool := bindD a fun x => retD (!x)
@[simp] def dIf {α : Type} (t : Den Bool) (a b : Den α) : Den α := bindD t fun x => if x then a else b
@[simp] def dChain (op op' : D → D → Option D) (a b c : Den D) : Den D := bindD a fun x => bindD b fun y => bindD (liftO (op x y)) fun z => bindD (liftO (asB z)) fun k => if k then bindD c fun w => liftO (op' y w) else retD (.bl false)

section
variable {X : Cx} {g : G} {W : WX} {e a b c : Expr} {f h k : Den D} {t u : Den Bool} {P : Par} {σ : L2.St} {H F : Hp} {st : DSt}

theorem SRc.nth (s : SR g P σ H F st) {i : Nat} {sl : Slot} (h : st[i]? = some sl) : ∃ ov, σ[i]? = some ov := by
  have := s.len
  have hi : i < st.length := by
    rcases Nat.lt_or_ge i st.length with q | q
    · exact q
    · rw [List.getElem?_eq_none q] at h; cases h
  exact ⟨σ[i], by simp [this, hi]⟩

/-- an owned list becomes data -/
theorem SR.freeze {i : Nat} {ds : List D} (s : SR g P σ H F st) (h : st[i]? = some (.ow ds)) : ∃ a F', σ[i]? = some (some (.ref a)) ∧ Same F F' ∧ Rv g F' (.ref a) (.lst ds) ∧ SR g P σ H F' (st.set i (.sh (.lst ds))) := by
  obtain ⟨ov, hov⟩ := SRc.nth s h
  obtain ⟨O, c⟩ := s
  obtain ⟨a, vs, rfl, ho, hn, ha, r⟩ := c.sl i _ _ h hov
  have fa := (c.oo a i ho).1
  have sf : Same F (upd F a (.lst vs)) := fun b o e => by
    rw [upd_ne (fun z => by subst z; rw [fa] at e; cases e)]; exact e
  have rv : Rv g (upd F a (.lst vs)) (.ref a) (.lst ds) := .lst upd_same (r.mono sf)
  refine ⟨a, upd F a (.lst vs), hov, sf, rv, fun b => if b = a then none else O b, ?_⟩
  refine ⟨fun b o e => ?_, c.rr, fun b j e => ?_, fun b n => ?_, by rw [List.length_set]; exact c.len, fun j s ov e1 e2 => ?_⟩
  · by_cases hb : b = a
    · subst hb; rw [upd_same] at e; cases e; exact ha
    · rw [upd_ne hb] at e; exact c.le _ _ e
  · by_cases hb : b = a
    · subst hb; simp at e
    · simp only [if_neg hb] at e
      rw [upd_ne hb]; exact c.oo b j e
  · have hb : b ≠ a := fun z => hn (z ▸ n)
    rw [upd_ne hb]; exact c.no b n
  · by_cases hj : j = i
    · subst hj
      have hlt : j < st.length := by
        rcases Nat.lt_or_ge j st.length with q | q
        · exact q
        · rw [List.getElem?_eq_none q] at h; cases h
      rw [List.getElem?_set_self hlt] at e1
      cases e1
      rw [hov] at e2; cases e2
      exact ⟨_, rfl, rv⟩
    · rw [List.getElem?_set_ne (Ne.symm hj)] at e1
      exact (c.sl j s ov e1 e2).move rfl (fun b o => by
        have hb : b ≠ a := fun z => hj (by rw [z, ho] at o; exact (Option.some.inj o).symm)
        simp only [if_neg hb]; exact o) sf (fun _ _ _ h => h) fun _ _ h => h

theorem Rl.of_get {F : Hp} : ∀ {vs : List V} {ds : List D}, vs.length = ds.length → (∀ (j : Nat) (v : V) (d : D), vs[j]? = some v → ds[j]? = some d → Rv g F v d) → Rl g F vs ds
  | [], [], _, _ => .nil
  | [], _ :: _, h, _ => nomatch h
  | _ :: _, [], h, _ => nomatch h
  | v :: vs, d :: ds, h, k => .cons (k 0 v d rfl rfl) (Rl.of_get (by simpa using h) fun j v d e1 e2 => k (j + 1) v d (by simpa using e1) (by simpa using e2))
theorem lt_of_get {α : Type} {l : List α} {i : Nat} {x : α} (h : l[i]? = some x) : i < l.length := (List.getElem?_eq_some_iff.mp h).1
/-- a list of lists becomes data -/
theorem SR.freeze2 {i : Nat} {dss : List (List D)} (s : SR g P σ H F st) (h : st[i]? = some (.o2 dss)) : ∃ a F', σ[i]? = some (some (.ref a)) ∧ Same F F' ∧ Rv g F' (.ref a) (.lst (dss.map .lst)) ∧ SR g P σ H F' (st.set i (.sh (.lst (dss.map .lst)))) := by
  obtain ⟨ov, hov⟩ := SRc.nth s h
  obtain ⟨O, c⟩ := s
  obtain ⟨a, bs, rfl, ho, hn, ha, nd, na, hl, hr⟩ := c.sl i _ _ h hov
  have own : ∀ x, (x = a ∨ x ∈ bs) → O x = some i ∧ ¬ P.N x := fun x hx => by
    rcases hx with rfl | hx
    · exact ⟨ho, hn⟩
    · obtain ⟨j, hj, e⟩ := List.getElem_of_mem hx
      have e1 : bs[j]? = some x := by rw [List.getElem?_eq_getElem hj, e]
      obtain ⟨o, n, _⟩ := hr j x _ e1 (List.getElem?_eq_getElem (by rw [← hl]; exact hj))
      exact ⟨o, n⟩
  let F' : Hp := fun x => if x = a ∨ x ∈ bs then H x else F x
  have fin : ∀ x, (x = a ∨ x ∈ bs) → F' x = H x := fun x hx => if_pos hx
  have fout : ∀ x, ¬ (x = a ∨ x ∈ bs) → F' x = F x := fun x hx => if_neg hx
  have sf : Same F F' := fun x o e => by
    rw [fout x fun hx => by rw [(c.oo x i (own x hx).1).1] at e; cases e]; exact e
  have rv : Rv g F' (.ref a) (.lst (dss.map .lst)) := by
    refine .lst (vs := bs.map V.ref) (by rw [fin a (.inl rfl)]; exact ha) (Rl.of_get (by simp [hl]) fun j v d e1 e2 => ?_)
    rw [List.getElem?_map] at e1 e2
    cases hb : bs[j]? with
    | none => rw [hb] at e1; cases e1
    | some b =>
      cases hd : dss[j]? with
      | none => rw [hd] at e2; cases e2
      | some ds =>
        rw [hb] at e1; rw [hd] at e2
        cases e1; cases e2
        obtain ⟨_, _, vs, h1, r1⟩ := hr j b ds hb hd
        exact .lst (by rw [fin b (.inr (List.mem_of_getElem? hb))]; exact h1) (r1.mono sf)
  refine ⟨a, F', hov, sf, rv, fun x => if x = a ∨ x ∈ bs then none else O x, ?_⟩
  refine ⟨fun x o e => ?_, c.rr, fun x j e => ?_, fun x n => ?_, by rw [List.length_set]; exact c.len, fun j s ov e1 e2 => ?_⟩
  · by_cases hx : x = a ∨ x ∈ bs
    · rw [fin x hx] at e; exact e
    · rw [fout x hx] at e; exact c.le x o e
  · by_cases hx : x = a ∨ x ∈ bs
    · simp [hx] at e
    · simp only [if_neg hx] at e
      rw [fout x hx]; exact c.oo x j e
  · have hx : ¬ (x = a ∨ x ∈ bs) := fun hx => (own x hx).2 n
    rw [fout x hx]; exact c.no x n
  · by_cases hj : j = i
    · subst hj
      rw [List.getElem?_set_self (lt_of_get h)] at e1
      cases e1
      rw [hov] at e2; cases e2
      exact ⟨_, rfl, rv⟩
    · rw [List.getElem?_set_ne (Ne.symm hj)] at e1
      exact (c.sl j s ov e1 e2).move rfl (fun x o => by
        have hx : ¬ (x = a ∨ x ∈ bs) := fun hx => hj (by rw [(own x hx).1] at o; exact (Option.some.inj o).symm)
        simp only [if_neg hx]; exact o) sf (fun _ _ _ h => h) fun _ _ h => h
theorem ev_var {i : Nat} (he : PE X e (tVar i)) : PE X e (tE g W (dVar i)) := he.imp fun σ H Q ⟨P, F, st, s, o⟩ => by
  unfold dVar at o
  split at o
  · rename_i d hd
    obtain ⟨ov, hov⟩ := SRc.nth s hd
    obtain ⟨O, c⟩ := id s
    obtain ⟨v, rfl, r⟩ := c.sl i _ _ hd hov
    exact ⟨v, hov, o H F (Same.refl _) s v r⟩
  · rename_i ds hd
    obtain ⟨a, F', h1, sf, r, s'⟩ := s.freeze hd
    exact ⟨_, h1, o H F' sf s' _ r⟩
  · rename_i dss hd
    obtain ⟨a, F', h1, sf, r, s'⟩ := s.freeze2 hd
    exact ⟨_, h1, o H F' sf s' _ r⟩
  · exact o.elim
theorem rd_at {i : Nat} {d : D} {st' : DSt} (s : SR g P σ H F st) (h : dRd i st = .ok d st') : st' = st ∧ ∃ v, σ[i]? = some (some v) ∧ Br g F H v d := by
  unfold dRd at h
  split at h
  · rename_i d hd
    cases h
    obtain ⟨ov, hov⟩ := SRc.nth s hd
    obtain ⟨O, c⟩ := id s
    obtain ⟨v, rfl, r⟩ := c.sl i _ _ hd hov
    exact ⟨rfl, v, hov, .inl r⟩
  · rename_i ds hd
    cases h
    obtain ⟨ov, hov⟩ := SRc.nth s hd
    obtain ⟨O, c⟩ := id s
    obtain ⟨a, vs, rfl, ho, hn, ha, r⟩ := c.sl i _ _ hd hov
    exact ⟨rfl, _, hov, .inr ⟨a, vs, ds, rfl, rfl, ha, r⟩⟩
  · rename_i ds hd
    cases h
    obtain ⟨ov, hov⟩ := SRc.nth s hd
    obtain ⟨O, c⟩ := id s
    obtain ⟨a, vs, rfl, ho, hn, ha, r⟩ := c.sl i _ _ hd hov
    exact ⟨rfl, _, hov, .inr ⟨a, vs, ds, rfl, rfl, ha, r⟩⟩
  · cases h
theorem rd_no {i : Nat} {c : Str} {fs : List (Str × D)} {st st' : DSt} : dRd i st ≠ .exn c fs st' := by
  unfold dRd
  split <;> exact fun h => by cases h
theorem ev_c {v : V} {d : D} (he : PE X e (tC v)) (r : ∀ F, Rv g F v d) : PE X e (tE g W (dC d)) := he.imp fun σ H Q ⟨P, F, st, s, o⟩ => o H F (Same.refl _) s v (r F)
theorem ev_int {i : Int} (he : PE X e (tC (.int i))) : PE X e (tE g W (dC (.int i))) := ev_c he fun _ => .int i
theorem ev_bl {i : Bool} (he : PE X e (tC (.bl i))) : PE X e (tE g W (dC (.bl i))) := ev_c he fun _ => .bl i
theorem ev_non (he : PE X e (tC .non)) : PE X e (tE g W (dC .non)) := ev_c he fun _ => .non
theorem ev_str {i : Str} (he : PE X e (tC (.str i))) : PE X e (tE g W (dC (.str i))) := ev_c he fun _ => .str i

/-- the end of an operation on values -/
theorem fin1 {r : V → Hp → VK → Prop} {op : D → Option D} (vo : VO1 g r op) {v : V} {x : D} {Q : VK} (s : SR g P σ H F st) (rx : Br g F H v x) (o : Out g W P σ F (liftO (op x) st) fun d _ H' F' => ∀ v, Rv g F' v d → Q v H') : r v H Q := by
  obtain ⟨z, ez, q⟩ := o.lift
  exact vo H F v x z s.le rx ez Q fun v' H' F' gr rv => q H' F' gr.f (s.grow gr) v' rv
theorem fin2 {r : R2} {op : D → D → Option D} (vo : VO2 g r op) {v u : V} {x y : D} {Q : VK} (s : SR g P σ H F st) (rx : Br g F H v x) (ry : Br g F H u y) (o : Out g W P σ F (liftO (op x y) st) fun d _ H' F' => ∀ v, Rv g F' v d → Q v H') : r v u H Q := by
  obtain ⟨z, ez, q⟩ := o.lift
  exact vo H F v u x y z s.le rx ry ez Q fun v' H' F' gr rv => q H' F' gr.f (s.grow gr) v' rv
theorem ev2 {r : R2} {op : D → D → Option D} (vo : VO2 g r op) (he : PE X e (tOp r (tE g W f) (tE g W h))) : PE X e (tE g W (dOp2 op f h)) := he.imp fun σ H Q ⟨P, F, st, s, o⟩ =>
  ⟨P, F, st, s, o.bind.imp fun x st1 H1 F1 le1 s1 o1 v rx => ⟨P, F1, st1, s1, o1.bind.imp fun y st2 H2 F2 le2 s2 o2 u ry => fin2 vo s2 (.inl (rx.mono le2)) (.inl ry) o2⟩⟩

/-- a name's content, read -/
theorem Out.rd {i : Nat} {α : Type} {kk : D → Den α} {K : α → DSt → Hp → Hp → Prop} (s : SR g P σ H F st) (o : Out g W P σ F (bindD (dRd i) kk st) K) :
    ∃ v d, σ[i]? = some (some v) ∧ Br g F H v d ∧ Out g W P σ F (kk d st) K := by
  unfold bindD at o
  cases e : dRd i st with
  | ok d st' =>
    rw [e] at o
    obtain ⟨rfl, v, h1, h2⟩ := rd_at s e
    exact ⟨v, d, h1, h2, o⟩
  | exn c fs st' => exact (rd_no e).elim
  | stuck => rw [e] at o; exact o.elim
theorem ev2n {r : R2} {i : Nat} {op : D → D → Option D} (vo : VO2 g r op) (he : PE X e (tOp r (tVar i) (tE g W h))) : PE X e (tE g W (dOp2n op i h)) := he.imp fun σ H Q ⟨P, F, st, s, o⟩ => by
  obtain ⟨v, d, hv, _, o1⟩ := o.rd s
  refine ⟨v, hv, P, F, st, s, o1.bind.imp fun y st2 H2 F2 le2 s2 o2 u ry => ?_⟩
  obtain ⟨v', d', hv', rx, o3⟩ := o2.rd s2
  rw [hv] at hv'; cases hv'
  exact fin2 vo s2 rx (.inl ry) o3
theorem ev2m {r : R2} {j : Nat} {op : D → D → Option D} (vo : VO2 g r op) (he : PE X e (tOp r (tE g W f) (tVar j))) : PE X e (tE g W (dOp2m op f j)) := he.imp fun σ H Q ⟨P, F, st, s, o⟩ =>
  ⟨P, F, st, s, o.bind.imp fun x st1 H1 F1 le1 s1 o1 v rx => by
    obtain ⟨v', d', hv', ry, o3⟩ := o1.rd s1
    exact ⟨v', hv', fin2 vo s1 (.inl rx) ry o3⟩⟩
theorem ev1 {r : V → Hp → VK → Prop} {op : D → Option D} (vo : VO1 g r op) (he : PE X e (tUn r (tE g W f))) : PE X e (tE g W (dOp1 op f)) := he.imp fun σ H Q ⟨P, F, st, s, o⟩ =>
  ⟨P, F, st, s, o.bind.imp fun x st1 H1 F1 le1 s1 o1 v rx => fin1 vo s1 (.inl rx) o1⟩
theorem evc1 {r : List V → Hp → VK → Prop} {op : D → Option D} (vo : VOC g r op) (he : PE X e (tCB r (tCons (tE g W f) tNil))) : PE X e (tE g W (dOp1 op f)) := he.imp fun σ H Q ⟨P, F, st, s, o⟩ =>
  ⟨P, F, st, s, o.bind.imp fun x st1 H1 F1 le1 s1 o1 v rx => fin1 vo s1 (.inl rx) o1⟩
theorem evc1n {r : List V → Hp → VK → Prop} {i : Nat} {op : D → Option D} (vo : VOC g r op) (he : PE X e (tCB r (tCons (tVar i) tNil))) : PE X e (tE g W (dOp1n op i)) := he.imp fun σ H Q ⟨P, F, st, s, o⟩ => by
  obtain ⟨v, d, hv, rx, o1⟩ := o.rd s
  exact ⟨v, hv, fin1 vo s rx o1⟩
theorem evc2 {r : List V → Hp → VK → Prop} {op : D → D → Option D} (vo : VOC2 g r op) (he : PE X e (tCB r (tCons (tE g W f) (tCons (tE g W h) tNil)))) : PE X e (tE g W (dOp2 op f h)) := he.imp fun σ H Q ⟨P, F, st, s, o⟩ =>
  ⟨P, F, st, s, o.bind.imp fun x st1 H1 F1 le1 s1 o1 v rx => ⟨P, F1, st1, s1, o1.bind.imp fun y st2 H2 F2 le2 s2 o2 u ry => fin2 vo s2 (.inl (rx.mono le2)) (.inl ry) o2⟩⟩

/-! new lists -/
theorem SR.newx {p : Addr} {o : HO} (s : SR g P σ H F st) (h : H p = none) : SRx g P σ (upd H p o) F st p := by
  obtain ⟨O, c⟩ := s
  have f0 : F p = none := by
    cases e : F p with
    | none => rfl
    | some u => rw [c.le _ _ e] at h; cases h
  have r0 : P.R p = none := by
    cases e : P.R p with
    | none => rfl
    | some u => rw [c.rr _ _ e] at h; cases h
  refine ⟨O, c.grow (Grow.new0 c.le h), ?_, f0, r0, fun n => (c.no p n).2 h⟩
  cases e : O p with
  | none => rfl
  | some i => exact absurd h (c.oo p i e).2.2
theorem SRx.sr {p : Addr} (s : SRx g P σ H F st p) : SR g P σ H F st := let ⟨O, c, _⟩ := s; ⟨O, c⟩
theorem SRx.frz {p : Addr} {vs : List V} (s : SRx g P σ H F st p) (h : H p = some (.lst vs)) : Same F (upd F p (.lst vs)) ∧ SR g P σ H (upd F p (.lst vs)) st := by
  obtain ⟨O, c, o0, f0, r0, n0⟩ := s
  have sf : Same F (upd F p (.lst vs)) := fun b o e => by
    rw [upd_ne (fun z => by subst z; rw [f0] at e; cases e)]; exact e
  refine ⟨sf, O, fun b o e => ?_, c.rr, fun b j e => ?_, fun b n => ?_, c.len, fun j s ov e1 e2 => ?_⟩
  · by_cases hb : b = p
    · subst hb; rw [upd_same] at e; cases e; exact h
    · rw [upd_ne hb] at e; exact c.le _ _ e
  · have hb : b ≠ p := fun z => by rw [z, o0] at e; cases e
    rw [upd_ne hb]; exact c.oo b j e
  · have hb : b ≠ p := fun z => n0 (z ▸ n)
    rw [upd_ne hb]; exact c.no b n
  · exact (c.sl j s ov e1 e2).move rfl (fun _ h => h) sf (fun _ _ _ h => h) fun _ _ h => h
theorem finN {r : V → Hp → VK → Prop} {op : D → Option (List D)} (vo : VN1 g r op) {v : V} {x : D} {Q : VK} (s : SR g P σ H F st) (rx : Br g F H v x) (o : OutN g W P σ F (liftO (op x) st) Q) : r v H Q := by
  cases ez : op x with
  | none => rw [ez] at o; exact o.elim
  | some zs =>
    rw [ez] at o
    exact vo H F v x zs s.le rx ez Q fun p vs hp rv => o _ F p vs (Same.refl _) (s.newx hp) upd_same rv
theorem finN2 {r : R2} {op : D → D → Option (List D)} (vo : VN2 g r op) {v u : V} {x y : D} {Q : VK} (s : SR g P σ H F st) (rx : Br g F H v x) (ry : Br g F H u y) (o : OutN g W P σ F (liftO (op x y) st) Q) : r v u H Q := by
  cases ez : op x y with
  | none => rw [ez] at o; exact o.elim
  | some zs =>
    rw [ez] at o
    exact vo H F v u x y zs s.le rx ry ez Q fun p vs hp rv => o _ F p vs (Same.refl _) (s.newx hp) upd_same rv
theorem OutN.weak {r : Res (List D)} {Q : VK} {F' : Hp} (e : Same F F') (h : OutN g W P σ F r Q) : OutN g W P σ F' r Q := by
  cases r with
  | ok a st' => exact fun H' F2 p vs e2 s => h H' F2 p vs (e.trans e2) s
  | exn c fs st' => exact fun cls dd H' F2 e2 s => h cls dd H' F2 (e.trans e2) s
  | stuck => exact h
theorem OutN.bind {α : Type} {a : Den α} {ff : α → Den (List D)} {Q : VK} (h : OutN g W P σ F (bindD a ff st) Q) : Out g W P σ F (a st) (fun x st1 _ F1 => OutN g W P σ F1 (ff x st1) Q) := by
  unfold bindD at h
  revert h
  cases a st with
  | ok x st' => exact fun h H' F' e s => OutN.weak e h
  | exn c fs st' => exact fun h => h
  | stuck => exact fun h => h
theorem OutN.rd {i : Nat} {kk : D → Den (List D)} {Q : VK} (s : SR g P σ H F st) (o : OutN g W P σ F (bindD (dRd i) kk st) Q) :
    ∃ v d, σ[i]? = some (some v) ∧ Br g F H v d ∧ OutN g W P σ F (kk d st) Q := by
  unfold bindD at o
  cases e : dRd i st with
  | ok d st' =>
    rw [e] at o
    obtain ⟨rfl, v, h1, h2⟩ := rd_at s e
    exact ⟨v, d, h1, h2, o⟩
  | exn c fs st' => exact (rd_no e).elim
  | stuck => rw [e] at o; exact o.elim
theorem evN1 {r : List V → Hp → VK → Prop} {op : D → Option (List D)} (vo : VN1 g (fun v => r [v]) op) (he : PE X e (tCB r (tCons (tE g W f) tNil))) : PE X e (tN g W (dN1 op f)) := he.imp fun σ H Q ⟨P, F, st, s, o⟩ =>
  ⟨P, F, st, s, o.bind.imp fun x st1 H1 F1 le1 s1 o1 v rx => finN vo s1 (.inl rx) o1⟩
theorem evN1n {r : List V → Hp → VK → Prop} {i : Nat} {op : D → Option (List D)} (vo : VN1 g (fun v => r [v]) op) (he : PE X e (tCB r (tCons (tVar i) tNil))) : PE X e (tN g W (dN1n op i)) := he.imp fun σ H Q ⟨P, F, st, s, o⟩ => by
  obtain ⟨v, d, hv, rx, o1⟩ := o.rd s
  exact ⟨v, hv, finN vo s rx o1⟩
theorem evN2 {r : R2} {op : D → D → Option (List D)} (vo : VN2 g r op) (he : PE X e (tOp r (tE g W f) (tE g W h))) : PE X e (tN g W (dN2 op f h)) := he.imp fun σ H Q ⟨P, F, st, s, o⟩ =>
  ⟨P, F, st, s, o.bind.imp fun x st1 H1 F1 le1 s1 o1 v rx => ⟨P, F1, st1, s1, o1.bind.imp fun y st2 H2 F2 le2 s2 o2 u ry => finN2 vo s2 (.inl (rx.mono le2)) (.inl ry) o2⟩⟩
theorem ev_frz {fn : Den (List D)} (he : PE X e (tN g W fn)) : PE X e (tE g W (dFrz fn)) := he.imp fun σ H Q ⟨P, F, st, s, o⟩ => by
  refine ⟨P, F, st, s, ?_⟩
  unfold dFrz bindD at o
  revert o
  cases fn st with
  | ok ds st' => exact fun o H' F' p vs le sx hp r => o H' (upd F' p (.lst vs)) (le.trans (sx.frz hp).1) (sx.frz hp).2 _ (.lst upd_same (r.mono (sx.frz hp).1))
  | exn c fs st' => exact fun o => o
  | stuck => exact fun o => o
/-! arguments, displays -/
theorem ea_nil (ha : PA X [] tNil) : PA X [] (tA g W dNil) := ha.imp fun σ H Q ⟨P, F, st, s, o⟩ => o H F (Same.refl _) s [] .nil
theorem ea_nil' : PA X [] (tA g W dNil) := ea_nil pa_nil
theorem ea_cons {es : List Expr} {fr : Den (List D)} (he : PE X e (tE g W f)) (hr : PA X es (tA g W fr)) (hs : starEach (e :: es) X.env = (false, eval e X.env) :: starEach es X.env := by rfl) : PA X (e :: es) (tA g W (dCons f fr)) :=
  (pa_cons he hr hs).imp fun σ H Q ⟨P, F, st, s, o⟩ => ⟨P, F, st, s, o.bind.imp fun x st1 H1 F1 le1 s1 o1 v rx => ⟨P, F1, st1, s1, o1.bind.imp fun xs st2 H2 F2 le2 s2 o2 vs rxs => o2 H2 F2 (Same.refl _) s2 _ (.cons (rx.mono le2) rxs)⟩⟩
theorem ev_tup {fr : Den (List D)} (he : PE X e (tTupN (tA g W fr))) : PE X e (tE g W (dTup fr)) := he.imp fun σ H Q ⟨P, F, st, s, o⟩ =>
  ⟨P, F, st, s, o.bind.imp fun ds st1 H1 F1 le1 s1 o1 vs rx => by
    obtain ⟨z, ez, q⟩ := o1.lift
    split at ez
    · rename_i hl
      cases ez
      exact ⟨by rw [rx.length, ← big_eq]; exact hl, newT s1.le rx fun v' H' F' gr rv => q _ _ gr.f (s1.grow gr) _ rv⟩
    · cases ez⟩
theorem evN_lst {fr : Den (List D)} (he : PE X e (tLst (tA g W fr))) : PE X e (tN g W (dLst fr)) := he.imp fun σ H Q ⟨P, F, st, s, o⟩ =>
  ⟨P, F, st, s, o.bind.imp fun ds st1 H1 F1 le1 s1 o1 vs rx => by
    unfold liftO at o1
    split at o1
    · rename_i ds' ez
      split at ez
      · rename_i hl
        cases ez
        exact ⟨by rw [rx.length, ← big_eq]; exact hl, fun p hp => o1 _ F1 p vs (Same.refl _) (s1.newx hp) upd_same rx⟩
      · cases ez
    · exact o1.elim⟩
/-! tests -/
theorem asB_some {d : D} {b : Bool} (h : asB d = some b) : d = .bl b := by
  cases d <;> cases h; rfl
theorem et_tst (he : PT X e (tB (tE g W f))) : PT X e (tT g W (dTst f)) := he.imp fun σ H Q ⟨P, F, st, s, o⟩ =>
  ⟨P, F, st, s, o.bind.imp fun x st1 H1 F1 le1 s1 o1 v rx => by
    obtain ⟨z, ez, q⟩ := o1.lift
    cases asB_some ez
    cases rx
    exact ⟨_, rfl, q H1 F1 (Same.refl _) s1⟩⟩
theorem et_cmp (he : PT X e (tTest (tE g W f))) : PT X e (tT g W (dTst f)) := et_tst he
theorem _root_.L2.PT.test {t t' : TE} (he : PT X e (tTest t)) (i : ∀ σ H Q, t' σ H Q → t σ H Q) : PT X e (tTest t') := he.imp fun σ H Q q => i _ _ _ q
theorem et_not (he : PT X e (tNot (tT g W t))) : PT X e (tT g W (dNot t)) := he.imp fun σ H Q ⟨P, F, st, s, o⟩ =>
  ⟨P, F, st, s, o.bind.imp fun x st1 H1 F1 le1 s1 o1 => o1 H1 F1 (Same.refl _) s1⟩
theorem et_and (he : PW X e (tAnd (tT g W t) (tT g W u))) : PW X e (tT g W (dAnd t u)) := he.imp fun σ H Q ⟨P, F, st, s, o⟩ =>
  ⟨P, F, st, s, o.bind.imp fun x st1 H1 F1 le1 s1 o1 => by
    cases x with
    | true => exact ⟨P, F1, st1, s1, o1⟩
    | false => exact o1 H1 F1 (Same.refl _) s1⟩
theorem et_or (he : PW X e (tOr (tT g W t) (tT g W u))) : PW X e (tT g W (dOr t u)) := he.imp fun σ H Q ⟨P, F, st, s, o⟩ =>
  ⟨P, F, st, s, o.bind.imp fun x st1 H1 F1 le1 s1 o1 => by
    cases x with
    | true => exact o1 H1 F1 (Same.refl _) s1
    | false => exact ⟨P, F1, st1, s1, o1⟩⟩
/-- and, or, not as values: all parts truth values -/
theorem ev_andV (he : PE X e (tAndV (tE g W f) (tE g W h))) : PE X e (tE g W (dIf (dTst f) h (dC (.bl false)))) := he.imp fun σ H Q ⟨P, F, st, s, o⟩ =>
  ⟨P, F, st, s, o.bind.bind.imp fun x st1 H1 F1 le1 s1 o1 v rx => by
    obtain ⟨z, ez, q⟩ := o1.lift
    cases asB_some ez
    cases rx
    refine ⟨z, rfl, ?_⟩
    cases z with
    | true => exact ⟨P, F1, st1, s1, q H1 F1 (Same.refl _) s1⟩
    | false => exact q H1 F1 (Same.refl _) s1 H1 F1 (Same.refl _) s1 _ (.bl false)⟩
theorem ev_orV (he : PE X e (tOrV (tE g W f) (tE g W h))) : PE X e (tE g W (dIf (dTst f) (dC (.bl true)) h)) := he.imp fun σ H Q ⟨P, F, st, s, o⟩ =>
  ⟨P, F, st, s, o.bind.bind.imp fun x st1 H1 F1 le1 s1 o1 v rx => by
    obtain ⟨z, ez, q⟩ := o1.lift
    cases asB_some ez
    cases rx
    refine ⟨z, rfl, ?_⟩
    cases z with
    | true => exact q H1 F1 (Same.refl _) s1 H1 F1 (Same.refl _) s1 _ (.bl true)
    | false => exact ⟨P, F1, st1, s1, q H1 F1 (Same.refl _) s1⟩⟩
theorem ev_notV (he : PE X e (tNotV (tE g W f))) : PE X e (tE g W (dVal (dNot (dTst f)))) := he.imp fun σ H Q ⟨P, F, st, s, o⟩ =>
  ⟨P, F, st, s, o.bind.bind.bind.imp fun x st1 H1 F1 le1 s1 o1 v rx => by
    obtain ⟨z, ez, q⟩ := o1.lift
    cases asB_some ez
    cases rx
    exact ⟨z, rfl, q H1 F1 (Same.refl _) s1 H1 F1 (Same.refl _) s1 H1 F1 (Same.refl _) s1 _ (.bl _)⟩⟩
theorem ev_ifE {tt : Den Bool} (he : PE X e (tIf (tT g W tt) (tE g W f) (tE g W h))) : PE X e (tE g W (dIf tt f h)) := he.imp fun σ H Q ⟨P, F, st, s, o⟩ =>
  ⟨P, F, st, s, o.bind.imp fun x st1 H1 F1 le1 s1 o1 => by
    cases x with
    | true => exact ⟨P, F1, st1, s1, o1⟩
    | false => exact ⟨P, F1, st1, s1, o1⟩⟩
theorem chain_imp {r r' : R2} {op op' : D → D → Option D} (vo : VO2 g r op) (vo' : VO2 g r' op') {Q : VK} {σ : L2.St} {H : Hp} (q : tE g W (dChain op op' f h k) σ H Q) : tChain r r' (tE g W f) (tE g W h) (tE g W k) σ H Q := by
  obtain ⟨P, F, st, s, o⟩ := q
  refine ⟨P, F, st, s, o.bind.imp fun x st1 H1 F1 le1 s1 o1 v rx => ⟨P, F1, st1, s1, o1.bind.imp fun y st2 H2 F2 le2 s2 o2 u ry => ?_⟩⟩
  obtain ⟨z, ez, q2⟩ := Out.lift o2.bind
  refine vo H2 F2 v u x y z s2.le (.inl (rx.mono le2)) (.inl ry) ez _ fun v' H' F' gr rv => ?_
  have q3 := q2 H' F' gr.f (s2.grow gr)
  obtain ⟨kb, ek, q4⟩ := Out.lift q3.bind
  cases asB_some ek
  cases rv
  refine ⟨kb, rfl, ?_⟩
  have q5 := q4 H' F' (Same.refl _) (s2.grow gr)
  cases kb with
  | true => exact ⟨P, F', st2, s2.grow gr, q5.bind.imp fun w st3 H3 F3 le3 s3 o3 vw rw' => fin2 vo' s3 (.inl ((ry.mono gr.f).mono le3)) (.inl rw') o3⟩
  | false => exact q5 H' F' (Same.refl _) (s2.grow gr) _ (.bl false)
theorem ev_chain {r r' : R2} {op op' : D → D → Option D} (vo : VO2 g r op) (vo' : VO2 g r' op') (he : PE X e (tChain r r' (tE g W f) (tE g W h) (tE g W k))) : PE X e (tE g W (dChain op op' f h k)) := he.imp fun _ _ _ q => chain_imp vo vo' q
theorem et_chain {r r' : R2} {op op' : D → D → Option D} (vo : VO2 g r op) (vo' : VO2 g r' op') (he : PT X e (tTest (tChain r r' (tE g W f) (tE g W h) (tE g W k)))) : PT X e (tT g W (dTst (dChain op op' f h k))) := et_tst (he.imp fun _ _ _ q => chain_imp vo vo' q)
/-- a comparison as a test -/
theorem et2 {r : R2} {op : D → D → Option D} (vo : VO2 g r op) (he : PT X e (tTest (tOp r (tE g W f) (tE g W h)))) : PT X e (tT g W (dTst (dOp2 op f h))) := et_tst (he.imp fun σ H Q ⟨P, F, st, s, o⟩ =>
  ⟨P, F, st, s, o.bind.imp fun x st1 H1 F1 le1 s1 o1 v rx => ⟨P, F1, st1, s1, o1.bind.imp fun y st2 H2 F2 le2 s2 o2 u ry => fin2 vo s2 (.inl (rx.mono le2)) (.inl ry) o2⟩⟩)
theorem et2m {r : R2} {j : Nat} {op : D → D → Option D} (vo : VO2 g r op) (he : PT X e (tTest (tOp r (tE g W f) (tVar j)))) : PT X e (tT g W (dTst (dOp2m op f j))) := et_tst (he.imp fun σ H Q ⟨P, F, st, s, o⟩ =>
  ⟨P, F, st, s, o.bind.imp fun x st1 H1 F1 le1 s1 o1 v rx => by
    obtain ⟨v', d', hv', ry, o3⟩ := o1.rd s1
    exact ⟨v', hv', fin2 vo s1 (.inl rx) ry o3⟩⟩)
end
end DL

namespace DL
open PySem PySem.Spec PyProof.Rows L2

/-! ### statements -/
inductive Fl where
  | nx | ret (d : D) | brk | cnt
abbrev DS := Den Fl
def OutS (g : G) (W : WX) (P : Par) (F : Hp) (r : Res Fl) (E : Ends) : Prop := match r with
  | .ok fl st' => ∀ σ' H' F', Same F F' → SR g P σ' H' F' st' → match fl with
    | .nx => E.nx σ' H'
    | .brk => E.bk σ' H'
    | .cnt => E.ct σ' H'
    | .ret d => ∀ v, Rv g F' v d → E.rt v H'
  | .exn c fs st' => ∀ cls dd σ' H' F', Same F F' → SR g P σ' H' F' st' → RepX g F' H' c fs cls dd → W cls dd σ' H'
  | .stuck => False
def tS (g : G) (W : WX) (f : DS) : TS := fun D σ H => ∃ P F st, SR g P σ H F st ∧ OutS g W P F (f st) D

@[simp] def slotSet (i : Nat) (s : Slot) (st : DSt) : Option DSt := match st[i]? with
  | some _ => some (st.set i s)
  | none => none
@[simp] def sExpr (f : Den D) : DS := bindD f fun _ => retD .nx
@[simp] def sRet (f : Den D) : DS := bindD f fun d => retD (.ret d)
@[simp] def sRetN : DS := retD (.ret .non)
@[simp] def sPass : DS := retD .nx
@[simp] def sBrk : DS := retD .brk
@[simp] def sCnt : DS := retD .cnt
@[simp] def putD (i : Nat) (s : Slot) : DS := fun st => match slotSet i s st with
  | some st' => .ok .nx st'
  | none => .stuck
@[simp] def sSet (i : Nat) (f : Den D) : DS := bindD f fun d => putD i (.sh d)
@[simp] def sOwn (i : Nat) (f : Den (List D)) : DS := bindD f fun ds => putD i (.ow ds)
@[simp] def sIf (t : Den Bool) (a b : DS) : DS := bindD t fun x => if x then a else b
@[simp] def sSeq (a b : DS) : DS := fun st => match a st with
  | .ok .nx st' => b st'
  | r => r
def sRaise (c : Str) (fs : List (Str × Den D)) : DS := fun _ => .stuck

/-- targets: one name, some names -/
inductive Tg where
  | nm (i : Nat) | nms (is : List Nat)
def Tg.is : Tg → List Nat
  | .nm i => [i]
  | .nms is => is
@[simp] def setAll : List Nat → List D → DSt → Option DSt
  | [], [], st => some st
  | i :: is, d :: ds, st => match slotSet i (.sh d) st with
    | some st' => setAll is ds st'
    | none => none
  | _, _, _ => none
@[simp] def setT (t : Tg) (d : D) (st : DSt) : Option DSt := match t with
  | .nm i => slotSet i (.sh d) st
  | .nms is => match d with
    | .tup ds => setAll is ds st
    | _ => none
def setσ : List Nat → List V → L2.St → L2.St
  | i :: is, x :: xs, σ => setσ is xs (σ.set i (some x))
  | _, _, σ => σ
def tG (g : G) (t : Tg) : TG := fun v σ H Q => ∃ P F st d, SR g P σ H F st ∧ Rv g F v d ∧ ∃ st', setT t d st = some st' ∧ ∀ xs, SR g P (setσ t.is xs σ) H F st' → Q (setσ t.is xs σ) H

def loop (t : Tg) (body : DS) : List D → DS
  | [] => retD .nx
  | d :: ds => fun st => match setT t d st with
    | none => .stuck
    | some st1 => match body st1 with
      | .ok .nx st2 => loop t body ds st2
      | .ok .cnt st2 => loop t body ds st2
      | .ok .brk st2 => .ok .nx st2
      | r => r
@[simp] def sFor (t : Tg) (fi : Den (List D)) (body : DS) : DS := bindD fi fun ds => loop t body ds
def sWhile (t : Den Bool) (body : DS) : Nat → DS
  | 0 => fun _ => .stuck
  | n + 1 => fun st => match t st with
    | .ok true st1 => match body st1 with
      | .ok .nx st2 => sWhile t body n st2
      | .ok .cnt st2 => sWhile t body n st2
      | .ok .brk st2 => .ok .nx st2
      | r => r
    | .ok false st1 => .ok .nx st1
    | .exn c fs st' => .exn c fs st'
    | .stuck => .stuck

section
variable {X : Cx} {g : G} {W : WX} {P : Par} {σ : L2.St} {H F : Hp} {st : DSt} {e : Expr} {s : Stmt} {ss : List Stmt} {f : Den D} {t : Den Bool} {a b : DS}

theorem OutS.weak {r : Res Fl} {E : Ends} {F' : Hp} (e : Same F F') (h : OutS g W P F r E) : OutS g W P F' r E := by
  cases r with
  | ok a st' => exact fun σ' H' F2 e2 s => h σ' H' F2 (e.trans e2) s
  | exn c fs st' => exact fun cls dd σ' H' F2 e2 s => h cls dd σ' H' F2 (e.trans e2) s
  | stuck => exact h
theorem OutS.bind {α : Type} {a : Den α} {k : α → DS} {E : Ends} (h : OutS g W P F (bindD a k st) E) : Out g W P σ F (a st) (fun x st1 _ F1 => OutS g W P F1 (k x st1) E) := by
  unfold bindD at h
  revert h
  cases a st with
  | ok x st' => exact fun h H' F' e s => OutS.weak e h
  | exn c fs st' => exact fun h cls dd H' F' e s => h cls dd σ H' F' e s
  | stuck => exact fun h => h

/-- a slot is stored -/
theorem slotSet_some {i : Nat} {sl : Slot} {st' : DSt} (h : slotSet i sl st = some st') : i < st.length ∧ st' = st.set i sl := by
  unfold slotSet at h
  split at h
  · rename_i x hx
    cases h
    refine ⟨?_, rfl⟩
    rcases Nat.lt_or_ge i st.length with q | q
    · exact q
    · rw [List.getElem?_eq_none q] at hx; cases hx
  · cases h
theorem SR.put {i : Nat} {v : V} {d : D} (s : SR g P σ H F st) (r : Rv g F v d) (hi : i < st.length) : SR g P (σ.set i (some v)) H F (st.set i (.sh d)) := by
  obtain ⟨O, c⟩ := s
  refine ⟨fun b => if O b = some i then none else O b, c.le, c.rr, fun b j e => ?_, c.no, by rw [List.length_set, List.length_set]; exact c.len, fun j s ov e1 e2 => ?_⟩
  · by_cases hb : O b = some i
    · simp [hb] at e
    · simp only [if_neg hb] at e; exact c.oo b j e
  · by_cases hj : j = i
    · subst hj
      rw [List.getElem?_set_self hi] at e1
      rw [List.getElem?_set_self (by rw [c.len]; exact hi)] at e2
      cases e1; cases e2
      exact ⟨v, rfl, r⟩
    · rw [List.getElem?_set_ne (Ne.symm hj)] at e1 e2
      exact (c.sl j s ov e1 e2).move rfl (fun b o => by
        show (if O b = some i then none else O b) = some j
        rw [if_neg (by rw [o]; intro z; exact hj (Option.some.inj z))]; exact o) (Same.refl _) (fun _ _ _ h => h) fun _ _ h => h
theorem SRx.own {p : Addr} {i : Nat} {vs : List V} {ds : List D} (s : SRx g P σ H F st p) (h : H p = some (.lst vs)) (r : Rl g F vs ds) (hi : i < st.length) : SR g P (σ.set i (some (.ref p))) H F (st.set i (.ow ds)) := by
  obtain ⟨O, c, o0, f0, r0, n0⟩ := s
  refine ⟨fun b => if b = p then some i else if O b = some i then none else O b, c.le, c.rr, fun b j e => ?_, c.no, by rw [List.length_set, List.length_set]; exact c.len, fun j s ov e1 e2 => ?_⟩
  · by_cases hp : b = p
    · subst hp; exact ⟨f0, r0, by rw [h]; simp⟩
    · simp only [if_neg hp] at e
      by_cases hb : O b = some i
      · simp [hb] at e
      · simp only [if_neg hb] at e; exact c.oo b j e
  · by_cases hj : j = i
    · subst hj
      rw [List.getElem?_set_self hi] at e1
      rw [List.getElem?_set_self (by rw [c.len]; exact hi)] at e2
      cases e1; cases e2
      exact ⟨p, vs, rfl, by simp, n0, h, r⟩
    · rw [List.getElem?_set_ne (Ne.symm hj)] at e1 e2
      exact (c.sl j s ov e1 e2).move rfl (fun b o => by
        have hp : b ≠ p := fun z => by rw [z, o0] at o; cases o
        simp only [if_neg hp]
        rw [if_neg (by rw [o]; intro z; exact hj (Option.some.inj z))]; exact o) (Same.refl _) (fun _ _ _ h => h) fun _ _ h => h

theorem es_expr (he : PS X s (tDrop (tE g W f))) : PS X s (tS g W (sExpr f)) := he.imp fun D σ H ⟨P, F, st, s, o⟩ =>
  ⟨P, F, st, s, o.bind.imp fun x st1 H1 F1 le1 s1 o1 v rx => o1 σ H1 F1 (Same.refl _) s1⟩
theorem es_ret (he : PS X s (tRet (tE g W f))) : PS X s (tS g W (sRet f)) := he.imp fun D σ H ⟨P, F, st, s, o⟩ =>
  ⟨P, F, st, s, o.bind.imp fun x st1 H1 F1 le1 s1 o1 v rx => o1 σ H1 F1 (Same.refl _) s1 v rx⟩
theorem es_retN (he : PS X s tRetN) : PS X s (tS g W sRetN) := he.imp fun D σ H ⟨P, F, st, s, o⟩ => o σ H F (Same.refl _) s .non .non
theorem es_pass (he : PS X s tNext) : PS X s (tS g W sPass) := he.imp fun D σ H ⟨P, F, st, s, o⟩ => o σ H F (Same.refl _) s
theorem es_brk (he : PS X s tBreak) : PS X s (tS g W sBrk) := he.imp fun D σ H ⟨P, F, st, s, o⟩ => o σ H F (Same.refl _) s
theorem es_cnt (he : PS X s tCont) : PS X s (tS g W sCnt) := he.imp fun D σ H ⟨P, F, st, s, o⟩ => o σ H F (Same.refl _) s
theorem es_never : PS X s (tS g W fun _ => .stuck) := (ps_never (X := X) (st := s)).imp fun D σ H ⟨P, F, st, s, o⟩ => o
theorem es_set {i : Nat} (he : PS X s (tAsg (tE g W f) (gName i))) : PS X s (tS g W (sSet i f)) := he.imp fun D σ H ⟨P, F, st, s, o⟩ =>
  ⟨P, F, st, s, o.bind.imp fun x st1 H1 F1 le1 s1 o1 v rx => by
    unfold putD at o1
    split at o1
    · rename_i st' h
      obtain ⟨hi, rfl⟩ := slotSet_some h
      exact o1 _ H1 F1 (Same.refl _) (s1.put rx hi)
    · exact o1.elim⟩
theorem es_own {i : Nat} {fn : Den (List D)} (he : PS X s (tAsg (tN g W fn) (gName i))) : PS X s (tS g W (sOwn i fn)) := he.imp fun D σ H ⟨P, F, st, s, o⟩ => by
  refine ⟨P, F, st, s, ?_⟩
  unfold sOwn bindD at o
  revert o
  cases fn st with
  | ok ds st' =>
    intro o H' F' p vs le sx hp r
    have o : OutS g W P F (putD i (.ow ds) st') D := o
    unfold putD at o
    split at o
    · rename_i st2 h
      obtain ⟨hi, rfl⟩ := slotSet_some h
      exact o _ H' F' le (sx.own hp r hi)
    · exact o.elim
  | exn c fs st' => exact fun o cls dd H' F' e s => o cls dd σ H' F' e s
  | stuck => exact fun o => o
theorem es_if (he : PS X s (tIfS (tT g W t) (tS g W a) (tS g W b))) : PS X s (tS g W (sIf t a b)) := he.imp fun D σ H ⟨P, F, st, s, o⟩ =>
  ⟨P, F, st, s, o.bind.imp fun x st1 H1 F1 le1 s1 o1 => by
    cases x with
    | true => exact ⟨P, F1, st1, s1, o1⟩
    | false => exact ⟨P, F1, st1, s1, o1⟩⟩
theorem seq_imp {D : Ends} (q : tS g W (sSeq a b) D σ H) : tSeq (tS g W a) (tS g W b) D σ H := by
  obtain ⟨P, F, st, s, o⟩ := q
  refine ⟨P, F, st, s, ?_⟩
  unfold sSeq at o
  revert o
  cases a st with
  | ok fl st' =>
    cases fl with
    | nx => exact fun o σ' H' F' le s' => ⟨P, F', st', s', OutS.weak le o⟩
    | ret d => exact fun o => o
    | brk => exact fun o => o
    | cnt => exact fun o => o
  | exn c fs st' => exact fun o => o
  | stuck => exact fun o => o
theorem ess_cons (h1 : PS X s (tS g W a)) (h2 : PSs X ss (tS g W b)) : PSs X (s :: ss) (tS g W (sSeq a b)) := (pss_cons h1 h2).imp fun _ _ _ q => seq_imp q
theorem ess_one (h1 : PS X s (tS g W a)) : PSs X [s] (tS g W a) := pss_one h1
theorem ess_nil : PSs X [] (tS g W sPass) := (pss_nil (X := X)).imp fun D σ H ⟨P, F, st, s, o⟩ => o σ H F (Same.refl _) s

/-! targets -/
theorem _root_.L2.PG.imp {X : Cx} {e : Expr} {t t' : TG} (h : PG X e t) (i : ∀ v σ H Q, t' v σ H Q → t v σ H Q) : PG X e t' := ⟨fun pins s σ H v u Q I r q => h.run pins s σ H v u Q I r (i v σ H Q q)⟩
theorem eg_nm {i : Nat} (h : PG X e (gName i)) : PG X e (tG g (.nm i)) := h.imp fun v σ H Q ⟨P, F, st, d, s, r, st', e, q⟩ => by
  obtain ⟨hi, rfl⟩ := slotSet_some e
  exact q [v] (s.put r hi)
def gNames : List Nat → TGs
  | [] => gNil
  | i :: is => gCons (gName i) (gNames is)
theorem gNames_imp : ∀ (is : List Nat) (vs : List V) (ds : List D) (σ : L2.St) (H F : Hp) (st st' : DSt) (Q : L2.St → Hp → Prop), SR g P σ H F st → Rl g F vs ds → setAll is ds st = some st' → (∀ xs, SR g P (setσ is xs σ) H F st' → Q (setσ is xs σ) H) → gNames is vs σ H Q
  | [], vs, ds, σ, H, F, st, st', Q, s, r, e, q => by
    cases ds with
    | nil => cases r; cases e; exact ⟨rfl, q [] s⟩
    | cons d ds => cases e
  | i :: is, vs, ds, σ, H, F, st, st', Q, s, r, e, q => by
    cases ds with
    | nil => cases e
    | cons d ds =>
      cases r with
      | cons r1 rs =>
        unfold setAll at e
        split at e
        · rename_i st1 h1
          obtain ⟨hi, rfl⟩ := slotSet_some h1
          exact ⟨_, _, rfl, gNames_imp is _ ds _ H F _ st' Q (s.put r1 hi) rs e fun xs => q (_ :: xs)⟩
        · cases e
theorem setAll_length : ∀ {is : List Nat} {ds : List D} {st st' : DSt}, setAll is ds st = some st' → ds.length = is.length
  | [], [], _, _, _ => rfl
  | [], _ :: _, _, _, e => by cases e
  | _ :: _, [], _, _, e => by cases e
  | i :: is, d :: ds, st, st', e => by
    unfold setAll at e
    split at e
    · rw [List.length_cons, List.length_cons, setAll_length e]
    · cases e
theorem eg_nms {is : List Nat} {n : Nat} (h : PG X e (gTup g.K n (gNames is))) (hn : n = is.length) : PG X e (tG g (.nms is)) := h.imp fun v σ H Q ⟨P, F, st, d, s, r, st', e, q⟩ => by
  cases d with
  | tup ds =>
    obtain ⟨a, vs, rfl, h1, r1⟩ := Br.tup s.le (.inl r)
    exact ⟨a, vs, rfl, h1, by rw [r1.length, setAll_length e, hn], gNames_imp is vs ds σ H F st st' Q s r1 e q⟩
  | _ => cases e

/-! what a loop walks -/
structure Wk (g : G) (J : It) (F : Hp) (ds : List D) : Prop where
  stop : ∀ H', Same F H' → J.stop ds.length H'
  go : ∀ i H', Same F H' → i < ds.length → J.go i H'
  yld : ∀ i H' x H'', Same F H' → i < ds.length → J.yld i H' x H'' → H'' = H' ∧ ∃ d, ds[i]? = some d ∧ Rv g F x d
def tI (g : G) (W : WX) (fi : Den (List D)) : TI := fun σ H R => ∃ P F st, SR g P σ H F st ∧ Out g W P σ F (fi st) fun ds _ H' F' => ∀ J, Wk g J F' ds → R J H'
theorem _root_.L2.PI.imp {X : Cx} {tg it : Expr} {w w' : TI} (h : PI X tg it w) (i : ∀ σ H R, w' σ H R → w σ H R) : PI X tg it w' := ⟨fun pins s σ H R I q => h.run pins s σ H R I (i σ H R q)⟩
@[simp] def itemsOf : D → Option (List D)
  | .lst xs => some xs
  | .tup xs => some xs
  | _ => none
@[simp] def dItems (f : Den D) : Den (List D) := bindD f fun d => liftO (itemsOf d)
@[simp] def rangeL (n : Int) : Option (List D) := if n.natAbs ≤ big then some ((List.range n.toNat).map fun k : Nat => D.int (k : Int)) else none
@[simp] def rangeL2 (m n : Int) : Option (List D) := if m.natAbs ≤ big ∧ n.natAbs ≤ big then some ((List.range (n - m).toNat).map fun k => D.int (m + (k : Nat))) else none
@[simp] def rngD : D → Option (List D)
  | .int n => rangeL n
  | _ => none
@[simp] def rngD2 : D → D → Option (List D)
  | .int m, .int n => rangeL2 m n
  | _, _ => none
@[simp] def dRng (f : Den D) : Den (List D) := bindD f fun d => liftO (rngD d)
@[simp] def dRng2 (f h : Den D) : Den (List D) := bindD f fun d => bindD h fun d2 => liftO (rngD2 d d2)
theorem wk_l {F : Hp} {a : Addr} {vs : List V} {ds : List D} (h : F a = some (.lst vs)) (r : Rl g F vs ds) : Wk g (Itl g.K a) F ds where
  stop := fun H' le => ⟨vs, sqL_of (le _ _ h), by rw [r.length]; exact Nat.le_refl _⟩
  go := fun i H' le hi => ⟨vs, vs[i]'(by rw [r.length]; exact hi), sqL_of (le _ _ h), by simp [r.length, hi]⟩
  yld := fun i H' x H'' le hi y => by
    obtain ⟨e, y⟩ := y
    refine ⟨e, ?_⟩
    exact r.get' (y vs (sqL_of (le _ _ h)))
theorem wk_t {F : Hp} {a : Addr} {vs : List V} {ds : List D} (h : SqT g.K F a vs) (r : Rl g F vs ds) : Wk g (Itt g.K a) F ds where
  stop := fun H' le => ⟨vs, sqT_mono le h, by rw [r.length]; exact Nat.le_refl _⟩
  go := fun i H' le hi => ⟨vs, vs[i]'(by rw [r.length]; exact hi), sqT_mono le h, by simp [r.length, hi]⟩
  yld := fun i H' x H'' le hi y => by
    obtain ⟨e, y⟩ := y
    refine ⟨e, ?_⟩
    exact r.get' (y vs (sqT_mono le h))
theorem wk_r (F : Hp) (lo : Int) (n : Nat) : Wk g (Itr lo n) F ((List.range n).map fun k => D.int (lo + (k : Nat))) where
  stop := fun H' le => by show n ≤ _; simp
  go := fun i H' le hi => by show i < n; simpa using hi
  yld := fun i H' x H'' le hi y => by
    obtain ⟨e, y⟩ := y
    refine ⟨e, .int (lo + i), ?_, ?_⟩
    · have : i < n := by simpa using hi
      simp [this]
    · rw [y]; exact .int _
def iAny (K : PySem.W.Frag) (tl : TE) : TI := fun σ H R => tl σ H fun x H1 => ∃ a, x = .ref a ∧ (((∃ xs, SqL K H1 a xs) ∧ R (Itl K a) H1) ∨ ((∃ xs, SqT K H1 a xs) ∧ R (Itt K a) H1))
theorem pi_any {tg l : Expr} {tl : TE} (hl : PE X l tl) : PI X tg l (iAny X.K tl) := by
  refine ⟨fun pins s σ H R I h => ?_⟩
  refine thn (hl.run pins s σ H _ I h) fun v s1 ⟨x, H1, I1, r1, q1⟩ => ?_
  obtain ⟨a, e, q1⟩ := q1
  subst e
  cases r1
  rcases q1 with ⟨⟨xs, hq⟩, q⟩ | ⟨⟨xs, hq⟩, q⟩
  · obtain ⟨its, rv, p, hz⟩ := I1.list hq
    refine wpAny_pyIter_list p.isList ?_
    refine ⟨s1.heap.objs.size, [s1.heap.objs.size], _, _, H1, rfl, I1.kept (t' := s1.toks) fun b o e => Heap.get?_push_of_some _ e, turn_list a _, ⟨_, Heap.get?_push_size _ rfl, rfl, rfl⟩, fun b hb => ?_, q⟩
    have e : b = s1.heap.objs.size := by simpa using hb
    subst e
    exact I1.fpOk (Nat.le_refl _) (I1.hok.fresh (Nat.le_refl _))
  · obtain ⟨its, rv, p, hz⟩ := I1.tuple hq
    refine wpAny_pyIter_tuple (show s1.heap.IsTuple a its.toArray from p) ?_
    refine ⟨s1.heap.objs.size, [s1.heap.objs.size], _, _, H1, rfl, I1.kept (t' := s1.toks) fun b o e => Heap.get?_push_of_some _ e, turn_tuple a _, ⟨_, Heap.get?_push_size _ rfl, rfl, rfl⟩, fun b hb => ?_, q⟩
    have e : b = s1.heap.objs.size := by simpa using hb
    subst e
    exact I1.fpOk (Nat.le_refl _) (I1.hok.fresh (Nat.le_refl _))
theorem ei_any {tg it : Expr} (h : PI X tg it (iAny g.K (tE g W f))) : PI X tg it (tI g W (dItems f)) := h.imp fun σ H R ⟨P, F, st, s, o⟩ =>
  ⟨P, F, st, s, o.bind.imp fun d st1 H1 F1 le1 s1 o1 v rx => by
    obtain ⟨ds, ez, q⟩ := o1.lift
    have q := q H1 F1 (Same.refl _) s1
    cases d with
    | lst xs =>
      cases ez
      obtain ⟨a, vs, rfl, h1, r1⟩ := Br.lst (H := F1) (Same.refl _) (.inl rx)
      exact ⟨a, rfl, .inl ⟨⟨vs, sqL_of (s1.le _ _ h1)⟩, q _ (wk_l h1 r1)⟩⟩
    | tup xs =>
      cases ez
      obtain ⟨a, vs, rfl, h1, r1⟩ := Br.tup (H := F1) (Same.refl _) (.inl rx)
      exact ⟨a, rfl, .inr ⟨⟨vs, sqT_mono s1.le h1⟩, q _ (wk_t h1 r1)⟩⟩
    | _ => cases ez⟩
theorem ei_rng {tg it : Expr} (h : PI X tg it (iRng1 (tCons (tE g W f) tNil))) : PI X tg it (tI g W (dRng f)) := h.imp fun σ H R ⟨P, F, st, s, o⟩ =>
  ⟨P, F, st, s, o.bind.imp fun d st1 H1 F1 le1 s1 o1 v rx => by
    obtain ⟨ds, ez, q⟩ := o1.lift
    have q := q H1 F1 (Same.refl _) s1
    cases d with
    | int n =>
      cases rx
      simp only [rngD, rangeL] at ez
      split at ez
      · rename_i hn
        cases ez
        have hb : big = 16777216 := rfl
        have := wk_r (g := g) F1 0 n.toNat
        simp only [Int.zero_add] at this
        exact ⟨n, rfl, by omega, by omega, q _ this⟩
      · cases ez
    | _ => cases ez⟩
theorem ei_rng2 {tg it : Expr} {h2 : Den D} (h : PI X tg it (iRng2 (tCons (tE g W f) (tCons (tE g W h2) tNil)))) : PI X tg it (tI g W (dRng2 f h2)) := h.imp fun σ H R ⟨P, F, st, s, o⟩ =>
  ⟨P, F, st, s, o.bind.imp fun d st1 H1 F1 le1 s1 o1 v rx => ⟨P, F1, st1, s1, o1.bind.imp fun d2 st2 H2 F2 le2 s2 o2 v2 rx2 => by
    obtain ⟨ds, ez, q⟩ := o2.lift
    have q := q H2 F2 (Same.refl _) s2
    cases d with
    | int m =>
      cases d2 with
      | int n =>
        cases rx; cases rx2
        simp only [rngD2, rangeL2] at ez
        split at ez
        · rename_i hn
          cases ez
          have hb : big = 16777216 := rfl
          obtain ⟨hn1, hn2⟩ := hn
          exact ⟨m, n, rfl, ⟨by omega, by omega, by omega, by omega⟩, q _ (wk_r (g := g) F2 m (n - m).toNat)⟩
        · cases ez
      | _ => cases ez
    | _ => cases ez⟩⟩

/-! for, while -/
theorem es_for {tgt : Tg} {fi : Den (List D)} (he : PS X s (tFor (tI g W fi) (tG g tgt) (tS g W a))) : PS X s (tS g W (sFor tgt fi a)) := he.imp fun E σ H ⟨P, F, st, s, o⟩ =>
  ⟨P, F, st, s, o.bind.imp fun ds st1 H1 F1 le1 s1 o1 J wk => by
    refine ⟨fun i m σ H => m = ds.length - i ∧ i ≤ ds.length ∧ ∃ F' st', Same F1 F' ∧ SR g P σ H F' st' ∧ OutS g W P F' (loop tgt a (ds.drop i) st') E, ⟨ds.length, by simp, Nat.zero_le _, F1, st1, Same.refl _, s1, by simpa using o1⟩, ?_⟩
    rintro i m σ H ⟨rfl, hi, F', st', le, s', o'⟩
    by_cases hlt : i < ds.length
    · refine .inr ⟨wk.go i H (le.trans s'.le) hlt, fun σ H => ∃ F' st', Same F1 F' ∧ SR g P σ H F' st' ∧ OutS g W P F' (loop tgt a (ds.drop (i + 1)) st') E, fun σ' H' p' => ⟨ds.length - (i + 1), by omega, rfl, hlt, p'⟩, fun x H' y => ?_⟩
      obtain ⟨rfl, d, hd, rd⟩ := wk.yld i H x H' (le.trans s'.le) hlt y
      have hdr : ds.drop i = d :: ds.drop (i + 1) := by
        rw [List.drop_eq_getElem_cons hlt]
        have : ds[i] = d := by
          have := List.getElem?_eq_getElem hlt
          rw [hd] at this; exact (Option.some.inj this).symm
        rw [this]
      rw [hdr] at o'
      unfold loop at o'
      split at o'
      · exact o'.elim
      · rename_i st2 h2
        refine ⟨P, F', st', d, s', rd.mono le, st2, h2, fun xs s2 => ⟨P, F', st2, s2, ?_⟩⟩
        revert o'
        cases a st2 with
        | ok fl st3 =>
          cases fl with
          | nx => exact fun o' σ3 H3 F3 le3 s3 => ⟨F3, st3, le.trans le3, s3, OutS.weak le3 o'⟩
          | cnt => exact fun o' σ3 H3 F3 le3 s3 => ⟨F3, st3, le.trans le3, s3, OutS.weak le3 o'⟩
          | brk => exact fun o' => o'
          | ret d => exact fun o' => o'
        | exn c fs st3 => exact fun o' => o'
        | stuck => exact fun o' => o'
    · have e : i = ds.length := by omega
      subst e
      rw [List.drop_length] at o'
      exact .inl ⟨wk.stop H (le.trans s'.le), o' σ H F' (Same.refl _) s'⟩⟩
theorem es_while {n : Nat} (he : PS X s (tWhile (tT g W t) (tS g W a))) : PS X s (tS g W (sWhile t a n)) := he.imp fun E σ H ⟨P, F, st, s, o⟩ => by
  refine ⟨fun m σ H => ∃ F' st', SR g P σ H F' st' ∧ OutS g W P F' (sWhile t a m st') E, ⟨n, F, st, s, o⟩, ?_⟩
  rintro m σ H ⟨F', st', s', o'⟩
  cases m with
  | zero => exact o'.elim
  | succ m =>
    refine ⟨P, F', st', s', ?_⟩
    unfold sWhile at o'
    revert o'
    cases t st' with
    | ok b st1 =>
      cases b with
      | true =>
        intro o' H1 F1 le1 s1
        show ∃ N : L2.St → Hp → Prop, _ ∧ _
        refine ⟨fun σ H => ∃ F' st', SR g P σ H F' st' ∧ OutS g W P F' (sWhile t a m st') E, fun σ' H' p' => ⟨m, Nat.lt_succ_self _, p'⟩, P, F1, st1, s1, ?_⟩
        revert o'
        simp only
        cases a st1 with
        | ok fl st3 =>
          cases fl with
          | nx => exact fun o' σ3 H3 F3 le3 s3 => ⟨F3, st3, s3, OutS.weak (le1.trans le3) o'⟩
          | cnt => exact fun o' σ3 H3 F3 le3 s3 => ⟨F3, st3, s3, OutS.weak (le1.trans le3) o'⟩
          | brk => exact fun o' => OutS.weak le1 o'
          | ret d => exact fun o' => OutS.weak le1 o'
        | exn c fs st3 => exact fun o' => OutS.weak le1 o'
        | stuck => exact fun o' => o'
      | false => exact fun o' H1 F1 le1 s1 => o' σ H1 F1 le1 s1
    | exn c fs st1 => exact fun o' cls dd H1 F1 le1 s1 => o' cls dd σ H1 F1 le1 s1
    | stuck => exact fun o' => o'
end
end DL

namespace DL
open PySem PySem.Spec PyProof.Rows L2

/-! ### an owned list changed -/
@[simp] def dOw (i : Nat) : Den (List D) := fun st => match st[i]? with
  | some (.ow ds) => .ok ds st
  | some (.rf _ ds) => .ok ds st
  | _ => .stuck
@[simp] def setOw (i : Nat) (ds : List D) : Den Unit := fun st => match st[i]? with
  | some (.ow _) => .ok () (st.set i (.ow ds))
  | some (.rf k _) => .ok () (st.set i (.rf k ds))
  | _ => .stuck
@[simp] def mutD {α : Type} (i : Nat) (fn : List D → Option (α × List D)) : Den α := bindD (dOw i) fun ds => bindD (liftO (fn ds)) fun r => bindD (setOw i r.2) fun _ => retD r.1
@[simp] def dAppend (i : Nat) (f : Den D) : Den D := bindD (dOw i) fun _ => bindD f fun y => mutD i fun ds => if ds.length < big then some (.non, ds ++ [y]) else none
@[simp] def popAt (ds : List D) (i : Int) : Option (D × List D) := match seqIndex? i ds.length with
  | some k => match ds[k]? with | some y => if i.natAbs ≤ big then some (y, ds.eraseIdx k) else none | none => none
  | none => none
@[simp] def dPopAt (i : Nat) (f : Den D) : Den D := bindD (dOw i) fun _ => bindD f fun y => match y with
  | .int k => mutD i fun ds => popAt ds k
  | _ => fun _ => .stuck
@[simp] def dPop (i : Nat) : Den D := mutD i fun ds => match ds[ds.length - 1]? with | some y => some (y, ds.dropLast) | none => none
@[simp] def sStore (i : Nat) (ix e : Den D) : DS := bindD e fun v => bindD (dRd i) fun _ => bindD ix fun k => match k with
  | .int k => bindD (mutD i fun ds => match ixN ds.length k with | some j => some ((), ds.set j v) | none => none) fun _ => retD .nx
  | _ => fun _ => .stuck

section
variable {X : Cx} {g : G} {W : WX} {P : Par} {σ : L2.St} {H F : Hp} {st : DSt} {e : Expr} {s : Stmt} {ss : List Stmt} {f h : Den D} {t : Den Bool} {a b : DS}

/-- what an owned slot is; it may be changed -/
theorem SR.owned {i : Nat} {ds : List D} {st' : DSt} (s : SR g P σ H F st) (e : dOw i st = .ok ds st') : st' = st ∧ ∃ a vs, σ[i]? = some (some (.ref a)) ∧ H a = some (.lst vs) ∧ Rl g F vs ds ∧ F a = none ∧ P.R a = none ∧
    ∀ (H' F' : Hp) (vs' : List V) (ds' : List D), Same F F' → Same F' H' → (∀ b, H b ≠ none → F b = none → F' b = none) → (∀ b o, b ≠ a → H b = some o → H' b = some o) → H' a = some (.lst vs') → F' a = none → Rl g F' vs' ds' →
      ∃ st2, setOw i ds' st = .ok () st2 ∧ SR g P σ H' F' st2 := by
  have key : ∀ (mk : List D → Slot) (ds0 : List D), st[i]? = some (mk ds0) → (mk = .ow ∨ ∃ k, mk = .rf k) → ∃ a vs, σ[i]? = some (some (.ref a)) ∧ H a = some (.lst vs) ∧ Rl g F vs ds0 ∧ F a = none ∧ P.R a = none ∧
      ∀ (H' F' : Hp) (vs' : List V) (ds' : List D), Same F F' → Same F' H' → (∀ b, H b ≠ none → F b = none → F' b = none) → (∀ b o, b ≠ a → H b = some o → H' b = some o) → H' a = some (.lst vs') → F' a = none → Rl g F' vs' ds' →
        SR g P σ H' F' (st.set i (mk ds')) := by
    intro mk ds0 hd hk
    obtain ⟨ov, hov⟩ := SRc.nth s hd
    obtain ⟨O, c⟩ := s
    have q0 := c.sl i _ _ hd hov
    have hi : i < st.length := by
      rcases Nat.lt_or_ge i st.length with q | q
      · exact q
      · rw [List.getElem?_eq_none q] at hd; cases hd
    have ⟨a, vs, e1, ho, ha, r, mkok⟩ : ∃ a vs, ov = some (.ref a) ∧ O a = some i ∧ H a = some (.lst vs) ∧ Rl g F vs ds0 ∧ ∀ F' H' vs' ds', H' a = some (.lst vs') → Rl g F' vs' ds' → SlotOk g P O F' H' i (mk ds') ov := by
      rcases hk with rfl | ⟨k, rfl⟩
      · obtain ⟨a, vs, rfl, ho, hn, ha, r⟩ := q0
        exact ⟨a, vs, rfl, ho, ha, r, fun F' H' vs' ds' h1 h2 => ⟨a, vs', rfl, ho, hn, h1, h2⟩⟩
      · obtain ⟨a, vs, rfl, hb, ho, ha, r⟩ := q0
        exact ⟨a, vs, rfl, ho, ha, r, fun F' H' vs' ds' h1 h2 => ⟨a, vs', rfl, hb, ho, h1, h2⟩⟩
    subst e1
    refine ⟨a, vs, hov, ha, r, (c.oo a i ho).1, (c.oo a i ho).2.1, fun H' F' vs' ds' sf sfh nf sh hva fa rr => ⟨O, sfh, fun b o e => ?_, fun b j e => ?_, fun b n => ?_, by rw [List.length_set]; exact c.len, fun j s ov e1 e2 => ?_⟩⟩
    · have hb : b ≠ a := fun z => by rw [z, (c.oo a i ho).2.1] at e; cases e
      exact sh b o hb (c.rr _ _ e)
    · refine ⟨nf b (c.oo b j e).2.2 (c.oo b j e).1, (c.oo b j e).2.1, ?_⟩
      by_cases hb : b = a
      · subst hb; rw [hva]; simp
      · obtain ⟨u, hu⟩ := ne_some (c.oo b j e).2.2
        rw [sh b u hb hu]; simp
    · refine ⟨nf b (c.no b n).2 (c.no b n).1, ?_⟩
      by_cases hb : b = a
      · subst hb; rw [hva]; simp
      · obtain ⟨u, hu⟩ := ne_some (c.no b n).2
        rw [sh b u hb hu]; simp
    · by_cases hj : j = i
      · subst hj
        rw [List.getElem?_set_self hi] at e1
        cases e1
        rw [hov] at e2; cases e2
        exact mkok F' H' vs' ds' hva rr
      · rw [List.getElem?_set_ne (Ne.symm hj)] at e1
        exact (c.sl j s ov e1 e2).move rfl (fun _ h => h) sf (fun b o ho' h => sh b o (fun z => hj (by rw [z, ho] at ho'; exact (Option.some.inj ho').symm)) h) fun _ _ h => h
  unfold dOw at e
  split at e
  · rename_i ds0 hd
    cases e
    obtain ⟨a, vs, h1, h2, h3, h4, h5, h6⟩ := key .ow ds hd (.inl rfl)
    exact ⟨rfl, a, vs, h1, h2, h3, h4, h5, fun H' F' vs' ds' a1 a2 a3 a4 a5 a6 a7 => ⟨_, by unfold setOw; rw [hd], h6 H' F' vs' ds' a1 a2 a3 a4 a5 a6 a7⟩⟩
  · rename_i k ds0 hd
    cases e
    obtain ⟨a, vs, h1, h2, h3, h4, h5, h6⟩ := key (.rf k) ds hd (.inr ⟨k, rfl⟩)
    exact ⟨rfl, a, vs, h1, h2, h3, h4, h5, fun H' F' vs' ds' a1 a2 a3 a4 a5 a6 a7 => ⟨_, by unfold setOw; rw [hd], h6 H' F' vs' ds' a1 a2 a3 a4 a5 a6 a7⟩⟩
  · cases e
theorem dOw_no {i : Nat} {c : Str} {fs : List (Str × D)} {st st' : DSt} : dOw i st ≠ .exn c fs st' := by
  unfold dOw
  split <;> exact fun h => by cases h
theorem Out.ow {i : Nat} {α : Type} {kk : List D → Den α} {K : α → DSt → Hp → Hp → Prop} (o : Out g W P σ F (bindD (dOw i) kk st) K) : ∃ ds, dOw i st = .ok ds st ∧ Out g W P σ F (kk ds st) K := by
  unfold bindD at o
  cases e : dOw i st with
  | ok d st' =>
    rw [e] at o
    have : st' = st := by
      unfold dOw at e
      split at e <;> cases e <;> rfl
    subst this
    exact ⟨d, rfl, o⟩
  | exn c fs st' => exact (dOw_no e).elim
  | stuck => rw [e] at o; exact o.elim
/-- a list changed in place, nothing else -/
theorem Out.mut {α : Type} {i : Nat} {fn : List D → Option (α × List D)} {K : α → DSt → Hp → Hp → Prop} (s : SR g P σ H F st) (o : Out g W P σ F (mutD i fn st) K) :
    ∃ a vs ds r, σ[i]? = some (some (.ref a)) ∧ H a = some (.lst vs) ∧ Rl g F vs ds ∧ fn ds = some r ∧ ∀ vs', Rl g F vs' r.2 → ∃ st2, SR g P σ (upd H a (.lst vs')) F st2 ∧ K r.1 st2 (upd H a (.lst vs')) F := by
  obtain ⟨ds, e, o1⟩ := Out.ow o
  obtain ⟨_, a, vs, h1, h2, h3, h4, h5, h6⟩ := s.owned e
  have o1 : Out g W P σ F (bindD (liftO (fn ds)) (fun r => bindD (setOw i r.2) fun _ => retD r.1) st) K := o1
  cases er : fn ds with
  | none => rw [er] at o1; exact o1.elim
  | some r =>
    rw [er] at o1
    refine ⟨a, vs, ds, r, h1, h2, h3, er, fun vs' rr => ?_⟩
    have sfh : Same F (upd H a (.lst vs')) := fun b o e => by
      rw [upd_ne (fun z => by subst z; rw [h4] at e; cases e)]; exact s.le _ _ e
    obtain ⟨st2, e2, s2⟩ := h6 (upd H a (.lst vs')) F vs' r.2 (Same.refl _) sfh (fun b _ h => h) (fun b o hb e => by rw [upd_ne hb]; exact e) upd_same h4 rr
    refine ⟨st2, s2, ?_⟩
    have o2 : Out g W P σ F (bindD (setOw i r.2) (fun _ => retD r.1) st) K := o1
    unfold bindD at o2
    rw [e2] at o2
    exact o2 _ _ (Same.refl _) s2
theorem ev_append {i : Nat} (he : PE X e (tBM g.K "list" rAppend (tVar i) (tCons (tE g W f) tNil))) : PE X e (tE g W (dAppend i f)) := he.imp fun σ H Q ⟨P, F, st, s, o⟩ => by
  obtain ⟨ds, e, o1⟩ := Out.ow o
  obtain ⟨_, a, vs, h1, h2, h3, h4, h5, h6⟩ := s.owned e
  refine ⟨_, h1, .inl ⟨rfl, vs, sqL_of h2⟩, P, F, st, s, o1.bind.imp fun y st1 H1 F1 le1 s1 o2 v rv => ?_⟩
  obtain ⟨a', vs', ds', r, g1, g2, g3, g4, g5⟩ := Out.mut s1 o2
  rw [h1] at g1; cases g1
  split at g4
  · rename_i hl
    cases g4
    obtain ⟨st2, s2, k⟩ := g5 (vs' ++ [v]) (g3.append (.cons rv .nil))
    exact ⟨a, vs', v, rfl, rfl, g2, by rw [g3.length, ← big_eq]; exact hl, k _ .non⟩
  · cases g4
theorem ev_popAt {i : Nat} (he : PE X e (tBM g.K "list" rPopAt (tVar i) (tCons (tE g W f) tNil))) : PE X e (tE g W (dPopAt i f)) := he.imp fun σ H Q ⟨P, F, st, s, o⟩ => by
  obtain ⟨ds, e, o1⟩ := Out.ow o
  obtain ⟨_, a, vs, h1, h2, h3, h4, h5, h6⟩ := s.owned e
  refine ⟨_, h1, .inl ⟨rfl, vs, sqL_of h2⟩, P, F, st, s, o1.bind.imp fun y st1 H1 F1 le1 s1 o2 v rv => ?_⟩
  cases y with
  | int k =>
    cases rv
    obtain ⟨a', vs', ds', r, g1, g2, g3, g4, g5⟩ := Out.mut s1 o2
    rw [h1] at g1; cases g1
    unfold popAt at g4
    split at g4
    · rename_i j hj
      split at g4
      · rename_i y hy
        split at g4
        · rename_i hk
          cases g4
          have hb : big = 16777216 := rfl
          obtain ⟨w, hw, rw'⟩ := g3.get hy
          obtain ⟨st2, s2, kk⟩ := g5 (vs'.eraseIdx j) (g3.eraseIdx j)
          exact ⟨a, vs', k, j, w, rfl, rfl, g2, by omega, by omega, by rw [g3.length]; exact hj, hw, kk _ rw'⟩
        · cases g4
      · cases g4
    · cases g4
  | _ => exact o2.elim
theorem ev_pop {i : Nat} (he : PE X e (tBM0 g.K "list" rPop (tVar i))) : PE X e (tE g W (dPop i)) := he.imp fun σ H Q ⟨P, F, st, s, o⟩ => by
  obtain ⟨a', vs', ds', r, g1, g2, g3, g4, g5⟩ := Out.mut s o
  split at g4
  · rename_i y hy
    cases g4
    obtain ⟨w, hw, rw'⟩ := g3.get hy
    obtain ⟨st2, s2, kk⟩ := g5 vs'.dropLast (by rw [List.dropLast_eq_take, List.dropLast_eq_take, g3.length]; exact g3.take _)
    exact ⟨_, g1, .inl ⟨rfl, vs', sqL_of g2⟩, a', vs', w, rfl, rfl, g2, by rw [g3.length]; exact hw, kk _ rw'⟩
  · cases g4
theorem es_store {i : Nat} (he : PS X s (tAsg (tE g W f) (gSub (tVar i) (tE g W h) rSetL))) : PS X s (tS g W (sStore i h f)) := he.imp fun D σ H ⟨P, F, st, s, o⟩ =>
  ⟨P, F, st, s, o.bind.imp fun x st1 H1 F1 le1 s1 o1 v rx => by
    have o1 : OutS g W P F1 (bindD (dRd i) (fun _ => bindD h fun k => match k with
      | .int k => bindD (mutD i fun ds => match ixN ds.length k with | some j => some ((), ds.set j x) | none => none) fun _ => retD .nx
      | _ => fun _ => .stuck) st1) D := o1
    obtain ⟨v0, d0, hv0, _, o2⟩ := Out.rd s1 (OutS.bind o1 (σ := σ) |> fun (q : Out g W P σ F1 (dRd i st1) _) => (by
      revert q
      unfold bindD
      cases ed : dRd i st1 with
      | ok d st' => exact fun q => q
      | exn c fs st' => exact fun q => q
      | stuck => exact fun q => q : Out g W P σ F1 (bindD (dRd i) (fun d => retD d) st1) (fun d st' _ F1 => OutS g W P F1 ((bindD h fun k => match k with
      | .int k => bindD (mutD i fun ds => match ixN ds.length k with | some j => some ((), ds.set j x) | none => none) fun _ => retD .nx
      | _ => fun _ => .stuck) st') D)))
    have o3 := o2 H1 F1 (Same.refl _) s1
    refine ⟨v0, hv0, P, F1, st1, s1, o3.bind.imp fun k st2 H2 F2 le2 s2 o4 vk rk => ?_⟩
    cases k with
    | int k =>
      cases rk
      have o5 := OutS.bind o4 (σ := σ)
      obtain ⟨a', vs', ds', r, g1, g2, g3, g4, g5⟩ := Out.mut s2 o5
      rw [hv0] at g1; cases g1
      split at g4
      · rename_i j hj
        cases g4
        obtain ⟨st3, s3, kk⟩ := g5 (vs'.set j v) (g3.set (rx.mono le2) j)
        exact ⟨a', vs', k, j, rfl, rfl, g2, by rw [g3.length]; exact hj, kk σ _ F2 (Same.refl _) s3⟩
      · cases g4
    | _ => exact o4.elim⟩

/-! ### calls of own functions -/
def spD (g : G) (df : List D → M D) : Sp := fun vs H Q E => ∃ F ds, Same F H ∧ Rl g F vs ds ∧ match df ds with
  | .ok d => ∀ v H' F', Grow H F H' F' → Rv g F' v d → Q v H'
  | .exn c fs => ∀ cls dd H' F', Grow H F H' F' → RepX g F' H' c fs cls dd → E cls dd H'
  | .stuck => False
@[simp] def dCall (df : List D → M D) (fa : Den (List D)) : Den D := bindD fa fun ds => liftM' (df ds)
theorem call_fin {df : List D → M D} {vs : List V} {ds : List D} {Q : VK} {E : XK} (s : SR g P σ H F st) (r : Rl g F vs ds) (hE : ∀ cls dd H', W cls dd σ H' → E cls dd H') (o : Out g W P σ F (liftM' (df ds) st) fun d _ H' F' => ∀ v, Rv g F' v d → Q v H') : spD g df vs H Q E := by
  refine ⟨F, ds, s.le, r, ?_⟩
  revert o
  unfold liftM'
  cases df ds with
  | ok d => exact fun o v H' F' gr rv => o H' F' gr.f (s.grow gr) v rv
  | exn c fs => exact fun o cls dd H' F' gr rx => hE _ _ _ (o cls dd H' F' gr.f (s.grow gr) rx)
  | stuck => exact fun o => o
theorem ev_call {df : List D → M D} {fa : Den (List D)} (he : PE X e (tCallS (spD g df) (WE W) (tA g W fa))) : PE X e (tE g W (dCall df fa)) := he.imp fun σ H Q ⟨P, F, st, s, o⟩ =>
  ⟨P, F, st, s, o.bind.imp fun ds st1 H1 F1 le1 s1 o1 vs rs => call_fin s1 rs (fun _ _ _ h => h) o1⟩

/-- .. whose first argument is a list that the function changes -/
def spR (g : G) (df : List D → List D → M (D × List D)) : Sp := fun vs H Q _ => ∃ F a ws ss us ds, vs = .ref a :: us ∧ Same F H ∧ F a = none ∧ H a = some (.lst ws) ∧ Rl g F ws ss ∧ Rl g F us ds ∧ match df ss ds with
  | .ok r => ∀ v H' F' ws', Same F F' → Same F' H' → (∀ b, H b ≠ none → F b = none → F' b = none) → (∀ b o, b ≠ a → H b = some o → H' b = some o) → H' a = some (.lst ws') → F' a = none → Rl g F' ws' r.2 → Rv g F' v r.1 → Q v H'
  | _ => False
@[simp] def dCallR (df : List D → List D → M (D × List D)) (i : Nat) (fa : Den (List D)) : Den D := bindD (dOw i) fun _ => bindD fa fun ds => bindD (dOw i) fun ss => bindD (liftM' (df ss ds)) fun r => bindD (setOw i r.2) fun _ => retD r.1
theorem ev_callR {df : List D → List D → M (D × List D)} (nox : ∀ ss ds c fs, df ss ds ≠ .exn c fs) {i : Nat} {fa : Den (List D)} (he : PE X e (tCallS (spR g df) (WE W) (tCons (tVar i) (tA g W fa)))) : PE X e (tE g W (dCallR df i fa)) := he.imp fun σ H Q ⟨P, F, st, s, o⟩ => by
  obtain ⟨ds0, e0, o1⟩ := Out.ow o
  obtain ⟨_, a, vs, h1, h2, h3, h4, h5, h6⟩ := s.owned e0
  refine ⟨_, h1, P, F, st, s, o1.bind.imp fun ds st1 H1 F1 le1 s1 o2 us ru => ?_⟩
  obtain ⟨ss, e1, o3⟩ := Out.ow o2
  obtain ⟨_, a', ws, g1, g2, g3, g4, g5, g6⟩ := s1.owned e1
  rw [h1] at g1; cases g1
  refine ⟨F1, a, ws, ss, us, ds, rfl, s1.le, g4, g2, g3, ru, ?_⟩
  have nx := nox ss ds
  revert o3 nx
  cases df ss ds with
  | ok r =>
    intro o3 nx v H' F' ws' a1 a2 a3 a4 a5 a6 a7 rv
    obtain ⟨st2, e2, s2⟩ := g6 H' F' ws' r.2 a1 a2 a3 a4 a5 a6 a7
    have o4 : Out g W P σ F1 (bindD (setOw i r.2) (fun _ => retD r.1) st1) fun d _ H' F' => ∀ v, Rv g F' v d → Q v H' := o3
    unfold bindD at o4
    rw [e2] at o4
    exact o4 H' F' a1 s2 v rv
  | exn c fs => exact fun _ nx => (nx c fs rfl).elim
  | stuck => exact fun o3 => o3.elim

/-! ### a def's body -/
/-- a body's meaning as a function of its arguments: n slots -/
def runF (m n : Nat) (f : DS) (ds : List D) : M D := if ds.length = m then match f (ds.map Slot.sh ++ List.replicate (n - ds.length) .no) with
  | .ok (.ret d) _ => .ok d
  | .ok .nx _ => .ok .non
  | .exn c fs _ => .exn c fs
  | _ => .stuck
  else .stuck
theorem getElem_start {N : List Str} {vs : List V} {i : Nat} {ov : Option V} (h : (L2.start N vs)[i]? = some ov) : ∀ v, vs[i]? = some v → ov = some v := by
  intro v hv
  unfold L2.start at h
  have hi : i < vs.length := by
    rcases Nat.lt_or_ge i vs.length with q | q
    · exact q
    · rw [List.getElem?_eq_none q] at hv; cases hv
  rw [List.getElem?_append_left (by simpa using hi), List.getElem?_map, hv] at h
  exact (Option.some.inj h).symm
theorem init_sl {O : Addr → Option Nat} {N : List Str} {vs : List V} {ds : List D} (r : Rl g F vs ds) (n : Nat) : ∀ i s ov, (ds.map Slot.sh ++ List.replicate n Slot.no)[i]? = some s → (L2.start N vs)[i]? = some ov → SlotOk g P O F H i s ov := by
  intro i s ov e1 e2
  rcases Nat.lt_or_ge i ds.length with hi | hi
  · rw [List.getElem?_append_left (by simpa using hi), List.getElem?_map, List.getElem?_eq_getElem hi] at e1
    cases e1
    obtain ⟨v, hv, rv⟩ := r.get (List.getElem?_eq_getElem hi)
    exact ⟨v, getElem_start e2 v hv, rv⟩
  · rw [List.getElem?_append_right (by simpa using hi)] at e1
    have : s = Slot.no := by
      have := List.mem_of_getElem? e1
      exact (List.mem_replicate.mp this).2
    subst this
    trivial
/-- THE RULE for a def of data -/
theorem body_ok {N ps : List Str} {f : DS} {n : Nat} {vs : List V} {Q : VK} {E : XK} (hn : n = N.length) (hp : ps.length ≤ N.length) (hl : vs.length = ps.length) (h : spD g (runF ps.length n f) vs H Q E) :
    tS g (fun cls dd _ H => E cls dd H) f { nx := fun _ H' => Q .non H', rt := Q } (L2.start N vs) H := by
  obtain ⟨F, ds, le, r, h⟩ := h
  refine ⟨⟨[], H, fun a => H a ≠ none ∧ F a = none⟩, F, ds.map Slot.sh ++ List.replicate (n - ds.length) .no, ⟨fun _ => none, le, Same.refl _, (fun _ _ e => nomatch e), fun a h => ⟨h.2, h.1⟩, ?_, init_sl r _⟩, ?_⟩
  · have := r.length
    unfold L2.start
    simp only [List.length_append, List.length_map, List.length_replicate]
    omega
  · have gr : ∀ {σ' : L2.St} {H' F' : Hp} {st' : DSt}, Same F F' → SR g ⟨[], H, fun a => H a ≠ none ∧ F a = none⟩ σ' H' F' st' → Grow H F H' F' := fun le ⟨O, c⟩ => ⟨c.rr, le, c.le, fun a h1 h2 => (c.no a ⟨h1, h2⟩).1⟩
    unfold runF at h
    rw [if_pos (by rw [← r.length]; exact hl)] at h
    revert h
    cases f (ds.map Slot.sh ++ List.replicate (n - ds.length) .no) with
    | ok fl st' =>
      cases fl with
      | nx => exact fun h σ' H' F' le s => h .non H' F' (gr le s) .non
      | ret d => exact fun h σ' H' F' le s v rv => h v H' F' (gr le s) rv
      | brk => exact fun h => h.elim
      | cnt => exact fun h => h.elim
    | exn c fs st' => exact fun h cls dd σ' H' F' le s rx => h cls dd H' F' (gr le s) rx
    | stuck => exact fun h => h.elim
/-- .. with a list that it changes, its first argument -/
def runR (m n : Nat) (f : DS) (ss : List D) (ds : List D) : M (D × List D) := if ds.length + 1 = m then match f (.rf 0 ss :: (ds.map Slot.sh ++ List.replicate (n - ds.length - 1) .no)) with
  | .ok (.ret d) (.rf 0 ss' :: _) => .ok (d, ss')
  | .ok .nx (.rf 0 ss' :: _) => .ok (.non, ss')
  | _ => .stuck
  else .stuck
theorem runR_nox (m n : Nat) (f : DS) : ∀ ss ds c fs, runR m n f ss ds ≠ .exn c fs := by
  intro ss ds c fs h
  unfold runR at h
  split at h
  · split at h <;> cases h
  · cases h
theorem start_cons {x : Str} {N : List Str} {v : V} {vs : List V} : L2.start (x :: N) (v :: vs) = some v :: L2.start N vs := by
  unfold L2.start
  simp
theorem body_okR {x : Str} {N ps : List Str} {f : DS} {n : Nat} {vs : List V} {Q : VK} {E : XK} (hn : n = (x :: N).length) (hp : ps.length ≤ (x :: N).length) (hl : vs.length = ps.length) (h : spR g (runR ps.length n f) vs H Q E) :
    tS g (fun cls dd _ H => E cls dd H) f { nx := fun _ H' => Q .non H', rt := Q } (L2.start (x :: N) vs) H := by
  obtain ⟨F, a, ws, ss, us, ds, rfl, le, fa, ha, rs, r, h⟩ := h
  have hln := r.length
  rw [start_cons]
  refine ⟨⟨[a], fun b => if b = a then none else H b, fun b => H b ≠ none ∧ F b = none⟩, F, .rf 0 ss :: (ds.map Slot.sh ++ List.replicate (n - ds.length - 1) .no), ⟨fun b => if b = a then some 0 else none, le, fun b o e => ?_, fun b i e => ?_, fun a h => ⟨h.2, h.1⟩, ?_, fun i s ov e1 e2 => ?_⟩, ?_⟩
  · by_cases hb : b = a
    · subst hb; simp at e
    · simpa [hb] using e
  · by_cases hb : b = a
    · subst hb; exact ⟨fa, by simp, by rw [ha]; simp⟩
    · simp [hb] at e
  · unfold L2.start
    simp only [List.length_append, List.length_map, List.length_replicate, List.length_cons] at *
    omega
  · cases i with
    | zero =>
      simp at e1 e2
      subst e1; subst e2
      exact ⟨a, ws, rfl, rfl, by simp, ha, rs⟩
    | succ i =>
      have q := init_sl (P := ⟨[a], fun b => if b = a then none else H b, fun b => H b ≠ none ∧ F b = none⟩) (H := H) (O := fun b => if b = a then some 0 else none) (N := N) r (n - ds.length - 1) i s ov (by simpa using e1) (by simpa using e2)
      have hs : s = .no ∨ ∃ d, s = .sh d := by
        have e1 : (ds.map Slot.sh ++ List.replicate (n - ds.length - 1) Slot.no)[i]? = some s := by simpa using e1
        rcases List.mem_append.mp (List.mem_of_getElem? e1) with h | h
        · obtain ⟨d, _, e⟩ := List.mem_map.mp h
          exact .inr ⟨d, e.symm⟩
        · exact .inl (List.mem_replicate.mp h).2
      rcases hs with rfl | ⟨d, rfl⟩
      · trivial
      · exact q
  · have gr : ∀ {σ' : L2.St} {H' F' : Hp} {ss' : List D} {st' : DSt} {d : D}, Same F F' → SR g ⟨[a], fun b => if b = a then none else H b, fun b => H b ≠ none ∧ F b = none⟩ σ' H' F' (.rf 0 ss' :: st') →
        (∀ v H' F' ws', Same F F' → Same F' H' → (∀ b, H b ≠ none → F b = none → F' b = none) → (∀ b o, b ≠ a → H b = some o → H' b = some o) → H' a = some (.lst ws') → F' a = none → Rl g F' ws' ss' → Rv g F' v d → Q v H') → ∀ v, Rv g F' v d → Q v H' := fun {σ' H' F' ss' st' d} le s k v rv => by
      obtain ⟨ov, hov⟩ := SRc.nth (i := 0) s rfl
      obtain ⟨O, c⟩ := s
      obtain ⟨a', ws', e1, e2, e3, e4, e5⟩ := c.sl 0 _ _ rfl hov
      have : a' = a := by simpa using e2.symm
      subst this
      refine k v H' F' ws' le c.le (fun b h1 h2 => (c.no b ⟨h1, h2⟩).1) (fun b o hb e => c.rr b o (by simp [hb, e])) e4 (c.oo _ _ e3).1 e5 rv
    unfold runR at h
    rw [if_pos (by simp only [List.length_cons] at hl; omega)] at h
    revert h
    cases f (.rf 0 ss :: (ds.map Slot.sh ++ List.replicate (n - ds.length - 1) .no)) with
    | ok fl st' =>
      cases fl with
      | nx =>
        cases st' with
        | nil => exact fun h => h.elim
        | cons s0 st' =>
          cases s0 with
          | rf k ss' =>
            cases k with
            | zero => exact fun h σ' H' F' le s => gr le s h .non .non
            | succ k => exact fun h => h.elim
          | _ => exact fun h => h.elim
      | ret d =>
        cases st' with
        | nil => exact fun h => h.elim
        | cons s0 st' =>
          cases s0 with
          | rf k ss' =>
            cases k with
            | zero => exact fun h σ' H' F' le s v rv => gr le s h v rv
            | succ k => exact fun h => h.elim
          | _ => exact fun h => h.elim
      | brk => exact fun h => h.elim
      | cnt => exact fun h => h.elim
    | exn c fs st' => exact fun h => h.elim
    | stuck => exact fun h => h.elim
theorem spD_len {m n : Nat} {f : DS} {vs : List V} {Q : VK} {E : XK} (h : spD g (runF m n f) vs H Q E) : vs.length = m := by
  obtain ⟨F, ds, le, r, h⟩ := h
  rw [r.length]
  by_cases hm : ds.length = m
  · exact hm
  · unfold runF at h
    rw [if_neg hm] at h
    exact h.elim
theorem spR_len {m n : Nat} {f : DS} {vs : List V} {Q : VK} {E : XK} (h : spR g (runR m n f) vs H Q E) : vs.length = m := by
  obtain ⟨F, a, ws, ss, us, ds, rfl, le, fa, ha, rs, r, h⟩ := h
  rw [List.length_cons, r.length]
  by_cases hm : ds.length + 1 = m
  · exact hm
  · unfold runR at h
    rw [if_neg hm] at h
    exact h.elim
end
end DL

namespace DL
open PySem PySem.Spec PyProof.Rows L2

/-! ### list comprehensions -/
def wipeD (st : DSt) : List Nat → DSt
  | [] => st
  | v :: vs => (wipeD st vs).set v .no
/-- the names of the block have their old content again -/
def backD (st0 st : DSt) : List Nat → DSt
  | [] => st
  | v :: vs => (backD st0 st vs).set v ((st0[v]?).getD .no)
def plainAt (st : DSt) (v : Nat) : Bool := match st[v]? with
  | some .no => true
  | some (.sh _) => true
  | _ => false
def compGo (vs : List Nat) (t : Tg) (test : Den Bool) (elt : Den D) : List D → Den (List D)
  | [] => retD []
  | d :: ds => fun st => match setT t d st with
    | none => .stuck
    | some st1 => match test st1 with
      | .ok true st2 => match elt st2 with
        | .ok y st3 => match compGo vs t test elt ds (wipeD st3 vs) with
          | .ok ys st4 => .ok (y :: ys) st4
          | _ => .stuck
        | _ => .stuck
      | .ok false st2 => compGo vs t test elt ds (wipeD st2 vs)
      | _ => .stuck
def dComp (vs : List Nat) (t : Tg) (fi : Den (List D)) (test : Den Bool) (elt : Den D) : Den (List D) := bindD fi fun ds => fun st =>
  if ds.length ≤ big ∧ vs.all (plainAt st) = true then
    match compGo vs t test elt ds (wipeD st vs) with
    | .ok ys st' => .ok ys (backD st st' vs)
    | _ => .stuck
  else .stuck
def WN : WX := fun _ _ _ _ => False
@[simp] def dYes : Den Bool := retD true

section
variable {X : Cx} {g : G} {W : WX} {P : Par} {σ : L2.St} {H F : Hp} {st : DSt} {e : Expr}

theorem wipeD_length (st : DSt) : ∀ vs : List Nat, (wipeD st vs).length = st.length
  | [] => rfl
  | v :: vs => by unfold wipeD; rw [List.length_set, wipeD_length st vs]
theorem backD_length (st0 st : DSt) : ∀ vs : List Nat, (backD st0 st vs).length = st.length
  | [] => rfl
  | v :: vs => by unfold backD; rw [List.length_set, backD_length st0 st vs]
theorem wipeD_in {st : DSt} {i : Nat} : ∀ {vs : List Nat}, i ∈ vs → ∀ s, (wipeD st vs)[i]? = some s → s = .no
  | v :: vs, h, s, e => by
    unfold wipeD at e
    by_cases hv : v = i
    · subst hv
      by_cases hl : v < (wipeD st vs).length
      · rw [List.getElem?_set_self hl] at e; cases e; rfl
      · rw [List.getElem?_eq_none (by simpa using hl)] at e; cases e
    · rw [List.getElem?_set_ne hv] at e
      rcases List.mem_cons.mp h with h | h
      · exact absurd h.symm hv
      · exact wipeD_in h s e
theorem wipeD_out {st : DSt} {i : Nat} : ∀ {vs : List Nat}, i ∉ vs → (wipeD st vs)[i]? = st[i]?
  | [], _ => rfl
  | v :: vs, h => by
    unfold wipeD
    rw [List.getElem?_set_ne (fun z => h (by rw [← z]; exact List.mem_cons_self))]
    exact wipeD_out fun z => h (List.mem_cons_of_mem _ z)
theorem wipe_out {σ : L2.St} {i : Nat} : ∀ {vs : List Nat}, i ∉ vs → (wipe σ vs)[i]? = σ[i]?
  | [], _ => rfl
  | v :: vs, h => by
    unfold wipe
    rw [List.getElem?_set_ne (fun z => h (by rw [← z]; exact List.mem_cons_self))]
    exact wipe_out fun z => h (List.mem_cons_of_mem _ z)
theorem backD_out {st0 st : DSt} {i : Nat} : ∀ {vs : List Nat}, i ∉ vs → (backD st0 st vs)[i]? = st[i]?
  | [], _ => rfl
  | v :: vs, h => by
    unfold backD
    rw [List.getElem?_set_ne (fun z => h (by rw [← z]; exact List.mem_cons_self))]
    exact backD_out fun z => h (List.mem_cons_of_mem _ z)
theorem backD_in {st0 st : DSt} {i : Nat} : ∀ {vs : List Nat}, i ∈ vs → ∀ s, (backD st0 st vs)[i]? = some s → s = (st0[i]?).getD .no
  | v :: vs, h, s, e => by
    unfold backD at e
    by_cases hv : v = i
    · subst hv
      by_cases hl : v < (backD st0 st vs).length
      · rw [List.getElem?_set_self hl] at e; cases e; rfl
      · rw [List.getElem?_eq_none (by simpa using hl)] at e; cases e
    · rw [List.getElem?_set_ne hv] at e
      rcases List.mem_cons.mp h with h | h
      · exact absurd h.symm hv
      · exact backD_in h s e
theorem SR.wipe (s : SR g P σ H F st) (vs : List Nat) : SR g P (wipe σ vs) H F (wipeD st vs) := by
  obtain ⟨O, c⟩ := s
  refine ⟨O, c.le, c.rr, c.oo, c.no, by rw [wipe_length, wipeD_length]; exact c.len, fun i s ov e1 e2 => ?_⟩
  by_cases hi : i ∈ vs
  · rw [wipeD_in hi s e1]; trivial
  · rw [wipeD_out hi] at e1
    rw [wipe_out hi] at e2
    exact c.sl i s ov e1 e2
theorem wipe_set {σ : L2.St} {i : Nat} {x : Option V} : ∀ {vs : List Nat}, i ∈ vs → wipe (σ.set i x) vs = wipe σ vs := by
  intro vs hi
  apply List.ext_getElem?
  intro j
  by_cases hj : j ∈ vs
  · have key : ∀ (τ : L2.St) (vs : List Nat), j ∈ vs → (L2.wipe τ vs)[j]? = if j < τ.length then some none else none := by
      intro τ vs
      induction vs with
      | nil => intro h; cases h
      | cons v vs ih =>
        intro h
        unfold L2.wipe
        by_cases hv : v = j
        · subst hv
          by_cases hl : v < τ.length
          · rw [List.getElem?_set_self (by rw [wipe_length]; exact hl), if_pos hl]
          · rw [List.getElem?_eq_none (by simp [wipe_length]; omega), if_neg hl]
        · rw [List.getElem?_set_ne hv]
          rcases List.mem_cons.mp h with h | h
          · exact absurd h.symm hv
          · exact ih h
    rw [key _ _ hj, key _ _ hj, List.length_set]
  · have hij : i ≠ j := fun z => hj (z ▸ hi)
    rw [wipe_out hj, wipe_out hj, List.getElem?_set_ne hij]
theorem wipe_setσ : ∀ {is : List Nat} {xs : List V} {σ : L2.St} {vs : List Nat}, (∀ i ∈ is, i ∈ vs) → wipe (setσ is xs σ) vs = wipe σ vs
  | [], xs, σ, vs, _ => by unfold setσ; rfl
  | i :: is, [], σ, vs, _ => by unfold setσ; rfl
  | i :: is, x :: xs, σ, vs, h => by
    unfold setσ
    rw [wipe_setσ fun j hj => h j (List.mem_cons_of_mem _ hj), wipe_set (h i List.mem_cons_self)]
theorem wipe_wipe (σ : L2.St) (vs : List Nat) : L2.wipe (L2.wipe σ vs) vs = L2.wipe σ vs := by
  have key : ∀ (τ : L2.St) (ws : List Nat), (∀ v ∈ ws, v ∈ vs) → L2.wipe (L2.wipe τ ws) vs = L2.wipe τ vs := by
    intro τ ws
    induction ws with
    | nil => intro _; rfl
    | cons w ws ih =>
      intro h
      show L2.wipe ((L2.wipe τ ws).set w none) vs = _
      rw [wipe_set (h w List.mem_cons_self)]
      exact ih fun v hv => h v (List.mem_cons_of_mem _ hv)
  exact key σ vs fun _ h => h

/-- the new list is guarded while the elements are worked out -/
def gd (P : Par) (D : Addr) (acc : List V) : Par := ⟨P.B, upd P.R D (.lst acc), fun a => P.N a ∨ a = D⟩
theorem SR.guard {D : Addr} {o : HO} {acc : List V} (s : SR g P σ H F st) (h : H D = none) : SR g (gd P D acc) σ (upd H D (.lst acc)) F st := by
  obtain ⟨O, c, o0, f0, r0, n0⟩ := s.newx (o := .lst acc) h
  refine ⟨O, c.le, fun b u e => ?_, fun b i e => ⟨(c.oo b i e).1, ?_, (c.oo b i e).2.2⟩, fun b n => ?_, c.len, fun i s ov e1 e2 => ?_⟩
  · have e : upd P.R D (.lst acc) b = some u := e
    by_cases hb : b = D
    · subst hb; rw [upd_same] at e; rw [← e]; exact upd_same
    · rw [upd_ne hb] at e; exact c.rr b u e
  · have hb : b ≠ D := fun z => by rw [z, o0] at e; cases e
    show upd P.R D (.lst acc) b = none
    rw [upd_ne hb]; exact (c.oo b i e).2.1
  · rcases n with n | rfl
    · exact c.no b n
    · exact ⟨f0, by rw [upd_same]; simp⟩
  · exact (c.sl i s ov e1 e2).move rfl (fun _ h => h) (Same.refl _) (fun _ _ _ h => h) fun b o n => fun z => Or.elim z n fun z => by rw [z, o0] at o; cases o
theorem SR.guard_at {D : Addr} {acc : List V} (s : SR g (gd P D acc) σ H F st) : H D = some (.lst acc) := by
  obtain ⟨O, c⟩ := s
  exact c.rr D _ upd_same
theorem SR.reguard {D : Addr} {acc acc' : List V} (s : SR g (gd P D acc) σ H F st) : SR g (gd P D acc') σ (upd H D (.lst acc')) F st := by
  obtain ⟨O, c⟩ := s
  have o0 : O D = none := by
    cases e : O D with
    | none => rfl
    | some i =>
      have := (c.oo D i e).2.1
      have z : upd P.R D (.lst acc) D = none := this
      rw [upd_same] at z; cases z
  have f0 := (c.no D (.inr rfl)).1
  refine ⟨O, fun b u e => ?_, fun b u e => ?_, fun b i e => ?_, fun b n => ?_, c.len, fun i s ov e1 e2 => ?_⟩
  · rw [upd_ne (fun z => by rw [z, f0] at e; cases e)]; exact c.le b u e
  · have e : upd P.R D (.lst acc') b = some u := e
    by_cases hb : b = D
    · subst hb; rw [upd_same] at e; rw [← e]; exact upd_same
    · rw [upd_ne hb] at e ⊢
      exact c.rr b u (by show upd P.R D (.lst acc) b = some u; rw [upd_ne hb]; exact e)
  · have hb : b ≠ D := fun z => by rw [z, o0] at e; cases e
    obtain ⟨h1, h2, h3⟩ := c.oo b i e
    have h2 : upd P.R D (.lst acc) b = none := h2
    rw [upd_ne hb] at h2
    exact ⟨h1, by show upd P.R D (.lst acc') b = none; rw [upd_ne hb]; exact h2, by rw [upd_ne hb]; exact h3⟩
  · refine ⟨(c.no b n).1, ?_⟩
    by_cases hb : b = D
    · subst hb; rw [upd_same]; simp
    · rw [upd_ne hb]; exact (c.no b n).2
  · exact (c.sl i s ov e1 e2).move rfl (fun _ h => h) (Same.refl _) (fun b o ho h => by rw [upd_ne (fun z => by rw [z, o0] at ho; cases ho)]; exact h) fun _ _ n => n
/-- behind the comprehension -/
theorem SR.unguard {D : Addr} {acc : List V} {H0 F0 : Hp} {st0 : DSt} {vs : List Nat} (s : SR g (gd P D acc) (L2.wipe σ vs) H F st) (s0 : SR g P σ H0 F0 st0) (h0 : H0 D = none) (le : Same F0 F) (hl : st.length = st0.length) (hp : vs.all (plainAt st0) = true) :
    SRx g P σ H F (backD st0 st vs) D := by
  obtain ⟨O, c⟩ := s
  have o0 : O D = none := by
    cases e : O D with
    | none => rfl
    | some i =>
      have z : upd P.R D (.lst acc) D = none := (c.oo D i e).2.1
      rw [upd_same] at z; cases z
  obtain ⟨_, _, _, _, r0, n0⟩ := s0.newx (o := .lst acc) h0
  refine ⟨O, ⟨c.le, fun b u e => ?_, fun b i e => ?_, fun b n => c.no b (.inl n), ?_, fun i sl ov e1 e2 => ?_⟩, o0, (c.no D (.inr rfl)).1, r0, n0⟩
  · have hb : b ≠ D := fun z => by rw [z, r0] at e; cases e
    exact c.rr b u (by show upd P.R D (.lst acc) b = some u; rw [upd_ne hb]; exact e)
  · have hb : b ≠ D := fun z => by rw [z, o0] at e; cases e
    obtain ⟨h1, h2, h3⟩ := c.oo b i e
    have h2 : upd P.R D (.lst acc) b = none := h2
    rw [upd_ne hb] at h2
    exact ⟨h1, h2, h3⟩
  · rw [backD_length]
    have := c.len
    rw [wipe_length] at this
    exact this
  · by_cases hi : i ∈ vs
    · have es := backD_in hi sl e1
      have hpl := List.all_eq_true.mp hp i hi
      unfold plainAt at hpl
      cases e0 : st0[i]? with
      | none => rw [e0] at es; subst es; trivial
      | some s0' =>
        rw [e0] at es hpl
        simp only [Option.getD_some] at es
        subst es
        cases sl with
        | no => trivial
        | sh d =>
          obtain ⟨O0, c0⟩ := s0
          obtain ⟨v, ev, r⟩ := c0.sl i _ ov e0 e2
          exact ⟨v, ev, r.mono le⟩
        | ow ds => cases hpl
        | rf k ds => cases hpl
        | oi k c ns ds => cases hpl
        | o2 dss => cases hpl
        | xc c nm x => cases hpl
    · rw [backD_out hi] at e1
      exact (c.sl i sl ov e1 (by rw [wipe_out hi]; exact e2)).move rfl (fun _ h => h) (Same.refl _) (fun _ _ _ h => h) fun _ _ n z => n (.inl z)
theorem compGo_length {vs : List Nat} {t : Tg} {test : Den Bool} {elt : Den D} (K : ∀ d st st', setT t d st = some st' → st'.length = st.length) : True := trivial

theorem comp_imp {vs : List Nat} {t : Tg} {fi : Den (List D)} {test : Den Bool} {elt : Den D} {Q : VK} (hv : ∀ i ∈ t.is, i ∈ vs) (q : tN g W (dComp vs t fi test elt) σ H Q) :
    tLc (tI g W fi) (tG g t) (tT g WN test) (tE g WN elt) vs σ H Q := by
  obtain ⟨P, F, st, s, o⟩ := q
  refine ⟨P, F, st, s, o.bind.imp fun ds st1 H1 F1 le1 s1 o1 J wk D hD => ?_⟩
  split at o1
  · rename_i hc
    obtain ⟨hbig, hpl⟩ := hc
    -- the rest of the walk, from the i-th turn on
    refine ⟨fun i m H => m = ds.length - i ∧ i ≤ ds.length ∧ ∃ F' st' accV acc, Same F1 F' ∧ SR g (gd P D accV) (L2.wipe σ vs) H F' st' ∧ Rl g F' accV acc ∧ acc.length ≤ i ∧ st'.length = st1.length ∧
      ∃ ys stE, compGo vs t test elt (ds.drop i) st' = .ok ys stE ∧ compGo vs t test elt ds (wipeD st1 vs) = .ok (acc ++ ys) stE, ?_, ?_⟩
    · split at o1
      · rename_i ys stE hgo
        exact ⟨ds.length, by simp, Nat.zero_le _, F1, wipeD st1 vs, [], [], Same.refl _, ((s1.wipe vs).guard (o := .lst []) hD), .nil, Nat.zero_le _, wipeD_length _ _, ys, stE, by simpa using hgo, by simpa using hgo⟩
      · exact o1.elim
    · rintro i m H2 ⟨rfl, hi, F', st', accV, acc, le, s', racc, hacc, hlen, ys, stE, hgo, hall⟩
      by_cases hlt : i < ds.length
      · obtain ⟨d0, hd0⟩ : ∃ d, ds[i]? = some d := ⟨ds[i], List.getElem?_eq_getElem hlt⟩
        have hdr : ds.drop i = d0 :: ds.drop (i + 1) := by
          rw [List.drop_eq_getElem_cons hlt]
          have := List.getElem?_eq_getElem hlt
          rw [hd0] at this; rw [← Option.some.inj this]
        rw [hdr] at hgo
        refine .inr ⟨wk.go i H2 (le.trans s'.le) hlt, fun H => ∃ F' st' accV acc, Same F1 F' ∧ SR g (gd P D accV) (L2.wipe σ vs) H F' st' ∧ Rl g F' accV acc ∧ acc.length ≤ i + 1 ∧ st'.length = st1.length ∧
          ∃ ys stE, compGo vs t test elt (ds.drop (i + 1)) st' = .ok ys stE ∧ compGo vs t test elt ds (wipeD st1 vs) = .ok (acc ++ ys) stE, fun H' nx => ⟨ds.length - (i + 1), by omega, rfl, hlt, nx⟩, fun x H' y => ?_⟩
        obtain ⟨rfl, d, hd, rd⟩ := wk.yld i H2 x H' (le.trans s'.le) hlt y
        rw [hd0] at hd; cases hd
        unfold compGo at hgo
        cases hset : setT t d0 st' with
        | none => rw [hset] at hgo; cases hgo
        | some st2 =>
          rw [hset] at hgo
          refine ⟨gd P D accV, F', st', d0, s', rd.mono le, st2, hset, fun xs s2 => ⟨?_, ?_⟩⟩
          · rw [wipe_setσ hv, wipe_wipe]
          · refine ⟨gd P D accV, F', st2, s2, ?_⟩
            simp only at hgo
            have lenW : ∀ {σ' : L2.St} {H' F' : Hp} {st3 : DSt}, SR g (gd P D accV) (setσ t.is xs (L2.wipe σ vs)) H' F' st3 → (wipeD st3 vs).length = st1.length := fun {σ' H' F' st3} s3 => by
              rw [wipeD_length]
              have a1 := s3.len
              have a2 := s2.len
              have a3 := s'.len
              have a4 : st2.length = st'.length := by
                have : ∀ is ds (st st' : DSt), setAll is ds st = some st' → st'.length = st.length := by
                  intro is
                  induction is with
                  | nil => intro ds st st' e; cases ds with | nil => cases e; rfl | cons d ds => cases e
                  | cons i is ih =>
                    intro ds st st' e
                    cases ds with
                    | nil => cases e
                    | cons d ds =>
                      unfold setAll at e
                      split at e
                      · rename_i sti hsi
                        obtain ⟨_, rfl⟩ := slotSet_some hsi
                        rw [ih _ _ _ e, List.length_set]
                      · cases e
                unfold setT at hset
                cases t with
                | nm i => obtain ⟨_, rfl⟩ := slotSet_some hset; rw [List.length_set]
                | nms is =>
                  cases d0 with
                  | tup ds => exact this _ _ _ _ hset
                  | _ => cases hset
              omega
            have wp : ∀ {H' F' : Hp} {st3 : DSt}, SR g (gd P D accV) (setσ t.is xs (L2.wipe σ vs)) H' F' st3 → SR g (gd P D accV) (L2.wipe σ vs) H' F' (wipeD st3 vs) := fun {H' F' st3} s3 => by
              have := s3.wipe vs
              rw [wipe_setσ hv, wipe_wipe] at this
              exact this
            revert hgo
            cases test st2 with
            | ok b st3 =>
              intro hgo H3 F3 le3 s3
              cases b with
              | true =>
                rw [if_pos rfl]
                refine ⟨gd P D accV, F3, st3, s3, ?_⟩
                simp only at hgo
                revert hgo
                cases elt st3 with
                | ok y st4 =>
                  intro hgo H4 F4 le4 s4 v rv
                  simp only at hgo
                  have hD4 := s4.guard_at
                  have hb : big = sizeLine := big_eq
                  refine ⟨accV, hD4, by rw [racc.length, ← hb]; omega, F4, wipeD st4 vs, accV ++ [v], acc ++ [y], (le.trans le3).trans le4, (wp s4).reguard, (racc.mono (le3.trans le4)).append (.cons rv .nil), by simp; omega, lenW (σ' := σ) s4, ?_⟩
                  revert hgo
                  cases hr : compGo vs t test elt (ds.drop (i + 1)) (wipeD st4 vs) with
                  | ok ys' st5 =>
                    intro hgo
                    simp only at hgo
                    cases hgo
                    exact ⟨ys', _, rfl, by rw [List.append_assoc]; exact hall⟩
                  | exn c fs st5 => intro hgo; cases hgo
                  | stuck => intro hgo; cases hgo
                | exn c fs st4 => intro hgo; cases hgo
                | stuck => intro hgo; cases hgo
              | false =>
                rw [if_neg Bool.false_ne_true]
                exact ⟨F3, wipeD st3 vs, accV, acc, le.trans le3, wp s3, racc.mono le3, by omega, lenW (σ' := σ) s3, ys, stE, hgo, hall⟩
            | exn c fs st3 => intro hgo; cases hgo
            | stuck => intro hgo; cases hgo
      · have e : i = ds.length := by omega
        subst e
        rw [List.drop_length] at hgo
        cases hgo
        refine .inl ⟨wk.stop H2 (le.trans s'.le), ?_⟩
        rw [hall] at o1
        rw [List.append_nil] at o1
        exact o1 H2 F' D accV le (s'.unguard s1 hD le hlen hpl) s'.guard_at racc
  · exact o1.elim
theorem ev_comp {vs : List Nat} {t : Tg} {fi : Den (List D)} {test : Den Bool} {elt : Den D} (he : PE X e (tLc (tI g W fi) (tG g t) (tT g WN test) (tE g WN elt) vs)) (hv : ∀ i ∈ t.is, i ∈ vs := by decide) : PE X e (tN g W (dComp vs t fi test elt)) := he.imp fun _ _ _ q => comp_imp hv q
end
end DL

namespace DL
open PySem PySem.Spec PyProof.Rows L2

/-! ### isinstance -/
def tyName : D → Option String
  | .non => some "NoneType"
  | .bl _ => some "bool"
  | .int _ => some "int"
  | .str _ => some "str"
  | .lst _ => some "list"
  | .tup _ => some "tuple"
  | _ => none
/-- the built-in type T of a value; a truth value is an int -/
@[simp] def isTy (T : String) : D → Option Bool
  | .non => some (T == "NoneType")
  | .bl _ => some (T == "bool" || T == "int")
  | .int _ => some (T == "int")
  | .str _ => some (T == "str")
  | .lst _ => some (T == "list")
  | .tup _ => some (T == "tuple")
  | _ => none
def okTy (T : String) : Bool := T == "int" || T == "bool" || T == "str" || T == "list" || T == "tuple"
theorem kit_tys {T : String} (h : okTy T = true) {d : D} {b : Bool} (e : isTy T d = some b) : ∃ tn, tyName d = some tn ∧ ∀ K, PySem.W.kitOne K (.type tn) (.type T) = some b := by
  have hT : T = "int" ∨ T = "bool" ∨ T = "str" ∨ T = "list" ∨ T = "tuple" := by
    simpa [okTy, or_assoc] using h
  have key : ∀ tn b, kitB tn T = some b → ∀ K, PySem.W.kitOne K (.type tn) (.type T) = some b := fun tn b h K => kit_ty h
  rcases hT with rfl | rfl | rfl | rfl | rfl <;> cases d <;> cases e <;> first
    | exact ⟨_, rfl, key _ _ (by decide +kernel)⟩
theorem tyX_of {g : G} {H F : Hp} {v : V} {d : D} {tn : String} (l : Same F H) (r : Br g F H v d) (e : tyName d = some tn) : TyX g.K H v (.type tn) := by
  cases d with
  | non => cases e; cases r.non; exact .base .non
  | bl b => cases e; cases r.bl; exact .base (.bl b)
  | int b => cases e; cases r.int; exact .base (.int b)
  | str b => cases e; cases r.str; exact .base (.str b)
  | lst xs => cases e; obtain ⟨a, vs, rfl, h, _⟩ := r.lst l; exact .base (.lst h)
  | tup xs =>
    cases e
    obtain ⟨a, vs, rfl, h, _⟩ := r.tup l
    rcases h with (h | ⟨o, h⟩) | ⟨o, its, n, h1, h2, _⟩
    · exact .base (.tup h)
    · exact .fTuple h
    · exact .kTuple h1 h2
  | ins c ns ds => cases e
  | scr ns => cases e
@[simp] def opIsi (T : String) (d : D) : Option D := match isTy T d with | some b => some (.bl b) | none => none
theorem vo_isi {g : G} {T : String} (h : okTy T = true) : VO1 g (fun v => rIsi g.K [v, .ty T]) (opIsi T) := by
  intro H F v d z l rd hz Q q
  unfold opIsi at hz
  split at hz
  · rename_i b hb
    cases hz
    obtain ⟨tn, e1, e2⟩ := kit_tys h hb
    exact ⟨v, .ty T, .type tn, .type T, b, rfl, .ty T, tyX_of l rd e1, e2 _, q _ _ _ (Grow.refl l) (.bl _)⟩
  · cases hz
@[simp] def opIsi2 (T U : String) (d : D) : Option D := match isTy T d, isTy U d with | some b, some c => some (.bl (b || c)) | _, _ => none
theorem vo_isi2 {g : G} {T U : String} (h : okTy T = true) (h' : okTy U = true) : ∀ (H F : Hp) (v : V) (d z : D), Same F H → Br g F H v d → opIsi2 T U d = some z → ∀ Q : VK, (∀ H' F', Grow H F H' F' → ∀ v', Rv g F' v' z → Q v' H') → ∀ p, H p = none → rIsiT g.K [v, .ref p] (upd H p (.tup [.ty T, .ty U])) Q := by
  intro H F v d z l rd hz Q q p hp
  unfold opIsi2 at hz
  split at hz
  · rename_i b c hb hc
    cases hz
    obtain ⟨tn, e1, e2⟩ := kit_tys h hb
    obtain ⟨tn', e1', e2'⟩ := kit_tys h' hc
    rw [e1] at e1'; cases e1'
    have gr := Grow.new0 (o := .tup [.ty T, .ty U]) l hp
    have rd' : Br g F (upd H p (.tup [.ty T, .ty U])) v d := by
      rcases rd with rd | ⟨a, vs, ds, e1, e2, h1, r⟩
      · exact .inl rd
      · exact .inr ⟨a, vs, ds, e1, e2, gr.h _ _ h1, r⟩
    refine ⟨v, p, [.ty T, .ty U], .type tn, [.type T, .type U], b || c, rfl, upd_same, .cons (.ty T) (.cons (.ty U) .nil), tyX_of gr.i rd' e1, ?_, q _ _ gr _ (.bl _)⟩
    refine kitAny_cons (e2 _) (fun hb => kitAny_cons (e2' _) (fun hc => by rw [hb, hc]; exact kitAny_nil) fun hc => by rw [hc]; simp) fun hb => by rw [hb]; rfl
  · cases hz
/-- an own class c at C: what isinstance asks -/
structure IsF (g : G) (c : Str) (C : Addr) : Prop where
  gC : g.mg c = some (.ref C)
  cl : Cls g.K C
  ha : PySem.W.findIn g.K (.ref C) "__class__" = some (some (.builtin "object.__class__"))
  hn : PySem.W.specialIn g.K (.builtin "object.__class__") "__get__" = some (some (.builtin "getset_descriptor.__get__"))
  htk : PySem.W.takesIn g.K (.builtin "object.__class__") = some true
  hm : PySem.W.mroIn g.K C (.type "object") = some true
  tys : ∀ tn ∈ ["NoneType", "bool", "int", "str", "list", "tuple"], PySem.W.kitOne g.K (.type tn) (.ref C) = some false
@[simp] def opIsC (c : Str) : D → Option D
  | .ins c' _ _ => if c' = c then some (.bl true) else none
  | d => match tyName d with | some _ => some (.bl false) | none => none
theorem vo_isC {g : G} {c : Str} {C : Addr} (f : IsF g c C) : VO1 g (fun v => rIsi g.K [v, .ref C]) (opIsC c) := by
  intro H F v d z l rd hz Q q
  have other : ∀ tn, tyName d = some tn → tn ∈ ["NoneType", "bool", "int", "str", "list", "tuple"] → z = .bl false → rIsi g.K [v, .ref C] H Q := fun tn e hm hz => by
    subst hz
    exact ⟨v, .ref C, .type tn, .ref C, false, rfl, .own C, tyX_of l rd e, f.tys tn hm, q _ _ _ (Grow.refl l) (.bl _)⟩
  cases d with
  | ins c' ns ds =>
    simp only [opIsC] at hz
    split at hz
    · rename_i hc
      cases hz
      subst hc
      rcases rd with rd | ⟨_, _, _, _, e, _⟩
      · cases rd with
        | ins h1 h2 h3 h4 =>
          rw [f.gC] at h2
          cases h2
          refine ⟨_, .ref _, .ref C, .ref C, true, rfl, .own C, .base (.ins (l _ _ h1) f.cl f.ha f.hn f.htk f.hm), ?_, q _ _ _ (Grow.refl l) (.bl _)⟩
          unfold PySem.W.kitOne
          rw [if_pos (by simp)]
      · cases e
    · cases hz
  | scr ns => cases hz
  | _ => exact other _ rfl (by simp) (by cases hz; rfl)

/-! ### fields -/
@[simp] def getN : List Str → List D → Str → Option D
  | n :: ns, d :: ds, f => if f == n then some d else getN ns ds f
  | _, _, _ => none
theorem getN_rl {g : G} {F : Hp} {f : Str} {z : D} : ∀ {ns : List Str} {vs : List V} {ds : List D}, Rl g F vs ds → getN ns ds f = some z → ∃ v, (ns.zip vs).lookup f = some v ∧ Rv g F v z
  | [], _, _, _, e => by cases e
  | n :: ns, _, _, .nil, e => by cases e
  | n :: ns, v :: vs, d :: ds, .cons r t, e => by
    unfold getN at e
    rw [List.zip_cons_cons, List.lookup_cons]
    cases hf : f == n with
    | true => rw [hf] at e; cases e; exact ⟨v, rfl, r⟩
    | false => rw [hf] at e; exact getN_rl t e
@[simp] def opFld (c f : Str) : D → Option D
  | .ins c' ns ds => if c' = c then getN ns ds f else none
  | _ => none
structure ClsF (g : G) (c : Str) (C : Addr) : Prop where
  gC : g.mg c = some (.ref C)
  cl : Cls g.K C
theorem vo_fld {g : G} {c f : Str} {C : Addr} (k : ClsF g c C) (na : NoAttr g.K C f) {H F : Hp} {v : V} {d z : D} (l : Same F H) (rd : Rv g F v d) (hz : opFld c f d = some z) :
    ∃ a dx fs v', v = .ref a ∧ H a = some (.ins C dx fs) ∧ fs.lookup f = some v' ∧ Rv g F v' z := by
  cases d with
  | ins c' ns ds =>
    simp only [opFld] at hz
    split at hz
    · rename_i hc
      subst hc
      cases rd with
      | ins h1 h2 h3 h4 =>
        rw [k.gC] at h2
        cases h2
        obtain ⟨v', e1, e2⟩ := getN_rl h4 hz
        exact ⟨_, _, _, v', rfl, l _ _ h1, e1, e2⟩
    · cases hz
  | _ => cases hz
section
variable {X : Cx} {g : G} {W : WX} {P : Par} {σ : L2.St} {H F : Hp} {st : DSt} {e : Expr} {s : Stmt} {ss : List Stmt} {f h : Den D}
theorem ev_fld {c n : Str} {C : Addr} (k : ClsF g c C) (na : NoAttr g.K C n) (he : PE X e (tFld g.K (tE g W f) n)) : PE X e (tE g W (dOp1 (opFld c n) f)) := he.imp fun σ H Q ⟨P, F, st, s, o⟩ =>
  ⟨P, F, st, s, o.bind.imp fun x st1 H1 F1 le1 s1 o1 v rx => by
    obtain ⟨z, ez, q⟩ := o1.lift
    obtain ⟨a, dx, fs, v', rfl, h1, h2, h3⟩ := vo_fld k na s1.le rx ez
    exact ⟨a, C, dx, fs, v', rfl, h1, k.cl, na, h2, q H1 F1 (Same.refl _) s1 v' h3⟩⟩
/-- isinstance(x, T), isinstance(x, (T, U)), isinstance(x, C) -/
theorem ev_isi {T : String} (h : okTy T = true) (he : PE X e (tCB (rIsi g.K) (tCons (tE g W f) (tCons (tC (.ty T)) tNil)))) : PE X e (tE g W (dOp1 (opIsi T) f)) := he.imp fun σ H Q ⟨P, F, st, s, o⟩ =>
  ⟨P, F, st, s, o.bind.imp fun x st1 H1 F1 le1 s1 o1 v rx => fin1 (vo_isi h) s1 (.inl rx) o1⟩
theorem ev_isC {c : Str} {C : Addr} (k : IsF g c C) (he : PE X e (tCB (rIsi g.K) (tCons (tE g W f) (tCons (tC (.ref C)) tNil)))) : PE X e (tE g W (dOp1 (opIsC c) f)) := he.imp fun σ H Q ⟨P, F, st, s, o⟩ =>
  ⟨P, F, st, s, o.bind.imp fun x st1 H1 F1 le1 s1 o1 v rx => fin1 (vo_isC k) s1 (.inl rx) o1⟩
theorem ev_isi2 {T U : String} (h : okTy T = true) (h' : okTy U = true) (he : PE X e (tCB (rIsiT g.K) (tCons (tE g W f) (tCons (tTup (tCons (tC (.ty T)) (tCons (tC (.ty U)) tNil))) tNil)))) : PE X e (tE g W (dOp1 (opIsi2 T U) f)) := he.imp fun σ H Q ⟨P, F, st, s, o⟩ =>
  ⟨P, F, st, s, o.bind.imp fun x st1 H1 F1 le1 s1 o1 v rx => by
    obtain ⟨z, ez, q⟩ := o1.lift
    exact ⟨by show 2 ≤ sizeLine; decide, fun p hp => vo_isi2 h h' H1 F1 v x z s1.le (.inl rx) ez Q (fun H' F' gr v' rv => q H' F' gr.f (s1.grow gr) v' rv) p hp⟩⟩

/-! ### slices -/
def tO (g : G) (W : WX) (fo : Den (Option Int)) : TO := fun σ H Q => ∃ P F st, SR g P σ H F st ∧ Out g W P σ F (fo st) fun o _ H' _ => Q o H'
@[simp] def asI : D → Option Int
  | .int i => some i
  | _ => none
@[simp] def dNoP : Den (Option Int) := retD none
@[simp] def dPart (f : Den D) : Den (Option Int) := bindD f fun d => liftO (match asI d with | some i => some (some i) | none => none)
theorem _root_.L2.PO.imp {X : Cx} {e : Option Expr} {t t' : TO} (h : PO X e t) (i : ∀ σ H Q, t' σ H Q → t σ H Q) : PO X e t' := ⟨fun pins s σ H Q I q => h.run pins s σ H Q I (i σ H Q q)⟩
theorem eo_none : PO X none (tO g W dNoP) := (po_none (X := X)).imp fun σ H Q ⟨P, F, st, s, o⟩ => o H F (Same.refl _) s
theorem eo_some {e : Expr} (he : PE X e (tE g W f)) : PO X (some e) (tO g W (dPart f)) := (po_some he).imp fun σ H Q ⟨P, F, st, s, o⟩ =>
  ⟨P, F, st, s, o.bind.imp fun x st1 H1 F1 le1 s1 o1 v rx => by
    obtain ⟨z, ez, q⟩ := o1.lift
    cases x with
    | int i => cases ez; cases rx; exact ⟨i, rfl, q H1 F1 (Same.refl _) s1⟩
    | _ => cases ez⟩
def cutD {α : Type} (xs : List α) (lo hi : Option Int) : List α := (xs.drop (HT.sIx xs.length 0 lo)).take (HT.sIx xs.length xs.length hi - HT.sIx xs.length 0 lo)
theorem cut_rl {vs : List V} {ds : List D} (lo hi : Option Int) (r : Rl g F vs ds) : Rl g F (cutV vs lo hi) (cutD ds lo hi) := by
  unfold cutV cutD
  rw [r.length]
  exact (r.drop _).take _
@[simp] def opSl (d : D) (lo hi : Option Int) : Option D := match d with
  | .lst xs => some (.lst (cutD xs lo hi))
  | .tup xs => some (.tup (cutD xs lo hi))
  | .scr ns => some (.lst (cutD (ns.map D.int) lo hi))
  | _ => none
def rSlD (K : PySem.W.Frag) : V → Option Int → Option Int → Hp → VK → Prop := fun x lo hi H Q => rSlL K x lo hi H Q ∨ rSlN K x lo hi H Q
theorem sl_D : SlR X (rSlD X.K) := sl_list.or sl_tupN
theorem fin_sl {v : V} {x : D} {lo hi : Option Int} {Q : VK} (s : SR g P σ H F st) (rx : Br g F H v x) (o : Out g W P σ F (liftO (opSl x lo hi) st) fun d _ H' F' => ∀ v, Rv g F' v d → Q v H') : rSlD g.K v lo hi H Q := by
  obtain ⟨z, ez, q⟩ := o.lift
  cases x with
  | lst xs =>
    cases ez
    obtain ⟨a, vs, rfl, h1, r1⟩ := rx.lst s.le
    exact .inl ⟨a, vs, rfl, sqL_of h1, fun p hp => q _ _ (Grow.new s.le hp).f (s.grow (Grow.new s.le hp)) _ (.lst upd_same ((cut_rl lo hi r1).mono (Grow.new s.le hp).f))⟩
  | tup xs =>
    cases ez
    obtain ⟨a, vs, rfl, h1, r1⟩ := rx.tup s.le
    refine .inr ⟨a, vs, rfl, h1, fun hw => ?_, fun _ => newT s.le (cut_rl lo hi r1) fun v' H' F' gr rv => q _ _ gr.f (s.grow gr) _ rv⟩
    rw [r1.length] at hw
    have e : cutD xs lo hi = xs := by
      unfold cutD
      rw [hw.1, hw.2]
      simp
    rw [e] at q
    rcases rx with rx | ⟨_, _, _, _, z, _⟩
    · exact q H F (Same.refl _) s _ rx
    · cases z
  | scr ns =>
    cases ez
    rcases rx with rx | ⟨_, _, _, _, z, _⟩
    · cases rx with
      | scr h1 =>
        exact .inl ⟨_, _, rfl, sqL_mono s.le h1, fun p hp => q _ _ (Grow.new s.le hp).f (s.grow (Grow.new s.le hp)) _ (.lst upd_same (cut_rl lo hi (Rl.of_ints ns)))⟩
    · cases z
  | _ => cases ez
@[simp] def dSl (a : Den D) (lo hi : Den (Option Int)) : Den D := bindD a fun x => bindD lo fun l => bindD hi fun u => liftO (opSl x l u)
@[simp] def dSln (i : Nat) (lo hi : Den (Option Int)) : Den D := bindD (dRd i) fun _ => bindD lo fun l => bindD hi fun u => bindD (dRd i) fun x => liftO (opSl x l u)
theorem ev_sl {lo hi : Den (Option Int)} (he : PE X e (tSl (rSlD g.K) (tE g W f) (tO g W lo) (tO g W hi))) : PE X e (tE g W (dSl f lo hi)) := he.imp fun σ H Q ⟨P, F, st, s, o⟩ =>
  ⟨P, F, st, s, o.bind.imp fun x st1 H1 F1 le1 s1 o1 v rx => ⟨P, F1, st1, s1, o1.bind.imp fun l st2 H2 F2 le2 s2 o2 => ⟨P, F2, st2, s2, o2.bind.imp fun u st3 H3 F3 le3 s3 o3 => fin_sl s3 (.inl ((rx.mono le2).mono le3)) o3⟩⟩⟩
theorem ev_sln {i : Nat} {lo hi : Den (Option Int)} (he : PE X e (tSl (rSlD g.K) (tVar i) (tO g W lo) (tO g W hi))) : PE X e (tE g W (dSln i lo hi)) := he.imp fun σ H Q ⟨P, F, st, s, o⟩ => by
  obtain ⟨v, d, hv, _, o1⟩ := o.rd s
  refine ⟨v, hv, P, F, st, s, o1.bind.imp fun l st2 H2 F2 le2 s2 o2 => ⟨P, F2, st2, s2, o2.bind.imp fun u st3 H3 F3 le3 s3 o3 => ?_⟩⟩
  obtain ⟨v', d', hv', rx, o4⟩ := o3.rd s3
  rw [hv] at hv'; cases hv'
  exact fin_sl s3 rx o4

/-! ### list(range(..)), tuple(range(..)) -/
theorem rgV_rl (F : Hp) (a b : Int) : Rl g F (rgV a b) ((List.range (b - a).toNat).map fun k => D.int (a + (k : Nat))) := by
  unfold rgV
  generalize List.range (b - a).toNat = l
  induction l with
  | nil => exact .nil
  | cons x l ih => exact .cons (.int _) ih
def tRg (g : G) (W : WX) (f : Den (Int × Int)) : L2.St → Hp → (Int → Int → Hp → Prop) → Prop := fun σ H Q => ∃ P F st, SR g P σ H F st ∧ Out g W P σ F (f st) fun r _ H' _ => Q r.1 r.2 H'
@[simp] def dRg1 (f : Den D) : Den (Int × Int) := bindD f fun d => liftO (match asI d with | some n => if n.natAbs ≤ big then some (0, n) else none | none => none)
@[simp] def dRg2 (f h : Den D) : Den (Int × Int) := bindD f fun d => bindD h fun e => liftO (match asI d, asI e with | some m, some n => if 0 ≤ m ∧ m ≤ big ∧ 0 ≤ n ∧ n ≤ big then some (m, n) else none | _, _ => none)
def rgL (r : Int × Int) : List D := (List.range (r.2 - r.1).toNat).map fun k => D.int (r.1 + (k : Nat))
@[simp] def dLstRg (f : Den (Int × Int)) : Den (List D) := bindD f fun r => if r.2 ≤ big then retD (rgL r) else fun _ => .stuck
@[simp] def dTupRg (f : Den (Int × Int)) : Den D := bindD f fun r => if r.2 ≤ big then retD (.tup (rgL r)) else fun _ => .stuck
theorem rg_ok {r : Int × Int} (h0 : r.1 = 0 ∧ r.2.natAbs ≤ big ∨ 0 ≤ r.1 ∧ r.1 ≤ big ∧ 0 ≤ r.2 ∧ r.2 ≤ big) : RgOk r.1 r.2 := by
  have : big = 16777216 := rfl
  rcases h0 with ⟨h0, h1⟩ | ⟨h0, h1, h2, h3⟩
  · rw [h0]; exact ⟨by omega, by omega, by omega, by omega, by omega⟩
  · exact ⟨by omega, by omega, by omega, by omega, by omega⟩
def PRgImp (X : Cx) (e : Expr) (t t' : L2.St → Hp → (Int → Int → Hp → Prop) → Prop) (h : PRg X e t) (i : ∀ σ H Q, t' σ H Q → t σ H Q) : PRg X e t' := fun pins s σ H Q I q => h pins s σ H Q I (i σ H Q q)
/-- .. with what makes them good -/
def tRgK (g : G) (W : WX) (f : Den (Int × Int)) : L2.St → Hp → (Int → Int → Hp → Prop) → Prop := fun σ H Q => ∃ P F st, SR g P σ H F st ∧ Out g W P σ F (f st) fun r _ H' _ => RgOk r.1 r.2 → Q r.1 r.2 H'
theorem erg1 (he : PRg X e (tRg1 (tE g W f))) : PRg X e (tRgK g W (dRg1 f)) := PRgImp X e _ _ he fun σ H Q ⟨P, F, st, s, o⟩ =>
  ⟨P, F, st, s, o.bind.imp fun x st1 H1 F1 le1 s1 o1 v rx => by
    obtain ⟨z, ez, q⟩ := o1.lift
    cases x with
    | int n =>
      simp only [asI] at ez
      split at ez
      · rename_i hn
        cases ez; cases rx
        exact ⟨n, rfl, q H1 F1 (Same.refl _) s1 (rg_ok (.inl ⟨rfl, hn⟩))⟩
      · cases ez
    | _ => cases ez⟩
theorem erg2 (he : PRg X e (tRg2 (tE g W f) (tE g W h))) : PRg X e (tRgK g W (dRg2 f h)) := PRgImp X e _ _ he fun σ H Q ⟨P, F, st, s, o⟩ =>
  ⟨P, F, st, s, o.bind.imp fun x st1 H1 F1 le1 s1 o1 v rx => ⟨P, F1, st1, s1, o1.bind.imp fun y st2 H2 F2 le2 s2 o2 u ry => by
    obtain ⟨z, ez, q⟩ := o2.lift
    cases x with
    | int m =>
      cases y with
      | int n =>
        simp only [asI] at ez
        split at ez
        · rename_i hn
          cases ez; cases rx; cases ry
          exact ⟨m, n, rfl, rfl, q H2 F2 (Same.refl _) s2 (rg_ok (.inr hn))⟩
        · cases ez
      | _ => cases ez
    | _ => cases ez⟩⟩
theorem evN_rg {fr : Den (Int × Int)} (he : PE X e (tLstRg (tRgK g W fr))) : PE X e (tN g W (dLstRg fr)) := he.imp fun σ H Q ⟨P, F, st, s, o⟩ =>
  ⟨P, F, st, s, o.bind.imp fun r st1 H1 F1 le1 s1 o1 ok => ⟨ok, fun p hp => by
    split at o1
    · exact o1 _ F1 p _ (Same.refl _) (s1.newx hp) upd_same (rgV_rl F1 r.1 r.2)
    · exact o1.elim⟩⟩
theorem ev_tupRg {fr : Den (Int × Int)} (he : PE X e (tTupRgN (tRgK g W fr))) : PE X e (tE g W (dTupRg fr)) := he.imp fun σ H Q ⟨P, F, st, s, o⟩ =>
  ⟨P, F, st, s, o.bind.imp fun r st1 H1 F1 le1 s1 o1 ok => ⟨ok, by
    split at o1
    · exact newT s1.le (rgV_rl F1 r.1 r.2) fun v' H' F' gr rv => o1 _ _ gr.f (s1.grow gr) _ rv
    · exact o1.elim⟩⟩

/-! ### methods of data -/
@[simp] def dMeth (c : Str) (m : Str) (df : List D → M D) (a : Den D) (fa : Den (List D)) : Den D := bindD a fun x => match x with
  | .ins c' ns ds => if c' = c ∧ (getN ns ds m).isNone ∧ ns.length = ds.length then bindD fa fun ys => fun st => match df (x :: ys) with | .ok d => .ok d st | _ => .stuck else fun _ => .stuck
  | _ => fun _ => .stuck
theorem getN_none {ns : List Str} {f : Str} : ∀ {vs : List V} {ds : List D}, Rl g F vs ds → ns.length = ds.length → getN ns ds f = none → (ns.zip vs).lookup f = none := by
  induction ns with
  | nil => intro vs ds _ _ _; rfl
  | cons n ns ih =>
    intro vs ds r hl e
    cases r with
    | nil => cases hl
    | cons r t =>
      unfold getN at e
      rw [List.zip_cons_cons, List.lookup_cons]
      cases hf : f == n with
      | true => rw [hf] at e; cases e
      | false => rw [hf] at e; exact ih t (by simpa using hl) e
theorem ev_meth {c m : Str} {C : Addr} {df : List D → M D} {fa : Den (List D)} (k : ClsF g c C) (he : PE X e (tMeth C m (spD g df) [] E0 (tE g W f) (tA g W fa))) : PE X e (tE g W (dMeth c m df f fa)) := he.imp fun σ H Q ⟨P, F, st, s, o⟩ =>
  ⟨P, F, st, s, o.bind.imp fun x st1 H1 F1 le1 s1 o1 v rx => by
    cases x with
    | ins c' ns ds =>
      simp only at o1
      split at o1
      · rename_i hc
        obtain ⟨rfl, hno, hlen⟩ := hc
        cases rx with
        | ins h1 h2 h3 h4 =>
          rw [k.gC] at h2
          cases h2
          refine ⟨_, _, _, rfl, s1.le _ _ h1, getN_none h4 hlen (by simpa using hno), P, F1, st1, s1, o1.bind.imp fun ys st2 H2 F2 le2 s2 o2 us rus => ?_⟩
          refine ⟨F2, _, s2.le, .cons (.ins (le2 _ _ h1) k.gC h3 (h4.mono le2)) (by rw [List.append_nil]; exact rus), ?_⟩
          revert o2
          cases df (.ins c' ns ds :: ys) with
          | ok d => exact fun o2 v H' F' gr rv => o2 H' F' gr.f (s2.grow gr) v rv
          | exn c fs => exact fun o2 => o2.elim
          | stuck => exact fun o2 => o2.elim
      · exact o1.elim
    | _ => exact o1.elim⟩
end

/-! ### a def -/
section
variable {P : Program} {w : World} {K : PySem.W.Frag} {mg : Str → Option Value} {base : Heap} {x qual : Str} {params : Arguments} {body : List Stmt} {scope : Scope} {f : Addr} {fd : FuncData} {N ps : List Str} {k : Nat}
theorem fn_data {b : DS} (F : FunD K x qual params body scope [] [] f fd) (S : FnScope N ps scope) (hp : ps.length ≤ N.length)
    (hbody : ∀ (cdv : Value) (A : Around) (outer : List Env) (s : Shared) (H : Hp) (E : XK), Room k (A.deeper (envOfC qual scope s.heap.objs.size f cdv)) →
      Takes (cxOf (L2.CX P w) P w K mg base N qual scope f cdv A outer s H E) (fun cls dd _ H => E cls dd H) →
      PassesOwn (model P w) (cxOf (L2.CX P w) P w K mg base N qual scope f cdv A outer s H E).A (cxOf (L2.CX P w) P w K mg base N qual scope f cdv A outer s H E).env (cxOf (L2.CX P w) P w K mg base N qual scope f cdv A outer s H E).xe →
      PSs (cxOf (L2.CX P w) P w K mg base N qual scope f cdv A outer s H E) body (tS ⟨K, mg, none, tk⟩ (fun cls dd _ H => E cls dd H) b)) :
    FnOk P w K mg base (L2.CX P w) (k + 1) f fd ps (spD ⟨K, mg, none, tk⟩ (runF ps.length N.length b)) :=
  F.ok S (fun vs H Q E h => spD_len h) fun cdv A outer s H vs Q E hr h => ⟨_, hbody cdv A outer s H E hr (takes_of rfl rfl rfl rfl) (passes_of rfl), body_ok rfl hp (spD_len h) h⟩
theorem fn_dataR {y : Str} {b : DS} (F : FunD K x qual params body scope [] [] f fd) (S : FnScope (y :: N) ps scope) (hp : ps.length ≤ (y :: N).length)
    (hbody : ∀ (cdv : Value) (A : Around) (outer : List Env) (s : Shared) (H : Hp) (E : XK), Room k (A.deeper (envOfC qual scope s.heap.objs.size f cdv)) →
      Takes (cxOf (L2.CX P w) P w K mg base (y :: N) qual scope f cdv A outer s H E) (fun cls dd _ H => E cls dd H) →
      PassesOwn (model P w) (cxOf (L2.CX P w) P w K mg base (y :: N) qual scope f cdv A outer s H E).A (cxOf (L2.CX P w) P w K mg base (y :: N) qual scope f cdv A outer s H E).env (cxOf (L2.CX P w) P w K mg base (y :: N) qual scope f cdv A outer s H E).xe →
      PSs (cxOf (L2.CX P w) P w K mg base (y :: N) qual scope f cdv A outer s H E) body (tS ⟨K, mg, none, tk⟩ (fun cls dd _ H => E cls dd H) b)) :
    FnOk P w K mg base (L2.CX P w) (k + 1) f fd ps (spR ⟨K, mg, none, tk⟩ (runR ps.length (y :: N).length b)) :=
  F.ok S (fun vs H Q E h => spR_len h) fun cdv A outer s H vs Q E hr h => ⟨_, hbody cdv A outer s H E hr (takes_of rfl rfl rfl rfl) (passes_of rfl), body_okR rfl hp (spR_len h) h⟩
end
end DL

namespace DL
open PySem PySem.Spec PyProof.Rows L2

/-! ### instances: __init__ and the call of the class -/
@[simp] def sSelf (i : Nat) (cn n : Str) (f : Den D) : DS := bindD f fun v => fun st => match st[i]? with
  | some (.oi k c ns ds) => if c ≠ cn ∨ n ∈ ns ∨ ns.length ≠ ds.length ∨ 100 ≤ ns.length then .stuck else .ok .nx (st.set i (.oi k c (ns ++ [n]) (ds ++ [v])))
  | _ => .stuck
theorem putF_new {f : Str} {v : V} : ∀ {ns : List Str} {vs : List V}, f ∉ ns → ns.length = vs.length → putF f v (ns.zip vs) = (ns ++ [f]).zip (vs ++ [v])
  | [], [], _, _ => rfl
  | n :: ns, [], _, e => by cases e
  | [], v :: vs, _, e => by cases e
  | n :: ns, u :: vs, h, e => by
    have hn : n ≠ f := fun z => h (by rw [z]; exact List.mem_cons_self)
    show putF f v ((n, u) :: ns.zip vs) = (n, u) :: ((ns ++ [f]).zip (vs ++ [v]))
    unfold putF
    rw [if_neg hn, putF_new (fun z => h (List.mem_cons_of_mem _ z)) (by simpa using e)]
def spI (g : G) (c : Str) (df : List D → M (List Str × List D)) : Sp := fun vs H Q E => ∃ F a C dx us ds, vs = .ref a :: us ∧ Same F H ∧ F a = none ∧ g.mg c = some (.ref C) ∧ H a = some (.ins C dx []) ∧ Rl g F us ds ∧ match df ds with
  | .ok r => ∀ H' F' ws' dx', Same F F' → Same F' H' → (∀ b, H b ≠ none → F b = none → F' b = none) → (∀ b o, b ≠ a → H b = some o → H' b = some o) → H' a = some (.ins C dx' (r.1.zip ws')) → F' a = none → r.1.length = ws'.length → Rl g F' ws' r.2 → Q .non H'
  | .exn c fs => ∀ cls dd H' F', Same F F' → Same F' H' → (∀ b, H b ≠ none → F b = none → F' b = none) → (∀ b o, b ≠ a → H b = some o → H' b = some o) → RepX g F' H' c fs cls dd → E cls dd H'
  | .stuck => False
def runI (c : Str) (m n : Nat) (f : DS) (ds : List D) : M (List Str × List D) := if ds.length + 1 = m then match f (.oi 0 c [] [] :: (ds.map Slot.sh ++ List.replicate (n - ds.length - 1) .no)) with
  | .ok .nx (.oi 0 c' ns xs :: _) => if c' = c then .ok (ns, xs) else .stuck
  | .exn c fs _ => .exn c fs
  | _ => .stuck
  else .stuck
@[simp] def makeM (c : Str) (df : List D → M (List Str × List D)) (ds : List D) : M D := match df ds with
  | .ok r => .ok (.ins c r.1 r.2)
  | .exn c fs => .exn c fs
  | .stuck => .stuck
section
variable {X : Cx} {g : G} {W : WX} {P : Par} {σ : L2.St} {H F : Hp} {st : DSt} {e : Expr} {s : Stmt} {ss : List Stmt} {f h : Den D}
theorem spI_len {c : Str} {m n : Nat} {f : DS} {vs : List V} {Q : VK} {E : XK} (h : spI g c (runI c m n f) vs H Q E) : vs.length = m := by
  obtain ⟨F, a, C, dx, us, ds, rfl, le, fa, hc, ha, r, h⟩ := h
  rw [List.length_cons, r.length]
  by_cases hm : ds.length + 1 = m
  · exact hm
  · unfold runI at h
    rw [if_neg hm] at h
    exact h.elim
theorem es_self {i : Nat} {n c : Str} {C : Addr} (k : ClsF g c C) (na : NoAttr g.K C n) (he : PS X s (sFld g.K (tVar i) (tE g W f) n)) : PS X s (tS g W (sSelf i c n f)) := he.imp fun D σ H ⟨P, F, st, s, o⟩ => by
  refine ⟨P, F, st, s, OutS.bind o |>.imp fun v st1 H1 F1 le1 s1 o1 vv rv => ?_⟩
  split at o1
  · rename_i k1 c1 ns ds h1
    split at o1
    · exact o1.elim
    · rename_i hns
      have hcc : c1 = c := by
        rcases Classical.em (c1 = c) with z | z
        · exact z
        · exact absurd (.inl z) hns
      have hn1 : n ∉ ns := fun z => hns (.inr (.inl z))
      have hn2 : ns.length = ds.length := by
        rcases Nat.decEq ns.length ds.length with z | z
        · exact absurd (.inr (.inr (.inl z))) hns
        · exact z
      have hn3 : ns.length < 100 := by
        rcases Nat.lt_or_ge ns.length 100 with z | z
        · exact z
        · exact absurd (.inr (.inr (.inr z))) hns
      obtain ⟨ov, hov⟩ := SRc.nth s1 h1
      obtain ⟨O, c0⟩ := id s1
      obtain ⟨a, C1, dx, vs, rfl, hb, ho, hm, hl, ha, r⟩ := c0.sl i _ _ h1 hov
      subst hcc
      rw [k.gC] at hm
      cases hm
      refine ⟨_, hov, a, C, dx, ns.zip vs, rfl, ha, k.cl, na, ?_, ?_⟩
      · rw [List.length_zip]; omega
      · rw [putF_new hn1 hl]
        have gr : ∀ b o, b ≠ a → H1 b = some o → upd H1 a (.ins C dx ((ns ++ [n]).zip (vs ++ [vv]))) b = some o := fun b o hb e => by rw [upd_ne hb]; exact e
        refine o1 σ _ F1 (Same.refl _) ⟨O, fun b o e => ?_, fun b o e => ?_, fun b j e => ?_, fun b nb => ?_, by rw [List.length_set]; exact c0.len, fun j sl ov e1 e2 => ?_⟩
        · rw [upd_ne (fun z => by subst z; rw [(c0.oo b i ho).1] at e; cases e)]; exact c0.le b o e
        · rw [upd_ne (fun z => by subst z; rw [(c0.oo b i ho).2.1] at e; cases e)]; exact c0.rr b o e
        · refine ⟨(c0.oo b j e).1, (c0.oo b j e).2.1, ?_⟩
          by_cases hb : b = a
          · subst hb; rw [upd_same]; simp
          · rw [upd_ne hb]; exact (c0.oo b j e).2.2
        · refine ⟨(c0.no b nb).1, ?_⟩
          by_cases hb : b = a
          · subst hb; rw [upd_same]; simp
          · rw [upd_ne hb]; exact (c0.no b nb).2
        · have hi : i < st1.length := by
            rcases Nat.lt_or_ge i st1.length with q | q
            · exact q
            · rw [List.getElem?_eq_none q] at h1; cases h1
          by_cases hj : j = i
          · subst hj
            rw [List.getElem?_set_self hi] at e1
            cases e1
            rw [hov] at e2; cases e2
            exact ⟨a, C, dx, vs ++ [vv], rfl, hb, ho, k.gC, by simp [hl], upd_same, r.append (.cons rv .nil)⟩
          · rw [List.getElem?_set_ne (Ne.symm hj)] at e1
            exact (c0.sl j sl ov e1 e2).move rfl (fun _ h => h) (Same.refl _) (fun b o ho' h => gr b o (fun z => hj (by rw [z, ho] at ho'; exact (Option.some.inj ho').symm)) h) fun _ _ h => h
  · exact o1.elim
theorem body_okI {x c : Str} {N ps : List Str} {f : DS} {n : Nat} {vs : List V} {Q : VK} {E : XK} (hn : n = (x :: N).length) (hp : ps.length ≤ (x :: N).length) (hl : vs.length = ps.length) (h : spI g c (runI c ps.length n f) vs H Q E) :
    tS g (fun cls dd _ H => E cls dd H) f { nx := fun _ H' => Q .non H', rt := Q } (L2.start (x :: N) vs) H := by
  obtain ⟨F, a, C, dx, us, ds, rfl, le, fa, hc, ha, r, h⟩ := h
  have hln := r.length
  rw [start_cons]
  refine ⟨⟨[a], fun b => if b = a then none else H b, fun b => H b ≠ none ∧ F b = none⟩, F, .oi 0 c [] [] :: (ds.map Slot.sh ++ List.replicate (n - ds.length - 1) .no), ⟨fun b => if b = a then some 0 else none, le, fun b o e => ?_, fun b i e => ?_, fun a h => ⟨h.2, h.1⟩, ?_, fun i s ov e1 e2 => ?_⟩, ?_⟩
  · by_cases hb : b = a
    · subst hb; simp at e
    · simpa [hb] using e
  · by_cases hb : b = a
    · subst hb; exact ⟨fa, by simp, by rw [ha]; simp⟩
    · simp [hb] at e
  · unfold L2.start
    simp only [List.length_append, List.length_map, List.length_replicate, List.length_cons] at *
    omega
  · cases i with
    | zero =>
      simp at e1 e2
      subst e1; subst e2
      exact ⟨a, C, dx, [], rfl, rfl, by simp, hc, rfl, ha, .nil⟩
    | succ i =>
      have q := init_sl (P := ⟨[a], fun b => if b = a then none else H b, fun b => H b ≠ none ∧ F b = none⟩) (H := H) (O := fun b => if b = a then some 0 else none) (N := N) r (n - ds.length - 1) i s ov (by simpa using e1) (by simpa using e2)
      have hs : s = .no ∨ ∃ d, s = .sh d := by
        have e1 : (ds.map Slot.sh ++ List.replicate (n - ds.length - 1) Slot.no)[i]? = some s := by simpa using e1
        rcases List.mem_append.mp (List.mem_of_getElem? e1) with h | h
        · obtain ⟨d, _, e⟩ := List.mem_map.mp h
          exact .inr ⟨d, e.symm⟩
        · exact .inl (List.mem_replicate.mp h).2
      rcases hs with rfl | ⟨d, rfl⟩
      · trivial
      · exact q
  · unfold runI at h
    rw [if_pos (by simp only [List.length_cons] at hl; omega)] at h
    revert h
    cases f (.oi 0 c [] [] :: (ds.map Slot.sh ++ List.replicate (n - ds.length - 1) .no)) with
    | ok fl st' =>
      cases fl with
      | nx =>
        cases st' with
        | nil => exact fun h => h.elim
        | cons s0 st' =>
          cases s0 with
          | oi k c' ns xs =>
            cases k with
            | zero =>
              intro h σ' H' F' le s
              simp only at h
              split at h
              · rename_i r hr
                split at hr
                · rename_i hcc
                  cases hr
                  subst hcc
                  obtain ⟨ov, hov⟩ := SRc.nth (i := 0) s rfl
                  obtain ⟨O, c0⟩ := s
                  obtain ⟨a', C', dx', ws', e1, e2, e3, e4, e5, e6, e7⟩ := c0.sl 0 _ _ rfl hov
                  have : a' = a := by simpa using e2.symm
                  subst this
                  rw [hc] at e4
                  cases e4
                  exact h H' F' ws' dx' le c0.le (fun b h1 h2 => (c0.no b ⟨h1, h2⟩).1) (fun b o hb e => c0.rr b o (by simp [hb, e])) e6 (c0.oo _ _ e3).1 e5 e7
                · cases hr
              · rename_i hr
                split at hr <;> cases hr
              · exact h.elim
            | succ k => exact fun h => h.elim
          | _ => exact fun h => h.elim
      | ret d => exact fun h => h.elim
      | brk => exact fun h => h.elim
      | cnt => exact fun h => h.elim
    | exn c fs st' =>
      intro h cls dd σ' H' F' le s rx
      obtain ⟨O, c0⟩ := s
      exact h cls dd H' F' le c0.le (fun b h1 h2 => (c0.no b ⟨h1, h2⟩).1) (fun b o hb e => c0.rr b o (by simp [hb, e])) rx
    | stuck => exact fun h => h.elim

theorem run_makeS {k : Nat} {f C : Addr} {fd : FuncData} {ps : List Str} {sp : Sp} {E : L2.St → XK} {pins : List (Addr × Obj)} {σ : L2.St} {H : Hp} {s : Shared} {Q : VK} {us : List Value} {vs : List V} (M : Mk X.K C f) (F : FnOk X.prog X.w X.K X.mg X.base (L2.CX X.prog X.w) k f fd ps sp) (hr : Room (k + 1) X.A) (hb : Binds X.K fd ps [])
    (hx : PassesAt (L2.CX X.prog X.w) X σ (E σ)) (I : Inv X pins σ H s) (r : Vals vs us)
    (h : ∀ x dx, H x = none → H dx = none → dx ≠ x → sp (.ref x :: vs) (upd (upd H dx (.own x)) x (.ins C dx [])) (fun v H2 => v = .non ∧ Q (.ref x) H2) (E σ)) :
    wpAny (model X.prog X.w) X.A (call (.ref C) us) (EP X pins σ Q) X.xe s := by
  have hq := h (s.heap.objs.size + 1) s.heap.objs.size (I.hok.fresh (Nat.le_succ _)) (I.hok.fresh (Nat.le_refl _)) (Nat.ne_of_lt (Nat.lt_succ_self _))
  have I2 := Inv.made (C := C) I
  have r2 : Vals (V.ref (s.heap.objs.size + 1) :: vs) (Value.ref (s.heap.objs.size + 1) :: us) := .cons rfl r
  have hl : (Value.ref (s.heap.objs.size + 1) :: us).length = ps.length := by
    have e := r2.length
    rw [F.len _ _ _ _ hq] at e
    exact e.symm
  have b := hb _ (Value.ref (s.heap.objs.size + 1) :: us) I2.kIn (by rw [List.append_nil]; exact hl)
  rw [List.append_nil] at b
  refine wpAny_call (make_map (f := f) I.kIn M.makes M.init (beq_iff_eq.mp M.fn) (codeAny_mono (F.run _ X.stack _ _ ⟨Value.ref (s.heap.objs.size + 1) :: us, []⟩ (Value.ref (s.heap.objs.size + 1) :: us) _ _ (E σ) (hr.make C us [])
    (I2.env0.make C us []) b r2 hq) fun r s' hq' => ?_))
  cases r with
  | error e => exact hx pins _ _ e s' I2 hq'
  | ok fl =>
    cases fl with
    | ret u =>
      obtain ⟨v, H', I3, rv, ev, q3⟩ := I2.after hq'
      subst ev
      exact ⟨rv, ⟨V.ref (s.heap.objs.size + 1), H', I3, rfl, q3⟩⟩
    | next => exact False.elim hq'
    | brk => exact False.elim hq'
    | cont => exact False.elim hq'
def tMakeS (C : Addr) (sp : Sp) (E : L2.St → XK) (t : TA) : TE := fun σ H Q => t σ H fun vs H1 => ∀ x dx, H1 x = none → H1 dx = none → dx ≠ x →
  sp (.ref x :: vs) (upd (upd H1 dx (.own x)) x (.ins C dx [])) (fun v H2 => v = .non ∧ Q (.ref x) H2) (E σ)
theorem pe_makeS {k : Nat} {f C : Addr} {fd : FuncData} {ps : List Str} {sp : Sp} {E : L2.St → XK} {x : Str} {p pos : Pos} {e : Expr} {es : List Expr} {t : TA} (M : Mk X.K C f) (F : FnOk X.prog X.w X.K X.mg X.base (L2.CX X.prog X.w) k f fd ps sp) (hr : Room (k + 1) X.A) (hg : Gl X x) (hm : X.mg x = some (.ref C)) (hb : Binds X.K fd ps []) (hx : ∀ σ, PassesAt (L2.CX X.prog X.w) X σ (E σ))
    (ha : PA X (e :: es) t) (hdb : (x == ("__debug__" : Str)) = false := by decide) (he : starEach (e :: es) X.env = (false, eval e X.env) :: starEach es X.env := by rfl) (hpl : (backTo pos (starEach es X.env)).any (·.1) = false := by rfl) :
    PE X (.Call (.Name x p) (e :: es) [] pos) (tMakeS C sp E t) := by
  refine ⟨fun pins s σ H Q I h => ?_⟩
  refine wpAny_Call_Name_kw (ld_glob I hg hm ?_ hdb)
  refine PySem.W.callWith_K (h₀ := X.base) I.ok.mod.kin M.kp (thn (ha.run pos pins s σ H _ I h) fun us s1 ⟨vs, H1, I1, r, q⟩ => ⟨I1.kIn, ?_⟩) he hpl
  exact run_makeS M F hr hb (hx σ) I1 r q
theorem ev_make {c : Str} {C : Addr} {df : List D → M (List Str × List D)} {fa : Den (List D)} (k : g.mg c = some (.ref C)) (he : PE X e (tMakeS C (spI g c df) (WE W) (tA g W fa))) : PE X e (tE g W (dCall (makeM c df) fa)) := he.imp fun σ H Q ⟨P, F, st, s, o⟩ =>
  ⟨P, F, st, s, o.bind.imp fun ds st1 H1 F1 le1 s1 o1 vs rs x dx hx hdx hne => by
    have hn1 : ∀ {b : Addr} {o : HO}, H1 b = some o → b ≠ x ∧ b ≠ dx := fun e => ⟨(fun z => by subst z; rw [hx] at e; cases e), (fun z => by subst z; rw [hdx] at e; cases e)⟩
    have up : Same H1 (upd (upd H1 dx (.own x)) x (.ins C dx [])) := fun b o e => by rw [upd_ne (hn1 e).1, upd_ne (hn1 e).2]; exact e
    have f0 : F1 x = none := by
      cases e : F1 x with
      | none => rfl
      | some o => rw [s1.le _ _ e] at hx; cases hx
    have nf : ∀ {b : Addr}, H1 b ≠ none → (upd (upd H1 dx (.own x)) x (.ins C dx [])) b ≠ none := fun h => Same.ne up h
    refine ⟨F1, x, C, dx, vs, ds, rfl, s1.le.trans up, f0, k, upd_same, rs, ?_⟩
    revert o1
    unfold makeM liftM'
    cases df ds with
    | ok r =>
      intro o1 H' F' ws' dx' a1 a2 a3 a4 a5 a6 a7 a8
      refine ⟨rfl, ?_⟩
      have sf : Same F' (upd F' x (.ins C dx' (r.1.zip ws'))) := fun b o e => by rw [upd_ne (fun z => by subst z; rw [a6] at e; cases e)]; exact e
      have gr : Grow H1 F1 H' (upd F' x (.ins C dx' (r.1.zip ws'))) := by
        refine ⟨fun b o e => a4 b o (hn1 e).1 (up b o e), a1.trans sf, fun b o e => ?_, fun b h1 h2 => ?_⟩
        · by_cases hb : b = x
          · subst hb; rw [upd_same] at e; cases e; exact a5
          · rw [upd_ne hb] at e; exact a2 b o e
        · obtain ⟨u, hu⟩ := ne_some h1
          rw [upd_ne (hn1 hu).1]
          exact a3 b (nf h1) h2
      exact o1 H' _ gr.f (s1.grow gr) _ (.ins upd_same k a7 (a8.mono sf))
    | exn c' fs =>
      intro o1 cls dd H' F' a1 a2 a3 a4 rx
      have gr : Grow H1 F1 H' F' := ⟨fun b o e => a4 b o (hn1 e).1 (up b o e), a1, a2, fun b h1 h2 => a3 b (nf h1) h2⟩
      exact o1 cls dd H' F' a1 (s1.grow gr) rx
    | stuck => exact fun o1 => o1.elim⟩

/-! ### targets of assignments -/
@[simp] def sAsg (t : Tg) (f : Den D) : DS := bindD f fun d => fun st => match setT t d st with
  | some st' => .ok .nx st'
  | none => .stuck
theorem es_asg {t : Tg} (he : PS X s (tAsg (tE g W f) (tG g t))) : PS X s (tS g W (sAsg t f)) := he.imp fun D σ H ⟨P, F, st, s, o⟩ =>
  ⟨P, F, st, s, OutS.bind o |>.imp fun d st1 H1 F1 le1 s1 o1 v rv => by
    cases hs : setT t d st1 with
    | none => rw [hs] at o1; exact o1.elim
    | some st2 =>
      rw [hs] at o1
      exact ⟨P, F1, st1, d, s1, rv, st2, hs, fun xs s2 => o1 _ _ F1 (Same.refl _) s2⟩⟩
@[simp] def sPar (i j : Nat) (f h : Den D) : DS := bindD f fun x => bindD h fun y => fun st => match slotSet i (.sh x) st with
  | some st1 => match slotSet j (.sh y) st1 with
    | some st2 => .ok .nx st2
    | none => .stuck
  | none => .stuck
theorem es_par {i j : Nat} (he : PS X s (tPar i j (tCons (tE g W f) (tCons (tE g W h) tNil)))) : PS X s (tS g W (sPar i j f h)) := he.imp fun D σ H ⟨P, F, st, s, o⟩ =>
  ⟨P, F, st, s, OutS.bind o |>.imp fun x st1 H1 F1 le1 s1 o1 v rv => ⟨P, F1, st1, s1, OutS.bind o1 |>.imp fun y st2 H2 F2 le2 s2 o2 u ru => ⟨v, u, rfl, by
    cases hs : slotSet i (.sh x) st2 with
    | none => rw [hs] at o2; exact o2.elim
    | some st3 =>
      rw [hs] at o2
      simp only at o2
      cases hs2 : slotSet j (.sh y) st3 with
      | none => rw [hs2] at o2; exact o2.elim
      | some st4 =>
        rw [hs2] at o2
        obtain ⟨hi, rfl⟩ := slotSet_some hs
        obtain ⟨hj, rfl⟩ := slotSet_some hs2
        exact o2 _ H2 F2 (Same.refl _) ((s2.put (rv.mono le2) hi).put ru hj)⟩⟩⟩
@[simp] def sPar3 (i j l : Nat) (f h k : Den D) : DS := bindD f fun x => bindD h fun y => bindD k fun z => fun st => match slotSet i (.sh x) st with
  | some st1 => match slotSet j (.sh y) st1 with
    | some st2 => match slotSet l (.sh z) st2 with
      | some st3 => .ok .nx st3
      | none => .stuck
    | none => .stuck
  | none => .stuck
theorem es_par3 {i j l : Nat} {k : Den D} (he : PS X s (tPar3 i j l (tCons (tE g W f) (tCons (tE g W h) (tCons (tE g W k) tNil))))) : PS X s (tS g W (sPar3 i j l f h k)) := he.imp fun D σ H ⟨P, F, st, s, o⟩ =>
  ⟨P, F, st, s, OutS.bind o |>.imp fun x st1 H1 F1 le1 s1 o1 v rv => ⟨P, F1, st1, s1, OutS.bind o1 |>.imp fun y st2 H2 F2 le2 s2 o2 u ru => ⟨P, F2, st2, s2, OutS.bind o2 |>.imp fun z st3 H3 F3 le3 s3 o3 w rw' => ⟨v, u, w, rfl, by
    cases hs : slotSet i (.sh x) st3 with
    | none => rw [hs] at o3; exact o3.elim
    | some st4 =>
      rw [hs] at o3
      simp only at o3
      cases hs2 : slotSet j (.sh y) st4 with
      | none => rw [hs2] at o3; exact o3.elim
      | some st5 =>
        rw [hs2] at o3
        simp only at o3
        cases hs3 : slotSet l (.sh z) st5 with
        | none => rw [hs3] at o3; exact o3.elim
        | some st6 =>
          rw [hs3] at o3
          obtain ⟨hi, rfl⟩ := slotSet_some hs
          obtain ⟨hj, rfl⟩ := slotSet_some hs2
          obtain ⟨hl, rfl⟩ := slotSet_some hs3
          exact o3 _ H3 F3 (Same.refl _) (((s3.put ((rv.mono le2).mono le3) hi).put (ru.mono le3) hj).put rw' hl)⟩⟩⟩⟩
end
section
variable {P : Program} {w : World} {K : PySem.W.Frag} {mg : Str → Option Value} {base : Heap} {x qual : Str} {params : Arguments} {body : List Stmt} {scope : Scope} {f : Addr} {fd : FuncData} {N ps : List Str} {k : Nat}
theorem fn_init {y c : Str} {b : DS} (F : FunD K x qual params body scope [] [] f fd) (S : FnScope (y :: N) ps scope) (hp : ps.length ≤ (y :: N).length)
    (hbody : ∀ (cdv : Value) (A : Around) (outer : List Env) (s : Shared) (H : Hp) (E : XK), Room k (A.deeper (envOfC qual scope s.heap.objs.size f cdv)) →
      Takes (cxOf (L2.CX P w) P w K mg base (y :: N) qual scope f cdv A outer s H E) (fun cls dd _ H => E cls dd H) →
      PassesOwn (model P w) (cxOf (L2.CX P w) P w K mg base (y :: N) qual scope f cdv A outer s H E).A (cxOf (L2.CX P w) P w K mg base (y :: N) qual scope f cdv A outer s H E).env (cxOf (L2.CX P w) P w K mg base (y :: N) qual scope f cdv A outer s H E).xe →
      PSs (cxOf (L2.CX P w) P w K mg base (y :: N) qual scope f cdv A outer s H E) body (tS ⟨K, mg, none, tk⟩ (fun cls dd _ H => E cls dd H) b)) :
    FnOk P w K mg base (L2.CX P w) (k + 1) f fd ps (spI ⟨K, mg, none, tk⟩ c (runI c ps.length (y :: N).length b)) :=
  F.ok S (fun vs H Q E h => spI_len h) fun cdv A outer s H vs Q E hr h => ⟨_, hbody cdv A outer s H E hr (takes_of rfl rfl rfl rfl) (passes_of rfl), body_okI rfl hp (spI_len h) h⟩
end
end DL

namespace DL
open PySem PySem.Spec PyProof.Rows L2

/-! ### a def that hands back a new list, owned by the caller -/
def tSO (g : G) (W : WX) (a : DS) (fn : Den (List D)) : TS := fun E σ H => ∃ P F st, SR g P σ H F st ∧ match a st with
  | .ok .nx st' => (match fn st' with
    | .ok ds st2 => ∀ σ' H' F' p vs, Same F F' → SRx g P σ' H' F' st2 p → H' p = some (.lst vs) → Rl g F' vs ds → E.rt (.ref p) H'
    | _ => False)
  | _ => False
def runO (m n : Nat) (a : DS) (fn : Den (List D)) (ds : List D) : Option (List D) := if ds.length = m then match a (ds.map Slot.sh ++ List.replicate (n - ds.length) .no) with
  | .ok .nx st' => (match fn st' with
    | .ok zs _ => some zs
    | _ => none)
  | _ => none
  else none
def spO (g : G) (df : List D → Option (List D)) : Sp := fun vs H Q _ => ∃ F ds zs, Same F H ∧ Rl g F vs ds ∧ df ds = some zs ∧ ∀ p vs' H' F', Grow H F H' F' → H p = none → H' p = some (.lst vs') → F' p = none → Rl g F' vs' zs → Q (.ref p) H'
@[simp] def dCallO (df : List D → Option (List D)) (fa : Den (List D)) : Den (List D) := bindD fa fun ds => liftO (df ds)
section
variable {X : Cx} {g : G} {W : WX} {P : Par} {σ : L2.St} {H F : Hp} {st : DSt} {e : Expr} {s : Stmt} {ss : List Stmt} {f h : Den D} {a b : DS} {fn : Den (List D)}
theorem essO_one (he : PS X s (tRet (tN g W fn))) : PSs X [s] (tSO g W sPass fn) := (pss_one he).imp fun E σ H ⟨P, F, st, s, o⟩ => by
  refine ⟨P, F, st, s, ?_⟩
  have o : (match fn st with
    | .ok ds st2 => ∀ σ' H' F' p vs, Same F F' → SRx g P σ' H' F' st2 p → H' p = some (.lst vs) → Rl g F' vs ds → E.rt (.ref p) H'
    | _ => False) := o
  revert o
  unfold OutN
  cases fn st with
  | ok ds st2 => exact fun o H' F' p vs => o σ H' F' p vs
  | exn c fs st2 => exact fun o => o.elim
  | stuck => exact fun o => o.elim
theorem essO_cons (h1 : PS X s (tS g W a)) (h2 : PSs X ss (tSO g W b fn)) : PSs X (s :: ss) (tSO g W (sSeq a b) fn) := (pss_cons h1 h2).imp fun E σ H ⟨P, F, st, s, o⟩ => by
  refine ⟨P, F, st, s, ?_⟩
  unfold sSeq at o
  revert o
  cases a st with
  | ok fl st1 =>
    cases fl with
    | nx =>
      intro o σ1 H1 F1 le1 s1
      refine ⟨P, F1, st1, s1, ?_⟩
      simp only at o
      revert o
      cases b st1 with
      | ok fl st2 =>
        cases fl with
        | nx =>
          simp only
          cases fn st2 with
          | ok ds st3 => exact fun o σ' H' F' p vs le => o σ' H' F' p vs (le1.trans le)
          | exn c fs st3 => exact fun o => o
          | stuck => exact fun o => o
        | _ => exact fun o => o
      | _ => exact fun o => o
    | _ => exact fun o => o.elim
  | _ => exact fun o => o.elim
theorem body_okO {N ps : List Str} {n : Nat} {vs : List V} {Q : VK} {E : XK} (hn : n = N.length) (hp : ps.length ≤ N.length) (hl : vs.length = ps.length) (h : spO g (runO ps.length n a fn) vs H Q E) :
    tSO g (fun cls dd _ H => E cls dd H) a fn { nx := fun _ H' => Q .non H', rt := Q } (L2.start N vs) H := by
  obtain ⟨F, ds, zs, le, r, h, k⟩ := h
  refine ⟨⟨[], H, fun a => H a ≠ none ∧ F a = none⟩, F, ds.map Slot.sh ++ List.replicate (n - ds.length) .no, ⟨fun _ => none, le, Same.refl _, (fun _ _ e => nomatch e), fun a h => ⟨h.2, h.1⟩, ?_, init_sl r _⟩, ?_⟩
  · have := r.length
    unfold L2.start
    simp only [List.length_append, List.length_map, List.length_replicate]
    omega
  · unfold runO at h
    rw [if_pos (by rw [← r.length]; exact hl)] at h
    revert h
    cases a (ds.map Slot.sh ++ List.replicate (n - ds.length) .no) with
    | ok fl st' =>
      cases fl with
      | nx =>
        simp only
        cases fn st' with
        | ok zs' st2 =>
          intro h σ' H' F' p vs' le s hp rr
          cases h
          obtain ⟨O, c, o0, f0, r0, n0⟩ := s
          exact k p vs' H' F' ⟨c.rr, le, c.le, fun a h1 h2 => (c.no a ⟨h1, h2⟩).1⟩ r0 hp f0 rr
        | exn c fs st2 => exact fun h => nomatch h
        | stuck => exact fun h => nomatch h
      | _ => exact fun h => nomatch h
    | exn c fs st2 => exact fun h => nomatch h
    | stuck => exact fun h => nomatch h
theorem ev_callO {df : List D → Option (List D)} {E : L2.St → XK} {fa : Den (List D)} (he : PE X e (tCallS (spO g df) E (tA g W fa))) : PE X e (tN g W (dCallO df fa)) := he.imp fun σ H Q ⟨P, F, st, s, o⟩ =>
  ⟨P, F, st, s, o.bind.imp fun ds st1 H1 F1 le1 s1 o1 vs rs => by
    cases hz : df ds with
    | none => rw [hz] at o1; exact o1.elim
    | some zs =>
      rw [hz] at o1
      refine ⟨F1, ds, zs, s1.le, rs, hz, fun p vs' H' F' gr hp hp' fp rr => o1 H' F' p vs' gr.f ?_ hp' rr⟩
      obtain ⟨O, c⟩ := s1
      refine ⟨O, c.grow gr, ?_, fp, ?_, fun n => (c.no p n).2 hp⟩
      · cases e : O p with
        | none => rfl
        | some i => exact absurd hp (c.oo p i e).2.2
      · cases e : P.R p with
        | none => rfl
        | some u => rw [c.rr _ _ e] at hp; cases hp⟩
theorem spO_len {m n : Nat} {vs : List V} {Q : VK} {E : XK} (h : spO g (runO m n a fn) vs H Q E) : vs.length = m := by
  obtain ⟨F, ds, zs, le, r, h, k⟩ := h
  rw [r.length]
  by_cases hm : ds.length = m
  · exact hm
  · unfold runO at h
    rw [if_neg hm] at h
    cases h
end
section
variable {P : Program} {w : World} {K : PySem.W.Frag} {mg : Str → Option Value} {base : Heap} {x qual : Str} {params : Arguments} {body : List Stmt} {scope : Scope} {f : Addr} {fd : FuncData} {N ps : List Str} {k : Nat}
theorem fn_own {b : DS} {fn : Den (List D)} (F : FunD K x qual params body scope [] [] f fd) (S : FnScope N ps scope) (hp : ps.length ≤ N.length)
    (hbody : ∀ (cdv : Value) (A : Around) (outer : List Env) (s : Shared) (H : Hp) (E : XK), Room k (A.deeper (envOfC qual scope s.heap.objs.size f cdv)) →
      Takes (cxOf (L2.CX P w) P w K mg base N qual scope f cdv A outer s H E) (fun cls dd _ H => E cls dd H) →
      PassesOwn (model P w) (cxOf (L2.CX P w) P w K mg base N qual scope f cdv A outer s H E).A (cxOf (L2.CX P w) P w K mg base N qual scope f cdv A outer s H E).env (cxOf (L2.CX P w) P w K mg base N qual scope f cdv A outer s H E).xe →
      PSs (cxOf (L2.CX P w) P w K mg base N qual scope f cdv A outer s H E) body (tSO ⟨K, mg, none, tk⟩ (fun cls dd _ H => E cls dd H) b fn)) :
    FnOk P w K mg base (L2.CX P w) (k + 1) f fd ps (spO ⟨K, mg, none, tk⟩ (runO ps.length N.length b fn)) :=
  F.ok S (fun vs H Q E h => spO_len h) fun cdv A outer s H vs Q E hr h => ⟨_, hbody cdv A outer s H E hr (takes_of rfl rfl rfl rfl) (passes_of rfl), body_okO rfl hp (spO_len h) h⟩
/-- the law: called with the script -/
theorem law_sp {f : DS} {n : Nat} {H : Hp} {a : Addr} {ns : List Int} (hS : SqL K H a (ns.map V.int)) (h : runF 1 n f [.scr ns] = .ok (.bl true)) (E : XK) : spD ⟨K, mg, none, tk⟩ (runF 1 n f) [.ref a] H (fun v _ => v = .bl true) E := by
  refine ⟨H, [.scr ns], Same.refl _, .cons (.scr hS) .nil, ?_⟩
  rw [h]
  intro v H' F' gr rv
  cases rv
  rfl
theorem cx_no {w : World} {H : Hp} {s : Shared} {e : Value} {s' : Shared} (h : L2.CX P w [] H s (fun _ _ _ => False) e s') : False := by
  obtain ⟨_, _, _, _, _, _, _, _, _, _, _, _, z⟩ := h
  exact z
end
end DL

namespace DL
open PySem PySem.Spec PyProof.Rows L2

/-! ### the head: facts by names, one Bool more -/
abbrev AlB : Type := Bool × List He.FnW × List He.FnW
/-- a def without what it closes over -/
def clW (K : PySem.W.Frag) (p : Str × Option Str) : He.FnW := match K.lookup (He.fAd K p) with
  | some ⟨_, _, .func fd, _⟩ => some (fd.name, fd.qualname, fd.params, fd.body, fd.scope, fd.globals, [], fd.builtins)
  | _ => none
def obsB (fa : List He.Fa) (fn xn : List He.DefD) (ex : PySem.W.Frag → Bool) (K : PySem.W.Frag) : AlB := ((fa.all fun f => f.ok K) && ((fn.all fun d => d.ok K) && ex K), fn.map (fun d => He.fnW K d.at_), xn.map fun d => clW K d.at_)
def valB (fn xn : List He.DefD) : AlB := (true, fn.map He.DefD.val, xn.map He.DefD.val)
structure Says (fa : List He.Fa) (fn xn : List He.DefD) (ex : PySem.W.Frag → Bool) (K : PySem.W.Frag) : Prop where
  eq : obsB fa fn xn ex K = valB fn xn
def obsBG (n : Nat) (fa : List He.Fa) (fn xn : List He.DefD) (ex : PySem.W.Frag → Bool) (g : Addr → Option Obj) : AlB := obsB fa fn xn ex (He.frG g (cStatics :: He.asD g n))
def hookB (n : Nat) (fa : List He.Fa) (fn xn : List He.DefD) (ex : PySem.W.Frag → Bool) : PySem.W.Hook where
  α := AlB
  obs := fun s => obsBG n fa fn xn ex s.heap.get?
  val := fun _ => valB fn xn
  says := fun _ h => ∃ K : PySem.W.Frag, K.In h ∧ Says fa fn xn ex K
  of := fun _ _ e => ⟨_, He.frG_in, ⟨e⟩⟩
  keeps := fun _ _ _ ⟨K, hK, c⟩ k => ⟨K, PySem.W.Frag.In.keeps hK k, c⟩
theorem obsBG_eq {n : Nat} {fa : List He.Fa} {fn xn : List He.DefD} {ex : PySem.W.Frag → Bool} {g : Addr → Option Obj} {s : Shared} (h : ∀ a, g a = s.heap.get? a) : obsBG n fa fn xn ex g = (hookB n fa fn xn ex).obs s := by
  have e : g = s.heap.get? := funext h
  rw [e] <;> rfl
section
variable {fa : List He.Fa} {fn xn : List He.DefD} {ex : PySem.W.Frag → Bool} {K : PySem.W.Frag}
theorem Says.fact (c : Says fa fn xn ex K) (i : Nat) {f : He.Fa} (h : fa[i]? = some f := by rfl) : f.ok K = true := by
  have c1 := (He.ba (show ((fa.all fun f => f.ok K) && ((fn.all fun d => d.ok K) && ex K)) = true from congrArg (fun z : AlB => z.1) c.eq)).1
  exact List.all_eq_true.mp c1 f (List.mem_of_getElem? h)
theorem Says.xtra (c : Says fa fn xn ex K) : ex K = true :=
  (He.ba (He.ba (show ((fa.all fun f => f.ok K) && ((fn.all fun d => d.ok K) && ex K)) = true from congrArg (fun z : AlB => z.1) c.eq)).2).2
theorem Says.def_ (c : Says fa fn xn ex K) (i : Nat) {d : He.DefD} (h : fn[i]? = some d := by rfl) : ∃ fd, FunD K d.name d.qual d.params d.body d.scope (d.dvs K) (d.kws K) (He.fAd K d.at_) fd := by
  have c2 := (He.ba (He.ba (show ((fa.all fun f => f.ok K) && ((fn.all fun d => d.ok K) && ex K)) = true from congrArg (fun z : AlB => z.1) c.eq)).2).1
  have e : fn.map (fun d => He.fnW K d.at_) = fn.map He.DefD.val := congrArg (fun z : AlB => z.2.1) c.eq
  have e2 : (fn.map fun d => He.fnW K d.at_)[i]? = (fn.map He.DefD.val)[i]? := by rw [e]
  rw [List.getElem?_map, List.getElem?_map, h] at e2
  exact He.DefD.funD (Option.some.inj e2) (List.all_eq_true.mp c2 d (List.mem_of_getElem? h))
theorem Says.clo (c : Says fa fn xn ex K) (i : Nat) {d : He.DefD} (h : xn[i]? = some d := by rfl) : clW K d.at_ = d.val := by
  have e : xn.map (fun d => clW K d.at_) = xn.map He.DefD.val := congrArg (fun z : AlB => z.2.2) c.eq
  have e2 : (xn.map fun d => clW K d.at_)[i]? = (xn.map He.DefD.val)[i]? := by rw [e]
  rw [List.getElem?_map, List.getElem?_map, h] at e2
  exact Option.some.inj e2
end

/-! ### own defs by name -/
structure Fk (P : Program) (w : World) (K : PySem.W.Frag) (mg : Str → Option Value) (base : Heap) (x : Str) (lvl : Nat) (f : Addr) (ps : List Str) (sp : Sp) : Prop where
  ok : ∃ fd, FnOk P w K mg base (L2.CX P w) lvl f fd ps sp ∧ Binds K fd ps []
  gm : mg x = some (.ref f)
  kp : PySem.W.keepIn K (.ref f) = true
section
variable {X : Cx} {x : Str} {lvl : Nat} {f : Addr} {ps : List Str} {sp : Sp} {W : WX} {e : Expr} {es : List Expr} {t : TA} {p pos : Pos}
theorem Fk.pe (F : Fk X.prog X.w X.K X.mg X.base x lvl f ps sp) (hr : Room lvl X.A) (hg : Gl X x) (tk : Takes X W) (ha : PA X (e :: es) t)
    (hdb : (x == ("__debug__" : Str)) = false := by decide) (he : starEach (e :: es) X.env = (false, eval e X.env) :: starEach es X.env := by rfl) (hpl : (backTo pos (starEach es X.env)).any (·.1) = false := by rfl) :
    PE X (.Call (.Name x p) (e :: es) [] pos) (tCallS sp (WE W) t) := by
  obtain ⟨fd, G, b⟩ := F.ok
  exact pe_callS G hr hg F.gm F.kp b (fun σ => passAt tk σ) ha hdb he hpl
theorem run_fnS0 {k : Nat} {fd : FuncData} {E : L2.St → XK} (F : FnOk X.prog X.w X.K X.mg X.base (L2.CX X.prog X.w) k f fd ps sp) (hr : Room k X.A) (hg : Gl X x) (hm : X.mg x = some (.ref f)) (hk : PySem.W.keepIn X.K (.ref f) = true) (hb : Binds X.K fd ps []) (hx : ∀ σ, PassesAt (L2.CX X.prog X.w) X σ (E σ))
    (hdb : (x == ("__debug__" : Str)) = false := by decide) : PE X (.Call (.Name x p) [] [] pos) (tCallS sp E tNil) := by
  refine ⟨fun pins s σ H Q I h => ?_⟩
  refine wpAny_Call_Name_kw (ld_glob I hg hm ?_ hdb)
  exact PySem.W.callWith_K0 I.kIn hk (run_fnS (us := []) F hr hb (hx σ) I .nil h)
theorem Fk.pe0 (F : Fk X.prog X.w X.K X.mg X.base x lvl f ps sp) (hr : Room lvl X.A) (hg : Gl X x) (tk : Takes X W) (hdb : (x == ("__debug__" : Str)) = false := by decide) : PE X (.Call (.Name x p) [] [] pos) (tCallS sp (WE W) tNil) := by
  obtain ⟨fd, G, b⟩ := F.ok
  exact run_fnS0 G hr hg F.gm F.kp b (fun σ => passAt tk σ) hdb
theorem ev_call0 {g : G} {e : Expr} {df : List D → M D} (he : PE X e (tCallS (spD g df) (WE W) tNil)) : PE X e (tE g W (dCall df dNil)) := he.imp fun σ H Q ⟨P, F, st, s, o⟩ =>
  call_fin s .nil (fun _ _ _ h => h) (o.bind H F (Same.refl _) s)
/-- a method of data -/
structure Mf (P : Program) (w : World) (K : PySem.W.Frag) (mg : Str → Option Value) (base : Heap) (C : Addr) (m : Str) (lvl : Nat) (f : Addr) (ps : List Str) (sp : Sp) : Prop where
  ok : ∃ fd, FnOk P w K mg base (L2.CX P w) lvl f fd ps sp ∧ Binds K fd ps []
  me : Meth K C m f
variable {C : Addr} {m : Str} {o : Expr} {ta : TE} {apos : Pos}
theorem Mf.pe {pl : Sem Bool} (F : Mf X.prog X.w X.K X.mg X.base C m lvl f ps sp) (hr : Room lvl X.A) (c : Cls X.K C) (he : PE X o ta) (ha : PA X (e :: es) t)
    (hst : starEach (e :: es) X.env = (false, eval e X.env) :: starEach es X.env := by rfl) (hpl : (backTo pos (starEach es X.env)).any (·.1) = false := by rfl)
    (ht : eval (.Call (.Attribute o m apos) (e :: es) [] pos) X.env = (do
      let ov ← eval o X.env
      standAt apos.atName
      let (f, first) ← holding [ov] (getMethod ov m pl)
      callWith pos f first (backTo pos (starEach (e :: es) X.env)) (backToKw pos (keywordEach [] X.env))) := by rfl) :
    PE X (.Call (.Attribute o m apos) (e :: es) [] pos) (tMeth C m sp [] E0 ta t) := by
  obtain ⟨fd, G, b⟩ := F.ok
  exact pe_meth he c F.me G hr b .nil passL ha hst hpl ht
theorem Mf.pe0 {pl : Sem Bool} (F : Mf X.prog X.w X.K X.mg X.base C m lvl f ps sp) (hr : Room lvl X.A) (c : Cls X.K C) (he : PE X o ta)
    (ht : eval (.Call (.Attribute o m apos) [] [] pos) X.env = (do
      let ov ← eval o X.env
      standAt apos.atName
      let (f, first) ← holding [ov] (getMethod ov m pl)
      callWith pos f first (backTo pos (starEach [] X.env)) (backToKw pos (keywordEach [] X.env))) := by rfl) :
    PE X (.Call (.Attribute o m apos) [] [] pos) (tMeth C m sp [] E0 ta tNil) := by
  obtain ⟨fd, G, b⟩ := F.ok
  exact pe_meth0 he c F.me G hr b .nil passL ht
theorem ev_meth0 {g : G} {e : Expr} {c m : Str} {C : Addr} {df : List D → M D} {f : Den D} (k : ClsF g c C) (he : PE X e (tMeth C m (spD g df) [] E0 (tE g W f) tNil)) : PE X e (tE g W (dMeth c m df f dNil)) :=
  ev_meth k (he.imp fun σ H Q ⟨P, F, st, s, o⟩ => ⟨P, F, st, s, o.imp fun x st1 H1 F1 le1 s1 o1 v rx => by
    obtain ⟨a, dx, fs, e1, e2, e3, q⟩ := o1 v rx
    obtain ⟨P2, F2, st2, s2, o2⟩ := q
    exact ⟨a, dx, fs, e1, e2, e3, o2 H1 F2 (Same.refl _) s2 [] .nil⟩⟩)
theorem pe_no : PE X e (tE g W fun _ => .stuck) := ⟨fun _ _ _ _ _ _ ⟨_, _, _, _, o⟩ => o.elim⟩
theorem pn_no {g : G} : PE X e (tN g W fun _ => .stuck) := ⟨fun _ _ _ _ _ _ ⟨_, _, _, _, o⟩ => o.elim⟩
theorem pt_no {g : G} : PT X e (tT g W fun _ => .stuck) := ⟨fun _ _ _ _ _ _ ⟨_, _, _, _, o⟩ => o.elim⟩
/-- the calls of a class -/
structure Kf (P : Program) (w : World) (K : PySem.W.Frag) (mg : Str → Option Value) (base : Heap) (c : Str) (lvl : Nat) (C f : Addr) (ps : List Str) (sp : Sp) : Prop where
  ok : ∃ fd, FnOk P w K mg base (L2.CX P w) lvl f fd ps sp ∧ Binds K fd ps []
  mkr : Mk K C f
  gm : mg c = some (.ref C)
theorem Kf.pe {c : Str} (F : Kf X.prog X.w X.K X.mg X.base c lvl C f ps sp) (hr : Room (lvl + 1) X.A) (hg : Gl X c) (tk : Takes X W) (ha : PA X (e :: es) t)
    (hdb : (c == ("__debug__" : Str)) = false := by decide) (he : starEach (e :: es) X.env = (false, eval e X.env) :: starEach es X.env := by rfl) (hpl : (backTo pos (starEach es X.env)).any (·.1) = false := by rfl) :
    PE X (.Call (.Name c p) (e :: es) [] pos) (tMakeS C sp (WE W) t) := by
  obtain ⟨fd, G, b⟩ := F.ok
  exact pe_makeS F.mkr G hr hg F.gm b (fun σ => passAt tk σ) ha hdb he hpl
theorem room_u {k : Nat} {A : Around} (r : Room k A) : A.units + 65 < cLine := by have := r.un; omega
theorem room_u4 {k : Nat} {A : Around} (r : Room k A) : A.units + 64 < cLine := by have := r.un; omega
/-- a comprehension stored under a name -/
theorem es_ownLc {g : G} {s : Stmt} {i : Nat} {vs : List Nat} {t : Tg} {fi : Den (List D)} {test : Den Bool} {elt : Den D} (he : PS X s (tAsg (tLc (tI g W fi) (tG g t) (tT g WN test) (tE g WN elt) vs) (gName i))) (hv : ∀ i ∈ t.is, i ∈ vs := by decide) : PS X s (tS g W (sOwn i (dComp vs t fi test elt))) :=
  es_own (he.imp fun D σ H q => comp_imp hv q)
theorem ets_nil {g : G} : PTs X [] (tT g W dYes) := ⟨fun pins s σ H Q I ⟨P, F, st, s0, o⟩ => pts_nil.run pins s σ H Q I (o H F (Same.refl _) s0)⟩
end
end DL

namespace DL
open PySem PySem.Spec PyProof.Rows L2

/-- the end of a law: its def's promise, over the facts of the head -/
theorem law_end {l : PySem.W.OpenLaw} {k n : Nat} {q : Program} {loose : List Str} {XP : (Str → Option Value) → Heap → Prop} {d : PySem.DefRec} {fa : List He.Fa} {fn xn : List He.DefD} {ex : PySem.W.Frag → Bool} {f : DS} {H : Nat}
    (hn : l.most = some 63) (hdf : d.params.defaults = []) (hr : Room k callerA) (hname : d.name = ("law" : Str))
    (F : ∀ (w : World) (K : PySem.W.Frag) (mg : Str → Option Value) (h : Heap), K.In h → h.Ns mainGlobals mg → Says fa fn xn ex K → mg ("law" : Str) = some (.ref (He.fAd K (("law" : Str), none))) ∧
      ∃ fd : FuncData, (∀ (s : Shared) (u : Value), BindsTo s fd ⟨[u], []⟩ [(("_law_script" : Str), u)]) ∧ ∀ base : Heap, FnOk l.prog w K mg base (L2.CX l.prog w) k (He.fAd K (("law" : Str), none)) fd [("_law_script" : Str)] (spD ⟨K, mg, none, tk⟩ (runF 1 n f)))
    (math : ∀ ns : List Int, runF 1 n f [.scr ns] = .ok (.bl true)) :
    PySem.W.WalkO q loose XP (hookB H fa fn xn ex).says l.row.toRowW d [] (fun f vs => PySem.call f vs) := by
  refine Att.attach_call hn hdf fun w s₀ s₁ mg mb fa' o pm cd doc a vs ns G Y ho hd hcd hmg hobj hints hlen hg => ?_
  obtain ⟨K, KX, c⟩ := Y
  rw [hname] at hmg
  obtain ⟨g1, fd, hb, hF⟩ := F w K mg _ KX G.T.g c
  rw [hmg] at g1
  cases g1
  exact law_call KX G.T.g G.T.b G.T.builtins G.T.nolimit hg hobj hints (Nat.le_trans hlen (by decide)) hr (fun base _ _ => hF base) hb (fun H hO hS => law_sp hS (math ns) _) fun H e s' h => cx_no h
def isfB (K : PySem.W.Frag) (c : Str) : Bool := He.eqO (PySem.W.findIn K (.ref (He.ga K c)) "__class__") (some (some (.builtin "object.__class__"))) && (He.eqO (PySem.W.specialIn K (.builtin "object.__class__") "__get__") (some (some (.builtin "getset_descriptor.__get__"))) &&
  (decide (PySem.W.takesIn K (.builtin "object.__class__") = some true) && (decide (PySem.W.mroIn K (He.ga K c) (.type "object") = some true) && ["NoneType", "bool", "int", "str", "list", "tuple"].all fun tn => decide (PySem.W.kitOne K (.type tn) (.ref (He.ga K c)) = some false))))
theorem isfB_ok {K : PySem.W.Frag} {mg : Str → Option Value} {c : Str} (k : ClsF ⟨K, mg, none, tk⟩ c (He.ga K c)) (h : isfB K c = true) : IsF ⟨K, mg, none, tk⟩ c (He.ga K c) := by
  unfold isfB at h
  obtain ⟨h1, h⟩ := He.ba h
  obtain ⟨h2, h⟩ := He.ba h
  obtain ⟨h3, h⟩ := He.ba h
  obtain ⟨h4, h5⟩ := He.ba h
  exact ⟨k.gC, k.cl, He.eqO_ok h1, He.eqO_ok h2, of_decide_eq_true h3, of_decide_eq_true h4, fun tn ht => of_decide_eq_true (List.all_eq_true.mp h5 tn ht)⟩

theorem ev_gint {X : Cx} {g : G} {W : WX} {x : Str} {i : Int} {pos : Pos} (h : ∃ t, X.mg x = some (.int i t)) (hg : Gl X x) (hd : (x == ("__debug__" : Str)) = false := by decide) : PE X (.Name x pos) (tE g W (dC (.int i))) := by
  obtain ⟨t, h⟩ := h
  exact ev_c (pe_glob (v := .int i) hg h ⟨_, rfl⟩ hd) fun _ => .int _
theorem ev_gstr {X : Cx} {g : G} {W : WX} {x i : Str} {pos : Pos} (h : ∃ t, X.mg x = some (.str i t)) (hg : Gl X x) (hd : (x == ("__debug__" : Str)) = false := by decide) : PE X (.Name x pos) (tE g W (dC (.str i))) := by
  obtain ⟨t, h⟩ := h
  exact ev_c (pe_glob (v := .str i) hg h ⟨_, rfl⟩ hd) fun _ => .str _
/-! ### xs.index(x) -/
section
variable {X : Cx} {g : G} {W : WX} {P : Par} {σ : L2.St} {H F : Hp} {st : DSt} {e : Expr} {s : Stmt} {ss : List Stmt} {f h : Den D}
/-- sorted of ints -/
def insI (x : Int) : List Int → List Int
  | [] => [x]
  | y :: r => if x ≤ y then x :: y :: r else y :: insI x r
def sortI : List Int → List Int
  | [] => []
  | x :: r => insI x (sortI r)
theorem insI_perm (x : Int) : ∀ l, (insI x l).Perm (x :: l)
  | [] => .refl _
  | y :: r => by
    unfold insI
    split
    · exact .refl _
    · exact ((insI_perm x r).cons y).trans (.swap x y r)
theorem sortI_perm : ∀ l, (sortI l).Perm l
  | [] => .refl _
  | x :: r => (insI_perm x _).trans ((sortI_perm r).cons x)
theorem insI_sorted (x : Int) : ∀ l : List Int, l.Pairwise (· ≤ ·) → (insI x l).Pairwise (· ≤ ·)
  | [], _ => by simp [insI]
  | y :: r, h => by
    unfold insI
    split
    · rename_i hx
      refine List.pairwise_cons.mpr ⟨fun z hz => ?_, h⟩
      rcases List.mem_cons.mp hz with rfl | hz
      · exact hx
      · exact Int.le_trans hx ((List.pairwise_cons.mp h).1 z hz)
    · rename_i hx
      obtain ⟨h1, h2⟩ := List.pairwise_cons.mp h
      refine List.pairwise_cons.mpr ⟨fun z hz => ?_, insI_sorted x r h2⟩
      rcases List.mem_cons.mp ((insI_perm x r).mem_iff.mp hz) with rfl | hz
      · omega
      · exact h1 z hz
theorem sortI_sorted : ∀ l, (sortI l).Pairwise (· ≤ ·)
  | [] => .nil
  | x :: r => insI_sorted x _ (sortI_sorted r)
theorem sorted_unique : ∀ {l m : List Int}, l.Perm m → l.Pairwise (· ≤ ·) → m.Pairwise (· ≤ ·) → l = m
  | [], m, p, _, _ => (List.nil_perm.mp p).symm
  | x :: l, m, p, h1, h2 => by
    cases m with
    | nil => exact absurd p.symm (by simp)
    | cons y m =>
      obtain ⟨a1, a2⟩ := List.pairwise_cons.mp h1
      obtain ⟨b1, b2⟩ := List.pairwise_cons.mp h2
      have hxy : x = y := by
        have hx : x ∈ y :: m := p.mem_iff.mp List.mem_cons_self
        have hy : y ∈ x :: l := p.mem_iff.mpr List.mem_cons_self
        rcases List.mem_cons.mp hx with e | hx
        · exact e
        · rcases List.mem_cons.mp hy with e | hy
          · exact e.symm
          · exact Int.le_antisymm (a1 y hy) (b1 x hx)
      subst hxy
      rw [sorted_unique (List.Perm.cons_inv p) a2 b2]
def nSorted : D → Option (List D)
  | .lst ds => match intsOf ds with | some is => some ((sortI is).map D.int) | none => none
  | .tup _ => none
  | _ => none
end
end DL

namespace DL
open PySem PySem.Spec PyProof.Rows L2

/-! ### lists of lists, owned as a whole -/
def compGo2 (vs : List Nat) (t : Tg) (elt : Den (List D)) : List D → Den (List (List D))
  | [] => retD []
  | d :: ds => fun st => match setT t d st with
    | none => .stuck
    | some st1 => match elt st1 with
      | .ok y st3 => match compGo2 vs t elt ds (wipeD st3 vs) with
        | .ok ys st4 => .ok (y :: ys) st4
        | _ => .stuck
      | _ => .stuck
def dComp2 (vs : List Nat) (t : Tg) (fi : Den (List D)) (elt : Den (List D)) : Den (List (List D)) := bindD fi fun ds => fun st =>
  if ds.length ≤ big ∧ vs.all (plainAt st) = true then
    match compGo2 vs t elt ds (wipeD st vs) with
    | .ok ys st' => .ok ys (backD st st' vs)
    | _ => .stuck
  else .stuck
abbrev BL := List (Addr × List V)
def refs (bl : BL) : List V := bl.map fun q => V.ref q.1
/-- guarded: the new list D and the lists in it -/
def gd2 (P : Par) (D : Addr) (bl : BL) : Par := ⟨P.B, fun x => if x = D then some (.lst (refs bl)) else match bl.lookup x with
  | some vs => some (.lst vs)
  | none => P.R x, fun x => P.N x ∨ x = D ∨ x ∈ bl.map (·.1)⟩
structure RL2 (g : G) (F : Hp) (bl : BL) (dss : List (List D)) : Prop where
  len : bl.length = dss.length
  at_ : ∀ (j : Nat) (q : Addr × List V) (ds : List D), bl[j]? = some q → dss[j]? = some ds → Rl g F q.2 ds
theorem RL2.mono {g : G} {F F' : Hp} {bl : BL} {dss : List (List D)} (e : Same F F') (h : RL2 g F bl dss) : RL2 g F' bl dss := ⟨h.len, fun j q ds e1 e2 => (h.at_ j q ds e1 e2).mono e⟩
theorem RL2.snoc {g : G} {F : Hp} {bl : BL} {dss : List (List D)} {p : Addr} {vs : List V} {ds : List D} (h : RL2 g F bl dss) (r : Rl g F vs ds) : RL2 g F (bl ++ [(p, vs)]) (dss ++ [ds]) := by
  refine ⟨by simp [h.len], fun j q es e1 e2 => ?_⟩
  rcases Nat.lt_or_ge j bl.length with hj | hj
  · rw [List.getElem?_append_left hj] at e1
    rw [List.getElem?_append_left (by rw [← h.len]; exact hj)] at e2
    exact h.at_ j q es e1 e2
  · rw [List.getElem?_append_right hj] at e1
    rw [List.getElem?_append_right (by rw [← h.len]; exact hj)] at e2
    have : j - bl.length = 0 := by
      have := (List.getElem?_eq_some_iff.mp e1).1
      simp at this; omega
    rw [this] at e1
    rw [← h.len, this] at e2
    simp at e1 e2
    subst e1; subst e2
    exact r
theorem lookup_some {bl : BL} {x : Addr} {vs : List V} : bl.lookup x = some vs → (x, vs) ∈ bl := by
  induction bl with
  | nil => intro h; cases h
  | cons q bl ih =>
    obtain ⟨y, ws⟩ := q
    intro h
    rw [List.lookup_cons] at h
    cases hx : x == y with
    | true => rw [hx] at h; cases h; rw [beq_iff_eq.mp hx]; exact List.mem_cons_self
    | false => rw [hx] at h; exact List.mem_cons_of_mem _ (ih h)
theorem lookup_mem {bl : BL} {x : Addr} {vs : List V} (nd : (bl.map (·.1)).Nodup) : (x, vs) ∈ bl → bl.lookup x = some vs := by
  induction bl with
  | nil => intro h; cases h
  | cons q bl ih =>
    obtain ⟨y, ws⟩ := q
    intro h
    rw [List.map_cons, List.nodup_cons] at nd
    rw [List.lookup_cons]
    rcases List.mem_cons.mp h with e | h
    · cases e; simp
    · have hx : (x == y) = false := by
        rw [beq_eq_false_iff_ne]
        intro z
        exact nd.1 (z ▸ List.mem_map.mpr ⟨_, h, rfl⟩)
      rw [hx]; exact ih nd.2 h
theorem lookup_none {bl : BL} {x : Addr} (h : x ∉ bl.map (·.1)) : bl.lookup x = none := by
  cases e : bl.lookup x with
  | none => rfl
  | some vs => exact absurd (List.mem_map.mpr ⟨_, lookup_some e, rfl⟩) h
section
variable {X : Cx} {g : G} {W : WX} {P : Par} {σ : L2.St} {H F : Hp} {st : DSt} {e : Expr} {s : Stmt}
/-- p and the lists in it belong to nobody -/
structure SR2 (g : G) (P : Par) (σ : L2.St) (H F : Hp) (st : DSt) (p : Addr) (bl : BL) : Prop where
  ex : ∃ O, SRc g P O σ H F st ∧ (O p = none ∧ F p = none ∧ P.R p = none ∧ ¬ P.N p) ∧ ∀ b ∈ bl.map (·.1), O b = none ∧ F b = none ∧ P.R b = none ∧ ¬ P.N b
  at_ : H p = some (.lst (refs bl))
  nd : (bl.map (·.1)).Nodup
  np : p ∉ bl.map (·.1)
  it : ∀ q ∈ bl, H q.1 = some (.lst q.2)
def OutN2 (g : G) (W : WX) (P : Par) (σ : L2.St) (F : Hp) (r : Res (List (List D))) (Q : VK) : Prop := match r with
  | .ok dss st' => ∀ H' F' p bl, Same F F' → SR2 g P σ H' F' st' p bl → RL2 g F' bl dss → Q (.ref p) H'
  | .exn c fs st' => ∀ cls dd H' F', Same F F' → SR g P σ H' F' st' → RepX g F' H' c fs cls dd → W cls dd σ H'
  | .stuck => False
def tN2 (g : G) (W : WX) (f : Den (List (List D))) : TE := fun σ H Q => ∃ P F st, SR g P σ H F st ∧ OutN2 g W P σ F (f st) Q
theorem OutN2.weak {r : Res (List (List D))} {Q : VK} {F' : Hp} (e : Same F F') (h : OutN2 g W P σ F r Q) : OutN2 g W P σ F' r Q := by
  cases r with
  | ok a st' => exact fun H' F2 p bl e2 s => h H' F2 p bl (e.trans e2) s
  | exn c fs st' => exact fun cls dd H' F2 e2 s => h cls dd H' F2 (e.trans e2) s
  | stuck => exact h
theorem OutN2.bind {α : Type} {a : Den α} {ff : α → Den (List (List D))} {Q : VK} (h : OutN2 g W P σ F (bindD a ff st) Q) : Out g W P σ F (a st) (fun x st1 _ F1 => OutN2 g W P σ F1 (ff x st1) Q) := by
  unfold bindD at h
  revert h
  cases a st with
  | ok x st' => exact fun h H' F' e s => OutN2.weak e h
  | exn c fs st' => exact fun h => h
  | stuck => exact fun h => h
/-- the guard holds what it guards -/
theorem gd2_at {D : Addr} {bl : BL} (s : SR g (gd2 P D bl) σ H F st) (nd : (bl.map (·.1)).Nodup) (np : D ∉ bl.map (·.1)) : H D = some (.lst (refs bl)) ∧ ∀ q ∈ bl, H q.1 = some (.lst q.2) := by
  obtain ⟨O, c⟩ := s
  refine ⟨c.rr D _ (by show (if D = D then _ else _) = _; rw [if_pos rfl]), fun q hq => c.rr q.1 _ ?_⟩
  have hne : q.1 ≠ D := fun z => np (z ▸ List.mem_map.mpr ⟨_, hq, rfl⟩)
  show (if q.1 = D then _ else _) = _
  rw [if_neg hne, lookup_mem (x := q.1) (vs := q.2) nd hq]
theorem gd2_own {D : Addr} {bl : BL} {O : Addr → Option Nat} (c : SRc g (gd2 P D bl) O σ H F st) {b : Addr} {i : Nat} (h : O b = some i) : b ≠ D ∧ b ∉ bl.map (·.1) ∧ P.R b = none := by
  have q := (c.oo b i h).2.1
  have q : (if b = D then some (HO.lst (refs bl)) else match bl.lookup b with
    | some vs => some (.lst vs)
    | none => P.R b) = none := q
  by_cases hb : b = D
  · rw [if_pos hb] at q; cases q
  · rw [if_neg hb] at q
    refine ⟨hb, fun hm => ?_, ?_⟩
    · cases e : bl.lookup b with
      | some vs => rw [e] at q; cases q
      | none =>
        obtain ⟨⟨b', vs⟩, hq, rfl⟩ := List.mem_map.mp hm
        have : ∀ bl : BL, (b', vs) ∈ bl → bl.lookup b' ≠ none := by
          intro bl
          induction bl with
          | nil => intro h; cases h
          | cons q bl ih =>
            obtain ⟨y, ws⟩ := q
            intro h
            rw [List.lookup_cons]
            cases hx : b' == y with
            | true => simp
            | false =>
              rcases List.mem_cons.mp h with e | h
              · cases e; simp at hx
              · exact ih h
        exact this bl hq e
    · cases e : bl.lookup b with
      | some vs => rw [e] at q; cases q
      | none => rw [e] at q; exact q
theorem gd2_start {D : Addr} (s : SR g P σ H F st) (h : H D = none) : SR g (gd2 P D []) σ (upd H D (.lst [])) F st := by
  obtain ⟨O, c, o0, f0, r0, n0⟩ := s.newx (o := .lst []) h
  refine ⟨O, c.le, fun b u e => ?_, fun b i e => ⟨(c.oo b i e).1, ?_, (c.oo b i e).2.2⟩, fun b n => ?_, c.len, fun i s ov e1 e2 => ?_⟩
  · have e : (if b = D then some (HO.lst (refs [])) else P.R b) = some u := e
    by_cases hb : b = D
    · subst hb; rw [if_pos rfl] at e; rw [← e]; exact upd_same
    · rw [if_neg hb] at e; exact c.rr b u e
  · have hb : b ≠ D := fun z => by rw [z, o0] at e; cases e
    show (if b = D then some (HO.lst (refs [])) else P.R b) = none
    rw [if_neg hb]; exact (c.oo b i e).2.1
  · rcases n with n | rfl | n
    · exact c.no b n
    · exact ⟨f0, by rw [upd_same]; simp⟩
    · cases n
  · exact (c.sl i s ov e1 e2).move rfl (fun _ h => h) (Same.refl _) (fun _ _ _ h => h) fun b o n z => by
      rcases z with z | z | z
      · exact n z
      · rw [z, o0] at o; cases o
      · cases z
theorem gd2_step {D p : Addr} {bl : BL} {vs : List V} (s : SRx g (gd2 P D bl) σ H F st p) (hp : H p = some (.lst vs)) (nd : (bl.map (·.1)).Nodup) (np : D ∉ bl.map (·.1)) :
    SR g (gd2 P D (bl ++ [(p, vs)])) σ (upd H D (.lst (refs bl ++ [.ref p]))) F st ∧ ((bl ++ [(p, vs)]).map (·.1)).Nodup ∧ D ∉ (bl ++ [(p, vs)]).map (·.1) := by
  obtain ⟨O, c, o0, f0, r0, n0⟩ := s
  have hpD : p ≠ D := fun z => n0 (.inr (.inl z))
  have hpb : p ∉ bl.map (·.1) := fun z => n0 (.inr (.inr z))
  have fD := (c.no D (.inr (.inl rfl))).1
  have e1 : refs (bl ++ [(p, vs)]) = refs bl ++ [.ref p] := by simp [refs]
  refine ⟨⟨O, fun b u e => ?_, fun b u e => ?_, fun b i e => ?_, fun b n => ?_, c.len, fun i s ov e1 e2 => ?_⟩, ?_, ?_⟩
  · rw [upd_ne (fun z => by rw [z, fD] at e; cases e)]; exact c.le b u e
  · have e : (if b = D then some (HO.lst (refs (bl ++ [(p, vs)]))) else match (bl ++ [(p, vs)]).lookup b with
      | some vs => some (.lst vs)
      | none => P.R b) = some u := e
    by_cases hb : b = D
    · subst hb; rw [if_pos rfl, e1] at e; rw [← e]; exact upd_same
    · rw [if_neg hb] at e
      rw [upd_ne hb]
      by_cases hbp : b = p
      · subst hbp
        have : (bl ++ [(b, vs)]).lookup b = some vs := by
          rw [List.lookup_append, lookup_none hpb]
          simp
        rw [this] at e
        rw [hp]; exact e
      · have : (bl ++ [(p, vs)]).lookup b = bl.lookup b := by
          rw [List.lookup_append]
          have : List.lookup b [(p, vs)] = none := by
            rw [List.lookup_cons]
            have : (b == p) = false := by rw [beq_eq_false_iff_ne]; exact hbp
            rw [this]; rfl
          rw [this]
          cases bl.lookup b <;> rfl
        rw [this] at e
        exact c.rr b u (by show (if b = D then _ else _) = _; rw [if_neg hb]; exact e)
  · obtain ⟨h1, h2, h3⟩ := gd2_own c e
    have hbp : b ≠ p := fun z => by rw [z, o0] at e; cases e
    refine ⟨(c.oo b i e).1, ?_, by rw [upd_ne h1]; exact (c.oo b i e).2.2⟩
    show (if b = D then _ else _) = _
    rw [if_neg h1, lookup_none (by simp [h2, hbp])]
    exact h3
  · refine ⟨?_, ?_⟩
    · rcases n with n | n | n
      · exact (c.no b (.inl n)).1
      · exact (c.no b (.inr (.inl n))).1
      · rw [List.map_append, List.mem_append] at n
        rcases n with n | n
        · exact (c.no b (.inr (.inr n))).1
        · have : b = p := by simpa using n
          rw [this]; exact f0
    · by_cases hb : b = D
      · subst hb; rw [upd_same]; simp
      · rw [upd_ne hb]
        rcases n with n | n | n
        · exact (c.no b (.inl n)).2
        · exact absurd n hb
        · rw [List.map_append, List.mem_append] at n
          rcases n with n | n
          · exact (c.no b (.inr (.inr n))).2
          · have : b = p := by simpa using n
            rw [this, hp]; simp
  · exact (c.sl i s ov e1 e2).move rfl (fun _ h => h) (Same.refl _) (fun b o ho h => by rw [upd_ne (gd2_own c ho).1]; exact h) fun b o n z => by
      rcases z with z | z | z
      · exact n (.inl z)
      · exact n (.inr (.inl z))
      · rw [List.map_append, List.mem_append] at z
        rcases z with z | z
        · exact n (.inr (.inr z))
        · have : b = p := by simpa using z
          rw [this, o0] at o; cases o
  · rw [List.map_append, List.nodup_append]
    refine ⟨nd, by simp, fun a ha b hb => ?_⟩
    have : b = p := by simpa using hb
    rw [this]; intro z; exact hpb (z ▸ ha)
  · rw [List.map_append, List.mem_append]
    intro z
    rcases z with z | z
    · exact np z
    · have : D = p := by simpa using z
      exact hpD this.symm
theorem gd2_end {D : Addr} {bl : BL} {H0 F0 : Hp} {st0 : DSt} {vs : List Nat} (s : SR g (gd2 P D bl) (L2.wipe σ vs) H F st) (s0 : SR g P σ H0 F0 st0) (h0 : H0 D = none) (hb0 : ∀ b ∈ bl.map (·.1), P.R b = none ∧ ¬ P.N b) (le : Same F0 F) (hl : st.length = st0.length) (hp : vs.all (plainAt st0) = true)
    (nd : (bl.map (·.1)).Nodup) (np : D ∉ bl.map (·.1)) : SR2 g P σ H F (backD st0 st vs) D bl := by
  obtain ⟨a1, a2⟩ := gd2_at s nd np
  obtain ⟨O, c⟩ := s
  have fresh : ∀ b, H0 b = none → P.R b = none ∧ ¬ P.N b := fun b h => by
    obtain ⟨_, _, _, _, r0, n0⟩ := s0.newx (o := .lst []) h
    exact ⟨r0, n0⟩
  have on : ∀ b, (b = D ∨ b ∈ bl.map (·.1)) → O b = none := fun b hb => by
    cases e : O b with
    | none => rfl
    | some i =>
      obtain ⟨h1, h2, _⟩ := gd2_own c e
      rcases hb with hb | hb
      · exact absurd hb h1
      · exact absurd hb h2
  refine ⟨⟨O, ⟨c.le, fun b u e => ?_, fun b i e => ⟨(c.oo b i e).1, (gd2_own c e).2.2, (c.oo b i e).2.2⟩, fun b n => c.no b (.inl n), ?_, fun i sl ov e1 e2 => ?_⟩, ⟨on D (.inl rfl), (c.no D (.inr (.inl rfl))).1, (fresh D h0).1, (fresh D h0).2⟩,
    fun b hb => ⟨on b (.inr hb), (c.no b (.inr (.inr hb))).1, (hb0 b hb).1, (hb0 b hb).2⟩⟩, a1, nd, np, a2⟩
  · have hb : b ≠ D := fun z => by rw [z, (fresh D h0).1] at e; cases e
    have hbl : b ∉ bl.map (·.1) := fun z => by rw [(hb0 b z).1] at e; cases e
    refine c.rr b u ?_
    show (if b = D then _ else _) = _
    rw [if_neg hb, lookup_none hbl]
    exact e
  · rw [backD_length]
    have := c.len
    rw [wipe_length] at this
    exact this
  · by_cases hi : i ∈ vs
    · have es := backD_in hi sl e1
      have hpl := List.all_eq_true.mp hp i hi
      unfold plainAt at hpl
      cases e0 : st0[i]? with
      | none => rw [e0] at es; subst es; trivial
      | some s0' =>
        rw [e0] at es hpl
        simp only [Option.getD_some] at es
        subst es
        cases sl with
        | no => trivial
        | sh d =>
          obtain ⟨O0, c0⟩ := s0
          obtain ⟨v, ev, r⟩ := c0.sl i _ ov e0 e2
          exact ⟨v, ev, r.mono le⟩
        | _ => cases hpl
    · rw [backD_out hi] at e1
      exact (c.sl i sl ov e1 (by rw [wipe_out hi]; exact e2)).move rfl (fun _ h => h) (Same.refl _) (fun _ _ _ h => h) fun _ _ n z => n (.inl z)
theorem setT_length {t : Tg} {d : D} {st st' : DSt} (h : setT t d st = some st') : st'.length = st.length := by
  have key : ∀ is ds (st st' : DSt), setAll is ds st = some st' → st'.length = st.length := by
    intro is
    induction is with
    | nil => intro ds st st' e; cases ds with | nil => cases e; rfl | cons d ds => cases e
    | cons i is ih =>
      intro ds st st' e
      cases ds with
      | nil => cases e
      | cons d ds =>
        unfold setAll at e
        split at e
        · rename_i sti hsi
          obtain ⟨_, rfl⟩ := slotSet_some hsi
          rw [ih _ _ _ e, List.length_set]
        · cases e
  unfold setT at h
  cases t with
  | nm i => obtain ⟨_, rfl⟩ := slotSet_some h; rw [List.length_set]
  | nms is =>
    cases d with
    | tup ds => exact key _ _ _ _ h
    | _ => cases h
theorem comp2_imp {vs : List Nat} {t : Tg} {fi : Den (List D)} {elt : Den (List D)} {Q : VK} (hv : ∀ i ∈ t.is, i ∈ vs) (q : tN2 g W (dComp2 vs t fi elt) σ H Q) :
    tLc (tI g W fi) (tG g t) (tT g WN dYes) (tN g WN elt) vs σ H Q := by
  obtain ⟨P, F, st, s, o⟩ := q
  refine ⟨P, F, st, s, OutN2.bind o |>.imp fun ds st1 H1 F1 le1 s1 o1 J wk D hD => ?_⟩
  split at o1
  · rename_i hc
    obtain ⟨hbig, hpl⟩ := hc
    refine ⟨fun i m H => m = ds.length - i ∧ i ≤ ds.length ∧ ∃ F' st' bl acc, Same F1 F' ∧ SR g (gd2 P D bl) (L2.wipe σ vs) H F' st' ∧ RL2 g F' bl acc ∧ acc.length ≤ i ∧ st'.length = st1.length ∧ (bl.map (·.1)).Nodup ∧ D ∉ bl.map (·.1) ∧ (∀ b ∈ bl.map (·.1), P.R b = none ∧ ¬ P.N b) ∧
      ∃ ys stE, compGo2 vs t elt (ds.drop i) st' = .ok ys stE ∧ compGo2 vs t elt ds (wipeD st1 vs) = .ok (acc ++ ys) stE, ?_, ?_⟩
    · split at o1
      · rename_i ys stE hgo
        exact ⟨ds.length, by simp, Nat.zero_le _, F1, wipeD st1 vs, [], [], Same.refl _, gd2_start (s1.wipe vs) hD, ⟨rfl, fun j q es e1 _ => by simp at e1⟩, Nat.zero_le _, wipeD_length _ _, .nil, by simp, by simp, ys, stE, by simpa using hgo, by simpa using hgo⟩
      · exact o1.elim
    · rintro i m H2 ⟨rfl, hi, F', st', bl, acc, le, s', racc, hacc, hlen, nd, np, hR, ys, stE, hgo, hall⟩
      by_cases hlt : i < ds.length
      · obtain ⟨d0, hd0⟩ : ∃ d, ds[i]? = some d := ⟨ds[i], List.getElem?_eq_getElem hlt⟩
        have hdr : ds.drop i = d0 :: ds.drop (i + 1) := by
          rw [List.drop_eq_getElem_cons hlt]
          have := List.getElem?_eq_getElem hlt
          rw [hd0] at this; rw [← Option.some.inj this]
        rw [hdr] at hgo
        refine .inr ⟨wk.go i H2 (le.trans s'.le) hlt, fun H => ∃ F' st' bl acc, Same F1 F' ∧ SR g (gd2 P D bl) (L2.wipe σ vs) H F' st' ∧ RL2 g F' bl acc ∧ acc.length ≤ i + 1 ∧ st'.length = st1.length ∧ (bl.map (·.1)).Nodup ∧ D ∉ bl.map (·.1) ∧ (∀ b ∈ bl.map (·.1), P.R b = none ∧ ¬ P.N b) ∧
          ∃ ys stE, compGo2 vs t elt (ds.drop (i + 1)) st' = .ok ys stE ∧ compGo2 vs t elt ds (wipeD st1 vs) = .ok (acc ++ ys) stE, fun H' nx => ⟨ds.length - (i + 1), by omega, rfl, hlt, nx⟩, fun x H' y => ?_⟩
        obtain ⟨rfl, d, hd, rd⟩ := wk.yld i H2 x H' (le.trans s'.le) hlt y
        rw [hd0] at hd; cases hd
        unfold compGo2 at hgo
        cases hset : setT t d0 st' with
        | none => rw [hset] at hgo; cases hgo
        | some st2 =>
          rw [hset] at hgo
          refine ⟨gd2 P D bl, F', st', d0, s', rd.mono le, st2, hset, fun xs s2 => ⟨?_, ?_⟩⟩
          · rw [wipe_setσ hv, wipe_wipe]
          · refine ⟨gd2 P D bl, F', st2, s2, fun H3 F3 le3 s3 => ?_⟩
            show (if true = true then _ else _)
            rw [if_pos rfl]
            refine ⟨gd2 P D bl, F3, st2, s3, ?_⟩
            simp only at hgo
            revert hgo
            cases elt st2 with
            | ok y st4 =>
              intro hgo H4 F4 p vs4 le4 s4 hp4 rv
              simp only at hgo
              have hD4 := (gd2_at s4.sr nd np).1
              have hb : big = sizeLine := big_eq
              have hlb : (refs bl).length = acc.length := by simp [refs, racc.len]
              have hfresh : P.R p = none ∧ ¬ P.N p := by
                obtain ⟨O, c, o0, f0, r0, n0⟩ := s4
                have hpD : p ≠ D := fun z => n0 (.inr (.inl z))
                have hpb : p ∉ bl.map (·.1) := fun z => n0 (.inr (.inr z))
                have r1 : (if p = D then some (HO.lst (refs bl)) else match bl.lookup p with
                  | some vs => some (.lst vs)
                  | none => P.R p) = none := r0
                rw [if_neg hpD, lookup_none hpb] at r1
                exact ⟨r1, fun z => n0 (.inl z)⟩
              have s5 : SRx g (gd2 P D bl) (L2.wipe σ vs) H4 F4 (wipeD st4 vs) p := by
                obtain ⟨O, c, rest⟩ := s4
                obtain ⟨O2, c2⟩ : ∃ O2, SRc g (gd2 P D bl) O2 (L2.wipe (setσ t.is xs (L2.wipe σ vs)) vs) H4 F4 (wipeD st4 vs) ∧ O2 = O := by
                  refine ⟨O, ⟨c.le, c.rr, c.oo, c.no, by rw [wipe_length, wipeD_length]; exact c.len, fun i s ov e1 e2 => ?_⟩, rfl⟩
                  by_cases hi : i ∈ vs
                  · rw [wipeD_in hi s e1]; trivial
                  · rw [wipeD_out hi] at e1
                    rw [wipe_out hi] at e2
                    exact c.sl i s ov e1 e2
                obtain ⟨c2, rfl⟩ := c2
                rw [wipe_setσ hv, wipe_wipe] at c2
                exact ⟨_, c2, rest⟩
              obtain ⟨g1, g2, g3⟩ := gd2_step s5 hp4 nd np
              refine ⟨refs bl, hD4, by rw [hlb, ← hb]; omega, F4, wipeD st4 vs, bl ++ [(p, vs4)], acc ++ [y], (le.trans le3).trans le4, g1, (racc.mono (le3.trans le4)).snoc rv, by simp; omega, ?_, g2, g3, fun b hb => ?_, ?_⟩
              · rw [wipeD_length]
                have a1 := s4.sr.len
                have a2 := s2.len
                have a4 := setT_length hset
                omega
              · rw [List.map_append, List.mem_append] at hb
                rcases hb with hb | hb
                · exact hR b hb
                · have : b = p := by simpa using hb
                  rw [this]; exact hfresh
              · revert hgo
                cases hr : compGo2 vs t elt (ds.drop (i + 1)) (wipeD st4 vs) with
                | ok ys' st5 =>
                  intro hgo
                  simp only at hgo
                  cases hgo
                  exact ⟨ys', _, rfl, by rw [List.append_assoc]; exact hall⟩
                | exn c fs st5 => intro hgo; cases hgo
                | stuck => intro hgo; cases hgo
            | exn c fs st4 => intro hgo; cases hgo
            | stuck => intro hgo; cases hgo
      · have e : i = ds.length := by omega
        subst e
        rw [List.drop_length] at hgo
        cases hgo
        refine .inl ⟨wk.stop H2 (le.trans s'.le), ?_⟩
        rw [hall] at o1
        rw [List.append_nil] at o1
        exact o1 H2 F' D bl le (gd2_end s' s1 hD hR le hlen hpl nd np) racc
  · exact o1.elim
/-! stored under a name -/
def putD2 (i : Nat) (dss : List (List D)) : DS := fun st => match slotSet i (.o2 dss) st with
  | some st' => .ok .nx st'
  | none => .stuck
@[simp] def sOwn2 (i : Nat) (f : Den (List (List D))) : DS := bindD f fun dss => putD2 i dss
theorem SR2.own {p : Addr} {i : Nat} {bl : BL} {dss : List (List D)} (s : SR2 g P σ H F st p bl) (r : RL2 g F bl dss) (hi : i < st.length) : SR g P (σ.set i (some (.ref p))) H F (st.set i (.o2 dss)) := by
  obtain ⟨⟨O, c, ⟨o0, f0, r0, n0⟩, hb⟩, hp, nd, np, it⟩ := s
  refine ⟨fun b => if b = p ∨ b ∈ bl.map (·.1) then some i else if O b = some i then none else O b, c.le, c.rr, fun b j e => ?_, c.no, by rw [List.length_set, List.length_set]; exact c.len, fun j s ov e1 e2 => ?_⟩
  · by_cases hq : b = p ∨ b ∈ bl.map (·.1)
    · rcases hq with rfl | hq
      · exact ⟨f0, r0, by rw [hp]; simp⟩
      · obtain ⟨q, hq1, rfl⟩ := List.mem_map.mp hq
        exact ⟨(hb _ hq).2.1, (hb _ hq).2.2.1, by rw [it q hq1]; simp⟩
    · simp only [if_neg hq] at e
      by_cases ho : O b = some i
      · simp [ho] at e
      · simp only [if_neg ho] at e; exact c.oo b j e
  · by_cases hj : j = i
    · subst hj
      rw [List.getElem?_set_self hi] at e1
      rw [List.getElem?_set_self (by rw [c.len]; exact hi)] at e2
      cases e1; cases e2
      refine ⟨p, bl.map (·.1), rfl, by simp, n0, by rw [hp]; simp [refs], nd, np, by simp [r.len], fun k b ds e1 e2 => ?_⟩
      rw [List.getElem?_map] at e1
      cases hk : bl[k]? with
      | none => rw [hk] at e1; cases e1
      | some q =>
        rw [hk] at e1
        have e1 : q.1 = b := Option.some.inj e1
        have hm : q ∈ bl := List.mem_of_getElem? hk
        have hm2 : b ∈ bl.map (·.1) := e1 ▸ List.mem_map.mpr ⟨q, hm, rfl⟩
        refine ⟨by simp only [if_pos (Or.inr hm2)], (hb b hm2).2.2.2, q.2, by rw [← e1]; exact it q hm, r.at_ k q ds hk e2⟩
    · rw [List.getElem?_set_ne (Ne.symm hj)] at e1 e2
      exact (c.sl j s ov e1 e2).move rfl (fun b o => by
        have h1 : ¬ (b = p ∨ b ∈ bl.map (·.1)) := fun z => by
          rcases z with rfl | z
          · rw [o0] at o; cases o
          · rw [(hb b z).1] at o; cases o
        simp only [if_neg h1]
        rw [if_neg (by rw [o]; intro z; exact hj (Option.some.inj z))]; exact o) (Same.refl _) (fun _ _ _ h => h) fun _ _ h => h
theorem es_own2 {i : Nat} {vs : List Nat} {t : Tg} {fi : Den (List D)} {elt : Den (List D)} (he : PS X s (tAsg (tLc (tI g W fi) (tG g t) (tT g WN dYes) (tN g WN elt) vs) (gName i))) (hv : ∀ i ∈ t.is, i ∈ vs := by decide) : PS X s (tS g W (sOwn2 i (dComp2 vs t fi elt))) :=
  (he.imp fun E σ H q => comp2_imp (Q := fun x H1 => gName i x σ H1 E.nx) hv q).imp fun E σ H ⟨P, F, st, s, o⟩ => by
    refine ⟨P, F, st, s, ?_⟩
    unfold sOwn2 at o
    have o : OutS g W P F (bindD (dComp2 vs t fi elt) (fun dss => putD2 i dss) st) E := o
    unfold bindD at o
    revert o
    cases dComp2 vs t fi elt st with
    | ok dss st' =>
      intro o H' F' p bl le s2 r
      have o : OutS g W P F (putD2 i dss st') E := o
      unfold putD2 at o
      split at o
      · rename_i st2 h
        obtain ⟨hi, rfl⟩ := slotSet_some h
        exact o _ H' F' le (s2.own r hi)
      · exact o.elim
    | exn c fs st' => exact fun o cls dd H' F' e s => o cls dd σ H' F' e s
    | stuck => exact fun o => o
end
end DL

namespace DL
open PySem PySem.Spec PyProof.Rows L2
theorem nodup_inj {α : Type} {l : List α} (nd : l.Nodup) {i j : Nat} (hi : i < l.length) (hj : j < l.length) (h : l[i] = l[j]) : i = j := by
  have p := List.pairwise_iff_getElem.mp nd
  rcases Nat.lt_trichotomy i j with q | q | q
  · exact absurd h (p i j hi hj q)
  · exact q
  · exact absurd h.symm (p j i hj hi q)
/-- no exception leaves -/
@[simp] def noX {α : Type} (a : Den α) : Den α := fun st => match a st with
  | .exn _ _ _ => .stuck
  | r => r
/-- the lists of a slot out of sight, guarded -/
def P2 (P : Par) (H : Hp) (a : Addr) (bs : List Addr) : Par := ⟨P.B, fun x => if x = a ∨ x ∈ bs then H x else P.R x, fun x => P.N x ∨ x = a ∨ x ∈ bs⟩
section
variable {X : Cx} {g : G} {W : WX} {P : Par} {σ : L2.St} {H F : Hp} {st : DSt} {e : Expr} {s : Stmt} {f h k : Den D}
theorem SR.hide {i : Nat} {dss : List (List D)} (s : SR g P σ H F st) (h : st[i]? = some (.o2 dss)) : ∃ a bs, σ[i]? = some (some (.ref a)) ∧ H a = some (.lst (bs.map V.ref)) ∧ bs.length = dss.length ∧
    (∀ (j : Nat) (b : Addr) (ds : List D), bs[j]? = some b → dss[j]? = some ds → ∃ vs, H b = some (.lst vs) ∧ Rl g F vs ds) ∧ SR g (P2 P H a bs) σ H F (st.set i .no) ∧
    ∀ (H' F' : Hp) (st' : DSt), Same F F' → SR g (P2 P H a bs) σ H' F' st' → st'[i]? = some .no → (∀ x, (x = a ∨ x ∈ bs) → H' x = H x) ∧ SR g P σ H' F' (st'.set i (.o2 dss)) ∧
      ∀ (j : Nat) (b : Addr) (ds' : List D) (vs' : List V), bs[j]? = some b → Rl g F' vs' ds' → SR g P σ (upd H' b (.lst vs')) F' (st'.set i (.o2 (dss.set j ds'))) := by
  obtain ⟨ov, hov⟩ := SRc.nth s h
  obtain ⟨O, c⟩ := s
  obtain ⟨a, bs, rfl, ho, hn, ha, nd, na, hl, hr⟩ := c.sl i _ _ h hov
  have own : ∀ x, (x = a ∨ x ∈ bs) → O x = some i ∧ ¬ P.N x := fun x hx => by
    rcases hx with rfl | hx
    · exact ⟨ho, hn⟩
    · obtain ⟨j, hj, e⟩ := List.getElem_of_mem hx
      have e1 : bs[j]? = some x := by rw [List.getElem?_eq_getElem hj, e]
      obtain ⟨o, n, _⟩ := hr j x _ e1 (List.getElem?_eq_getElem (by rw [← hl]; exact hj))
      exact ⟨o, n⟩
  refine ⟨a, bs, hov, ha, hl, fun j b ds e1 e2 => (hr j b ds e1 e2).2.2, ?_, ?_⟩
  · refine ⟨fun x => if x = a ∨ x ∈ bs then none else O x, c.le, fun x o e => ?_, fun x j e => ?_, fun x n => ?_, by rw [List.length_set]; exact c.len, fun j s ov e1 e2 => ?_⟩
    · have e : (if x = a ∨ x ∈ bs then H x else P.R x) = some o := e
      by_cases hx : x = a ∨ x ∈ bs
      · rw [if_pos hx] at e; exact e
      · rw [if_neg hx] at e; exact c.rr x o e
    · by_cases hx : x = a ∨ x ∈ bs
      · simp [hx] at e
      · simp only [if_neg hx] at e
        refine ⟨(c.oo x j e).1, ?_, (c.oo x j e).2.2⟩
        show (if x = a ∨ x ∈ bs then H x else P.R x) = none
        rw [if_neg hx]; exact (c.oo x j e).2.1
    · rcases n with n | n
      · exact c.no x n
      · exact ⟨(c.oo x i (own x n).1).1, (c.oo x i (own x n).1).2.2⟩
    · by_cases hj : j = i
      · subst hj
        rw [List.getElem?_set_self (lt_of_get h)] at e1
        cases e1; trivial
      · rw [List.getElem?_set_ne (Ne.symm hj)] at e1
        have hx : ∀ x, O x = some j → ¬ (x = a ∨ x ∈ bs) := fun x o hx => hj (by rw [(own x hx).1] at o; exact (Option.some.inj o).symm)
        exact (c.sl j s ov e1 e2).move rfl (fun x o => by simp only [if_neg (hx x o)]; exact o) (Same.refl _) (fun _ _ _ h => h) fun x o n z => by
          rcases z with z | z
          · exact n z
          · exact hx x o z
  · rintro H' F' st' le ⟨O', c'⟩ hno
    have hR : ∀ x, (x = a ∨ x ∈ bs) → (P2 P H a bs).R x = H x := fun x hx => if_pos hx
    have hH : ∀ x, (x = a ∨ x ∈ bs) → H' x = H x := fun x hx => by
      obtain ⟨o, ho⟩ := ne_some (c.oo x i (own x hx).1).2.2
      rw [ho]
      exact c'.rr x o (by rw [hR x hx]; exact ho)
    have o0 : ∀ x, (x = a ∨ x ∈ bs) → O' x = none := fun x hx => by
      cases e : O' x with
      | none => rfl
      | some j =>
        have := (c'.oo x j e).2.1
        rw [hR x hx] at this
        exact absurd this (c.oo x i (own x hx).1).2.2
    have f0 : ∀ x, (x = a ∨ x ∈ bs) → F' x = none := fun x hx => (c'.no x (.inr hx)).1
    have r0 : ∀ x, (x = a ∨ x ∈ bs) → P.R x = none := fun x hx => (c.oo x i (own x hx).1).2.1
    have rr' : ∀ x o, P.R x = some o → (¬ (x = a ∨ x ∈ bs)) ∧ H' x = some o := fun x o e => by
      have hx : ¬ (x = a ∨ x ∈ bs) := fun hx => by rw [r0 x hx] at e; cases e
      exact ⟨hx, c'.rr x o (by show (if x = a ∨ x ∈ bs then H x else P.R x) = some o; rw [if_neg hx]; exact e)⟩
    -- the new owner map
    have key : ∀ (H2 : Hp) (dss2 : List (List D)), (∀ x, ¬ (x ∈ bs) → H2 x = H' x) → (∀ x, H' x ≠ none → H2 x ≠ none) → bs.length = dss2.length → (∀ (j : Nat) (b : Addr) (ds : List D), bs[j]? = some b → dss2[j]? = some ds → ∃ vs, H2 b = some (.lst vs) ∧ Rl g F' vs ds) →
        SR g P σ H2 F' (st'.set i (.o2 dss2)) := by
      intro H2 dss2 hout hne hl2 hrow
      have hxF : ∀ x o, F' x = some o → ¬ (x = a ∨ x ∈ bs) := fun x o e hx => by rw [f0 x hx] at e; cases e
      refine ⟨fun x => if x = a ∨ x ∈ bs then some i else if O' x = some i then none else O' x, fun x o e => ?_, fun x o e => ?_, fun x j e => ?_, fun x n => ?_, by rw [List.length_set]; exact c'.len, fun j s ov e1 e2 => ?_⟩
      · rw [hout x fun z => hxF x o e (.inr z)]; exact c'.le x o e
      · rw [hout x fun z => (rr' x o e).1 (.inr z)]; exact (rr' x o e).2
      · by_cases hx : x = a ∨ x ∈ bs
        · exact ⟨f0 x hx, r0 x hx, hne x (by rw [hH x hx]; exact (c.oo x i (own x hx).1).2.2)⟩
        · simp only [if_neg hx] at e
          by_cases ho : O' x = some i
          · simp [ho] at e
          · simp only [if_neg ho] at e
            refine ⟨(c'.oo x j e).1, ?_, hne x (c'.oo x j e).2.2⟩
            have := (c'.oo x j e).2.1
            have : (if x = a ∨ x ∈ bs then H x else P.R x) = none := this
            rw [if_neg hx] at this; exact this
      · have := c'.no x (.inl n)
        exact ⟨this.1, hne x this.2⟩
      · by_cases hj : j = i
        · subst hj
          rw [List.getElem?_set_self (lt_of_get hno)] at e1
          cases e1
          rw [hov] at e2; cases e2
          refine ⟨a, bs, rfl, by simp, hn, by rw [hout a na, hH a (.inl rfl)]; exact ha, nd, na, hl2, fun j b ds e1 e2 => ?_⟩
          have hb := List.mem_of_getElem? e1
          exact ⟨by simp only [if_pos (Or.inr hb)], (own b (.inr hb)).2, hrow j b ds e1 e2⟩
        · rw [List.getElem?_set_ne (Ne.symm hj)] at e1
          have hx : ∀ x, O' x = some j → ¬ (x = a ∨ x ∈ bs) := fun x o hx => by rw [o0 x hx] at o; cases o
          exact (c'.sl j s ov e1 e2).move rfl (fun x o => by
            simp only [if_neg (hx x o)]
            rw [if_neg (by rw [o]; intro z; exact hj (Option.some.inj z))]; exact o) (Same.refl _) (fun x u o h => by rw [hout x fun z => hx x o (.inr z)]; exact h) fun _ _ n z => n (.inl z)
    refine ⟨hH, key H' dss (fun _ _ => rfl) (fun _ h => h) hl fun j b ds e1 e2 => ?_, fun j b ds' vs' hb rr => ?_⟩
    · obtain ⟨_, _, vs, h1, r1⟩ := hr j b ds e1 e2
      exact ⟨vs, by rw [hH b (.inr (List.mem_of_getElem? e1))]; exact h1, r1.mono le⟩
    · have hbm := List.mem_of_getElem? hb
      refine key _ _ (fun x hx => upd_ne fun z => hx (z ▸ hbm)) (fun x hx => ?_) (by rw [List.length_set]; exact hl) fun j2 b2 ds2 e1 e2 => ?_
      · by_cases hz : x = b
        · subst hz; rw [upd_same]; simp
        · rw [upd_ne hz]; exact hx
      · by_cases hjj : j2 = j
        · subst hjj
          rw [hb] at e1
          cases e1
          rw [List.getElem?_set_self (by rw [← hl]; exact lt_of_get hb)] at e2
          cases e2
          exact ⟨vs', upd_same, rr⟩
        · rw [List.getElem?_set_ne (Ne.symm hjj)] at e2
          obtain ⟨_, _, vs, h1, r1⟩ := hr j2 b2 ds2 e1 e2
          have hbb : b2 ≠ b := fun z => by
            subst z
            have h1 := (List.getElem?_eq_some_iff.mp e1)
            have h2 := (List.getElem?_eq_some_iff.mp hb)
            obtain ⟨l1, q1⟩ := h1
            obtain ⟨l2, q2⟩ := h2
            exact hjj (nodup_inj nd l1 l2 (q1.trans q2.symm))
          exact ⟨vs, by rw [upd_ne hbb, hH b2 (.inr (List.mem_of_getElem? e1))]; exact h1, r1.mono le⟩
/-! reading and storing -/
@[simp] def dO2 (i : Nat) : Den (List (List D)) := fun st => match st[i]? with
  | some (.o2 dss) => .ok dss st
  | _ => .stuck
@[simp] def hideD (i : Nat) : Den Unit := fun st => .ok () (st.set i .no)
@[simp] def backO (i : Nat) (dss : List (List D)) : Den Unit := fun st => match st[i]? with
  | some .no => .ok () (st.set i (.o2 dss))
  | _ => .stuck
@[simp] def rowAt {α : Type} (dss : List α) (k : D) : Option (Nat × α) := match k with
  | .int k => match ixN dss.length k with
    | some j => match dss[j]? with
      | some ds => some (j, ds)
      | none => none
    | none => none
  | _ => none
@[simp] def dIx2 (i : Nat) (e1 e2 : Den D) : Den D := bindD (dO2 i) fun _ => bindD e1 fun k1 => bindD (dO2 i) fun dss => bindD (liftO (rowAt dss k1)) fun r => bindD (hideD i) fun _ => bindD (noX e2) fun k2 => bindD (backO i dss) fun _ => liftO (match rowAt r.2 k2 with | some q => some q.2 | none => none)
@[simp] def sStore2 (i : Nat) (e1 e2 e : Den D) : DS := bindD e fun v => bindD (dO2 i) fun _ => bindD e1 fun k1 => bindD (dO2 i) fun dss => bindD (liftO (rowAt dss k1)) fun r => bindD (hideD i) fun _ => bindD (noX e2) fun k2 =>
  bindD (liftO (rowAt r.2 k2)) fun q => bindD (backO i (dss.set r.1 (r.2.set q.1 v))) fun _ => retD .nx
theorem dO2_ok {i : Nat} {α : Type} {kk : List (List D) → Den α} {K : α → DSt → Hp → Hp → Prop} (o : Out g W P σ F (bindD (dO2 i) kk st) K) : ∃ dss, st[i]? = some (.o2 dss) ∧ Out g W P σ F (kk dss st) K := by
  unfold bindD dO2 at o
  cases e : st[i]? with
  | none => rw [e] at o; exact o.elim
  | some sl =>
    rw [e] at o
    cases sl with
    | o2 dss => exact ⟨dss, rfl, o⟩
    | _ => exact o.elim
theorem rowAt_some {α : Type} {dss : List α} {k : D} {r : Nat × α} (h : rowAt dss k = some r) : ∃ z, k = .int z ∧ ixN dss.length z = some r.1 ∧ dss[r.1]? = some r.2 := by
  unfold rowAt at h
  split at h
  · rename_i z
    split at h
    · rename_i j hj
      split at h
      · rename_i ds hd
        cases h
        exact ⟨z, rfl, hj, hd⟩
      · cases h
    · cases h
  · cases h
theorem atI_of {α : Type} {xs : List α} {z : Int} {j : Nat} {v : α} (h : ixN xs.length z = some j) (hv : xs[j]? = some v) : atI xs z = some v := by
  unfold atI
  rw [h]; exact hv
/-- the first index of two: the row -/
theorem row2 {i : Nat} {α : Type} {a0 : Addr} {k1 : D} {v1 : V} (s : SR g P σ H F st) (hv0 : σ[i]? = some (some (.ref a0))) (rv1 : Rv g F v1 k1) {kk : List (List D) → Nat × List D → Den α} {K : α → DSt → Hp → Hp → Prop}
    (o : Out g W P σ F (bindD (dO2 i) (fun dss => bindD (liftO (rowAt dss k1)) fun r => kk dss r) st) K) :
    ∃ (dss : List (List D)) (bs : List Addr) (b : Addr) (vs : List V) (r : Nat × List D) (z1 : Int), st[i]? = some (.o2 dss) ∧ v1 = .int z1 ∧ dss[r.1]? = some r.2 ∧ bs[r.1]? = some b ∧ H b = some (.lst vs) ∧ Rl g F vs r.2 ∧ SqL g.K H a0 (bs.map V.ref) ∧ atI (bs.map V.ref) z1 = some (.ref b) ∧
      SR g (P2 P H a0 bs) σ H F (st.set i .no) ∧ Out g W P σ F (kk dss r st) K ∧ ∀ (H' F' : Hp) (st' : DSt), Same F F' → SR g (P2 P H a0 bs) σ H' F' st' → st'[i]? = some .no → H' b = H b ∧ SR g P σ H' F' (st'.set i (.o2 dss)) ∧
        ∀ (ds' : List D) (vs' : List V), Rl g F' vs' ds' → SR g P σ (upd H' b (.lst vs')) F' (st'.set i (.o2 (dss.set r.1 ds'))) := by
  obtain ⟨dss, hst, o2⟩ := dO2_ok o
  obtain ⟨a, bs, hv, ha, hl, hrow, s2, back⟩ := s.hide hst
  rw [hv0] at hv; cases hv
  cases er : rowAt dss k1 with
  | none => simp only [er, bindD, liftO] at o2; exact o2.elim
  | some r =>
    simp only [er, bindD, liftO] at o2
    obtain ⟨z1, rfl, hj, hd⟩ := rowAt_some er
    cases rv1
    obtain ⟨b, hb⟩ : ∃ b, bs[r.1]? = some b := ⟨bs[r.1]'(by rw [hl]; exact lt_of_get hd), List.getElem?_eq_getElem _⟩
    obtain ⟨vs, hbv, rvs⟩ := hrow r.1 b r.2 hb hd
    refine ⟨dss, bs, b, vs, r, z1, hst, rfl, hd, hb, hbv, rvs, sqL_of ha, atI_of (by rw [List.length_map, hl]; exact hj) (by rw [List.getElem?_map, hb]; rfl), s2, o2, fun H' F' st' le s' hno => ?_⟩
    obtain ⟨h1, h2, h3⟩ := back H' F' st' le s' hno
    exact ⟨h1 b (.inr (List.mem_of_getElem? hb)), h2, fun ds' vs' rr => h3 r.1 b ds' vs' hb rr⟩
theorem ev_ix2 {i : Nat} (he : PE X e (tOp (rIx g.K) (tOp (rIx g.K) (tVar i) (tE g W f)) (tE g W h))) : PE X e (tE g W (dIx2 i f h)) := he.imp fun σ H Q ⟨P, F, st, s, o⟩ => by
  obtain ⟨dss0, hst0, o0⟩ := dO2_ok o
  obtain ⟨a0, bs0, hv0, _⟩ := s.hide hst0
  refine ⟨_, hv0, P, F, st, s, o0.bind.imp fun k1 st1 H1 F1 le1 s1 o1 v1 rv1 => ?_⟩
  obtain ⟨dss, bs, b, vs, r, z1, hst, rfl, hd, hb, hbv, rvs, hsq, hat, s2, o2, back⟩ := row2 s1 hv0 rv1 o1
  refine .inl ⟨a0, bs.map V.ref, z1, .ref b, rfl, rfl, hsq, hat, ?_⟩
  refine ⟨P2 P H1 a0 bs, F1, st1.set i .no, s2, ?_⟩
  revert o2
  simp only [bindD, hideD, noX]
  cases h (st1.set i .no) with
  | ok k2 st2 =>
    intro o5 H2 F2 le2 s3 v2 rv2
    simp only [backO] at o5
    cases hno : st2[i]? with
    | none => rw [hno] at o5; exact o5.elim
    | some sl =>
      rw [hno] at o5
      cases sl with
      | no =>
        obtain ⟨hH, s4, _⟩ := back H2 F2 st2 le2 s3 hno
        simp only at o5
        obtain ⟨z, ez, q⟩ := Out.lift o5
        split at ez
        · rename_i q2 hq2
          cases ez
          obtain ⟨z2, rfl, hj2, hd2⟩ := rowAt_some hq2
          cases rv2
          obtain ⟨w, hw, rw'⟩ := rvs.get hd2
          refine .inl ⟨b, vs, z2, w, rfl, rfl, sqL_of (by rw [hH]; exact hbv), atI_of (by rw [rvs.length]; exact hj2) hw, ?_⟩
          exact q H2 F2 le2 s4 w (rw'.mono le2)
        · cases ez
      | _ => exact o5.elim
  | exn c fs st2 => exact fun o5 => o5.elim
  | stuck => exact fun o5 => o5.elim
theorem es_store2 {i : Nat} (he : PS X s (tAsg (tE g W k) (gSub (tOp (rIx g.K) (tVar i) (tE g W f)) (tE g W h) rSetL))) : PS X s (tS g W (sStore2 i f h k)) := he.imp fun D σ H ⟨P, F, st, s, o⟩ =>
  ⟨P, F, st, s, o.bind.imp fun x st0 H0 F0 le0 s0 o0 v rx => by
    have o0 : Out g W P σ F0 (bindD (dO2 i) (fun _ => bindD f fun k1 => bindD (dO2 i) fun dss => bindD (liftO (rowAt dss k1)) fun r => bindD (hideD i) fun _ => bindD (noX h) fun k2 =>
      bindD (liftO (rowAt r.2 k2)) fun q => bindD (backO i (dss.set r.1 (r.2.set q.1 x))) fun _ => retD ()) st0) fun _ st' H' F' => D.nx σ H' := by
      revert o0
      simp only [bindD]
      cases dO2 i st0 with
      | ok a st1 =>
        simp only
        cases f st1 with
        | ok k1 st2 =>
          simp only
          cases dO2 i st2 with
          | ok dss st3 =>
            simp only
            cases (liftO (rowAt dss k1) : Den _) st3 with
            | ok r st4 =>
              simp only [hideD]
              cases noX h (st4.set i .no) with
              | ok k2 st5 =>
                simp only
                cases (liftO (rowAt r.2 k2) : Den _) st5 with
                | ok q st6 =>
                  simp only
                  cases backO i (dss.set r.1 (r.2.set q.1 x)) st6 with
                  | ok u st7 => exact fun o H' F' le s' => o σ H' F' le s'
                  | exn c fs st7 => exact fun o cls dd H' F' le s' rx => o cls dd σ H' F' le s' rx
                  | stuck => exact fun o => o
                | exn c fs st7 => exact fun o cls dd H' F' le s' rx => o cls dd σ H' F' le s' rx
                | stuck => exact fun o => o
              | exn c fs st7 => exact fun o cls dd H' F' le s' rx => o cls dd σ H' F' le s' rx
              | stuck => exact fun o => o
            | exn c fs st7 => exact fun o cls dd H' F' le s' rx => o cls dd σ H' F' le s' rx
            | stuck => exact fun o => o
          | exn c fs st7 => exact fun o cls dd H' F' le s' rx => o cls dd σ H' F' le s' rx
          | stuck => exact fun o => o
        | exn c fs st7 => exact fun o cls dd H' F' le s' rx => o cls dd σ H' F' le s' rx
        | stuck => exact fun o => o
      | exn c fs st7 => exact fun o cls dd H' F' le s' rx => o cls dd σ H' F' le s' rx
      | stuck => exact fun o => o
    obtain ⟨dss0, hst0, o1⟩ := dO2_ok o0
    obtain ⟨a0, bs0, hv0, _⟩ := s0.hide hst0
    refine ⟨_, hv0, P, F0, st0, s0, o1.bind.imp fun k1 st1 H1 F1 le1 s1 o1 v1 rv1 => ?_⟩
    obtain ⟨dss, bs, b, vs, r, z1, hst, rfl, hd, hb, hbv, rvs, hsq, hat, s2, o2, back⟩ := row2 s1 hv0 rv1 o1
    refine .inl ⟨a0, bs.map V.ref, z1, .ref b, rfl, rfl, hsq, hat, ?_⟩
    refine ⟨P2 P H1 a0 bs, F1, st1.set i .no, s2, ?_⟩
    revert o2
    simp only [bindD, hideD, noX]
    cases h (st1.set i .no) with
    | ok k2 st2 =>
      intro o5 H2 F2 le2 s3 v2 rv2
      simp only [liftO] at o5
      cases hq : rowAt r.2 k2 with
      | none => rw [hq] at o5; exact o5.elim
      | some q =>
        rw [hq] at o5
        simp only [backO] at o5
        cases hno : st2[i]? with
        | none => rw [hno] at o5; exact o5.elim
        | some sl =>
          rw [hno] at o5
          cases sl with
          | no =>
            obtain ⟨hH, _, put⟩ := back H2 F2 st2 le2 s3 hno
            obtain ⟨z2, rfl, hj2, hd2⟩ := rowAt_some hq
            cases rv2
            refine ⟨b, vs, z2, q.1, rfl, rfl, by rw [hH]; exact hbv, by rw [rvs.length]; exact hj2, ?_⟩
            exact o5 _ F2 le2 (put (r.2.set q.1 x) (vs.set q.1 v) ((rvs.mono le2).set ((rx.mono le1).mono le2) q.1))
          | _ => exact o5.elim
    | exn c fs st2 => exact fun o5 => o5.elim
    | stuck => exact fun o5 => o5.elim⟩
end
end DL

/-! An own error class whose __init__ says super().__init__(e) and keeps one field. -/
namespace PySem
namespace ErrX
open PySem.W PySem.Calls PyProof.Rows PySem.HandSPX
def eA (a : Str) (p1 p2 : Pos) : Arguments := { posonlyargs := [], args := [{ arg := "self", annotation := none, pos := p1 }, { arg := a, annotation := none, pos := p2 }], vararg := none, kwonlyargs := [], kw_defaults := [], kwarg := none, defaults := [] }
def eB (e : Expr) (a f : Str) (p0 p1 p2 p3 p4 p5 p6 p7 p8 : Pos) : List Stmt := [.Expr (.Call (.Attribute (.Call (.Name "super" p0) [] [] p1) "__init__" p2) [e] [] p3) p4, .Assign [.Attribute (.Name "self" p5) f p6] (.Name a p7) p8]
def eS (a : Str) : Scope := { kind := .function, names := [(PySem.Str.ofString "self", .local), (a, .local), (PySem.Str.ofString "__class__", .free), (PySem.Str.ofString "super", .globalImplicit)], isGenerator := false, isCoroutine := false, more := [] }
/-- how the call is read (the positions are known where the text is) -/
def CallsPlain (e : Expr) (q0 q1 q2 q3 : Pos) : Prop := ∀ env : Env, eval (.Call (.Attribute (.Call (.Name "super" q0) [] [] q1) "__init__" q2) [e] [] q3) env = (do
      let ov ← attributeBase (.Call (.Name "super" q0) [] [] q1) "__init__" env (eval (.Call (.Name "super" q0) [] [] q1) env)
      standAt q2.atName
      let (f, first) ← holding [ov] (getMethod ov "__init__" (do return (← importBound (.Call (.Name "super" q0) [] [] q1) env).getD true))
      callWith q3 f first (backTo q3 (starEach [e] env)) [])
/-- the text: parameter a, field f; e the argument handed on -/
structure ErrTxt (P : Program) (K : Frag) (x qual : Str) (C fI : Addr) (a f : Str) (e : Expr) : Prop where
  okE : (∃ p, e = .Name a p) ∨ ∃ m j p, e = .Constant (.str m) j p
  bnd : ∀ (q : Str) (body : List Stmt) (doc pm : Value) (an : Option Addr) (cdv ct : Value) (cc : Addr) (p1 p2 : Pos) (s : Shared) (u v : Value), BindsTo s (ksFn "__init__" q (eA a p1 p2) body (eS a) .none .none doc pm an cdv ct cc) ⟨[u, v], []⟩ [("self", u), (a, v)]
  na : a ≠ "self" ∧ a ≠ "__class__" ∧ a ≠ "super" ∧ (a == ("__debug__" : Str)) = false
  cls : ∃ nm q N bs bm sn sub ab col dd k0 k1 k2 k3 k5, K.lookup C = some (excClassObj nm q C N bs bm true sn sub ab col dd k0 k1 k2 k3 k5 "ValueError.__new__") ∧ refsVE bm = true ∧ alongIn K "__init__" bm = some (some (.builtin "ValueError.__init__"))
  sa : findIn K (.ref C) "__setattr__" = some (some (.builtin "object.__setattr__"))
  noN : findIn K (.ref C) f = some none
  iC : findIn K (.ref C) "__init__" = some (some (.ref fI))
  tC : typeIn K (.ref fI) = some (.type "function")
  kC : keepIn K (.ref C) = true
  exC : subIn K (.ref C) (.type "BaseException") = some true
  veC : subIn K (.ref C) (.type "ValueError") = some true
  meC : mroIn K C (.ref C) = some true
  tyC : typeIn K (.ref C) = some (.type "type")
  opq : nsIn K cStatics "thirdparty.any" = some none
  sup : nsIn K mainGlobals "super" = some none
  psup : (P.main.scope.names.lookup ("super" : Str)).isSome = false
  fn : ∃ (oc : Value) (od : Option Addr) (doc pm : Value) (an : Option Addr) (cda : Addr) (ct : Value) (osl : Array (Option Value)) (cc : Addr) (p1 p2 q0 q1 q2 q3 q4 q5 q6 q7 q8 : Pos) (ccl cl : Value) (cdd cld : Option Addr) (ccs csl : Array (Option Value)) (vs : Array Value) (file : Str) (tf : Tok),
    K.lookup fI = some ⟨oc, od, .func (ksFn "__init__" qual (eA a p1 p2) (eB e a f q0 q1 q2 q3 q4 q5 q6 q7 q8) (eS a) .none .none doc pm an (.ref cda) ct cc), osl⟩ ∧ codeIn K (.ref cda) qual = true ∧
      K.lookup cda = some ⟨ccl, cdd, .fields vs, ccs⟩ ∧ vs[2]? = some (.str file tf) ∧ ((P.main.file : Str) == file) = true ∧ K.lookup cc = some ⟨cl, cld, .cell (some (.ref C)), csl⟩ ∧ CallsPlain e q0 q1 q2 q3
theorem one_size (v : Value) : [v].length ≤ sizeLine := by
  rw [sizeLine_eq]
  exact (by decide : 1 ≤ 16777216)
/-- what __init__ leaves of a fresh exception at x -/
structure InitEnd (h h' : Heap) (x C dx : Addr) (f : Str) (v : Value) : Prop where
  keep : ∀ b o, b ≠ x → h.get? b = some o → h'.get? b = some o
  obj : ∃ t1, h'.get? x = some { cls := .ref C, dict := some dx, data := .fields #[.ref t1, .none, .none, .none, .bool false, .none] }
  dbig : h.objs.size ≤ dx
  dne : dx ≠ x
  ns : h'.Ns1 dx (fun y => if y = f then some v else none)
structure OwnMade (h h' : Heap) (e C d : Addr) (f : Str) (v : Value) : Prop where
  keep : ∀ b o, h.get? b = some o → h'.get? b = some o
  new : h.objs.size ≤ e
  obj : ∃ oe vs, h'.get? e = some oe ∧ oe.cls = .ref C ∧ oe.dict = some d ∧ oe.data = .fields vs ∧ vs[1]? = some .none
  dbig : h.objs.size ≤ d
  dne : d ≠ e
  ns : h'.Ns1 d (fun y => if y = f then some v else none)
theorem bcls {C : Addr} {l : List Value} : ((Value.ref C :: l).dropWhile (· != .ref C)).drop 1 = l := by simp [List.dropWhile_cons]
theorem find_self {K : Frag} {C : Addr} {bm : List Value} : True := trivial
theorem ldC {M : Model} {A : Around} {E : Value → Shared → Prop} {s : Shared} {name : Str} {scope : Scope} {L f cc : Addr} {cd : Value} {m : Str → Option Value} {x : Str} {pos : Pos} {v : Value} {Q : Value → Shared → Prop} (hn : s.heap.Ns L m) (hv : m x = some v) (h : Q v s)
    (hk : scope.kind = .function) (hl : (ksEnv name scope L f cd cc).kindOf x = some .local) (hd : (x == ("__debug__" : Str)) = false) :
    wpAny M A (eval (.Name x pos) (ksEnv name scope L f cd cc)) Q E s := wpAny_Name (wpAny_loadName_local hk hl hn hv h) hd
section
variable {prog : Program} {w : World} {A : Around} {E : Value → Shared → Prop} {R : Result → Shared → Prop} {s : Shared} {K : Frag} {mg mb : Str → Option Value} {C fI : Addr} {xn qual a f : Str} {e : Expr}
theorem err_init (T : ErrTxt prog K xn qual C fI a f e) {x t0 : Addr} {v : Value} (X : K.In s.heap) (Gg : s.heap.Ns mainGlobals mg) (Gb : s.heap.Ns builtinsNs mb) (hbs : mb "super" = some (.type "super")) (hlim : s.heap.NoLimit) (hx : s.heap.get? x = some (excO C t0)) (hnx : K.lookup x = none) (hroom : A.depth < recursionLimit)
    (hq : ∀ h' tk dx, InitEnd s.heap h' x C dx f v → R (.ok (.ret .none)) { s with heap := h', toks := tk }) :
    codeAny (model prog w) A (.call (.ref fI) ⟨[.ref x, v], []⟩) R s := by
  obtain ⟨oc, od, doc, pm, an, cda, ct, osl, cc, p1, p2, q0, q1, q2, q3, q4, q5, q6, q7, q8, ccl, cl, cdd, cld, ccs, csl, vs, file, tf, ho, hcd, hcda, hvs, hfile, hcell, hplain⟩ := T.fn
  obtain ⟨nm, q, N, bs, bm, sn, sub, ab, col, dd, k0, k1, k2, k3, k5, hC, hbm, hal⟩ := T.cls
  obtain ⟨na1, na2, na3, na4⟩ := T.na
  have hcl : clsIn K C = some { name := nm, bases := bs, mro := .ref C :: bm, ns := N, qualname := q, hasDict := true, slotNames := sn, subclasses := sub, abstract := ab, collection := col, hasDel := false } := by unfold clsIn; rw [hC] <;> rfl
  have nself : (("self" : Str) == a) = false := by simpa using fun z : ("self" : Str) = a => na1 z.symm
  have aself : (a == ("self" : Str)) = false := by simpa using na1
  have lka : (eS a).names.lookup a = some .local := by
    show List.lookup a [(PySem.Str.ofString "self", NameKind.local), (a, .local), (PySem.Str.ofString "__class__", .free), (PySem.Str.ofString "super", .globalImplicit)] = some .local
    rw [List.lookup_cons]
    split
    · rfl
    · rw [List.lookup_cons]; simp
  have lks : (eS a).names.lookup ("super" : Str) = some .globalImplicit := by
    have h1 : (("super" : Str) == PySem.Str.ofString "self") = false := by decide
    have h2 : (("super" : Str) == a) = false := by simpa using fun z : ("super" : Str) = a => na3 z.symm
    have h3 : (("super" : Str) == PySem.Str.ofString "__class__") = false := by decide
    have h4 : (("super" : Str) == PySem.Str.ofString "super") = true := by decide
    show List.lookup _ [(PySem.Str.ofString "self", NameKind.local), (a, .local), (PySem.Str.ofString "__class__", .free), (PySem.Str.ofString "super", .globalImplicit)] = _
    simp only [List.lookup_cons, h1, h2, h3, h4]
  have lkc : (eS a).names.lookup ("__class__" : Str) = some .free := by
    have h1 : (("__class__" : Str) == PySem.Str.ofString "self") = false := by decide
    have h2 : (("__class__" : Str) == a) = false := by simpa using fun z : ("__class__" : Str) = a => na2 z.symm
    have h3 : (("__class__" : Str) == PySem.Str.ofString "__class__") = true := by decide
    show List.lookup _ [(PySem.Str.ofString "self", NameKind.local), (a, .local), (PySem.Str.ofString "__class__", .free), (PySem.Str.ofString "super", .globalImplicit)] = _
    simp only [List.lookup_cons, h1, h2, h3]
  have hfd : ∀ L, (callEnv (ksFn "__init__" qual (eA a p1 p2) (eB e a f q0 q1 q2 q3 q4 q5 q6 q7 q8) (eS a) .none .none doc pm an (.ref cda) ct cc) L fI) = ksEnv qual (eS a) L fI (.ref cda) cc := fun _ => rfl
  refine ks_codeAny_call_defAt (fd := ksFn "__init__" qual (eA a p1 p2) (eB e a f q0 q1 q2 q3 q4 q5 q6 q7 q8) (eS a) .none .none doc pm an (.ref cda) ct cc) (body := eB e a f q0 q1 q2 q3 q4 q5 q6 q7 q8) (binds := [("self", .ref x), (a, v)]) hroom (X _ _ ho) rfl hlim (codeRec_of X hcd) rfl ?_ ?_ ?_ (fun h₁ hns k => ?_) rfl rfl rfl
  · exact T.bnd _ _ _ _ _ _ _ _ _ _ _ _ _
  · intro y hy
    have hy : y ∈ [(PySem.Str.ofString "self", NameKind.local), (a, .local), (PySem.Str.ofString "__class__", .free), (PySem.Str.ofString "super", .globalImplicit)] := hy
    simp only [List.mem_cons, List.not_mem_nil, or_false] at hy
    rcases hy with rfl | rfl | rfl | rfl <;> simp
  · intro y hy
    simp only [List.mem_cons, List.not_mem_nil, or_false] at hy
    rcases hy with rfl | rfl
    · rfl
    · exact lka
  have X₁ : K.In h₁ := X.keeps k
  have hx₁ := k _ _ hx
  have hC₁ := X₁ _ _ hC
  have lself : List.lookup ("self" : Str) ([(("self" : Str), Value.ref x), (a, v)].reverse) = some (.ref x) := by
    show List.lookup ("self" : Str) [(a, v), (("self" : Str), Value.ref x)] = _
    rw [List.lookup_cons, nself]; rfl
  have larg : List.lookup a ([(("self" : Str), Value.ref x), (a, v)].reverse) = some v := by
    show List.lookup a [(a, v), (("self" : Str), Value.ref x)] = _
    rw [List.lookup_cons]; simp
  have hxC : x ≠ C := fun z => by
    have := X₁ _ _ hC
    rw [← z, hx₁] at this
    cases this
  show wpAt (model prog w) _ _ (execs (eB e a f q0 q1 q2 q3 q4 q5 q6 q7 q8) (ksEnv qual (eS a) s.heap.objs.size fI (.ref cda) cc)) _ _ _
  refine ks_wpAt_execs_cons (ks_wpAt_Expr_any (ks_wpAt_MethodCall ?_ (hplain _)) rfl rfl)
  refine ks_wpAt_super_base (env := ksEnv qual (eS a) s.heap.objs.size fI (.ref cda) cc) lks lkc (by decide) rfl (X₁ _ _ ho) rfl rfl rfl (X₁ _ _ hcda) rfl hvs hfile T.psup ?_
  refine ks_loadName_global rfl lks (loadGlobal_builtin (env := ksEnv qual (eS a) s.heap.objs.size fI (.ref cda) cc) (mg := mg) (mb := mb) (Gg.keeps k) (PySem.W.mg_none_of X Gg T.sup) (Gb.keeps k) hbs ⟨rfl, ?_⟩)
  refine wpAny_loadName_free rfl lkc rfl ⟨_, X₁ _ _ hcell, rfl⟩ ?_
  refine wpAny_loadName_local rfl rfl hns lself ?_
  refine ks_wpAny_isType_cls hC₁ rfl ⟨rfl, ?_⟩
  refine ks_wpAny_call_super hC₁ rfl hx₁ rfl (fun c z => by cases z) (looks_mroIn X₁ T.meC) (fun h₂ hso k₂ => ?_)
  have X₂ : K.In h₂ := X₁.keeps k₂
  have hx₂ := k₂ _ _ hx₁
  have hns₂ := hns.keeps k₂
  have hTx : Looks (model prog w) h₂ (typeOf (.ref x)) (.ref C) := fun A Q E s k q => wpAny_typeOf_ref (k _ _ hx₂) q
  refine kxs_getMethod (K := K) (l := bm) kxs_ValueError hso (looks_opaque X₂ T.opq) (l₀ := .ref C :: bm) (fun A Q E s k q => wpAny_bind ((looks_clsIn X₂ hcl) A _ E s k (wpAny_pure q))) bcls X₂ hal (hTx.andThen (looks_subIn X₂ T.veC)) hxC (by decide) ?_
  have hst : starEach (e :: []) (ksEnv qual (eS a) s.heap.objs.size fI (.ref cda) cc) = (false, eval e (ksEnv qual (eS a) s.heap.objs.size fI (.ref cda) cc)) :: starEach [] (ksEnv qual (eS a) s.heap.objs.size fI (.ref cda) cc) := by
    rcases T.okE with ⟨_, h⟩ | ⟨_, _, _, h⟩ <;> rw [h] <;> rfl
  rw [hst]
  refine kxs_callWith (i := "ValueError.__init__") (x := x) rfl (evalArgs_plain ?_)
  have hev : ∀ {E : Value → Shared → Prop} {s' : Shared} {Q : Value → Shared → Prop}, s'.heap.Ns s.heap.objs.size (fun y => [(("self" : Str), Value.ref x), (a, v)].reverse.lookup y) → (∀ u tk, Q u { s' with toks := tk }) → wpAny (model prog w) (A.deeper (ksEnv qual (eS a) s.heap.objs.size fI (.ref cda) cc)) (eval e (ksEnv qual (eS a) s.heap.objs.size fI (.ref cda) cc)) Q E s' := by
    intro E s' Q hn h
    rcases T.okE with ⟨_, he⟩ | ⟨_, _, _, he⟩
    · rw [he]
      exact ldC hn larg (h _ s'.toks) rfl lka na4
    · rw [he]
      exact Calls.Constant_str (h _ _)
  refine Calls.spliced_cons (hev (hns₂.keeps fun b o z => Heap.get?_push_of_some _ z) fun u tk => ?_)
  refine Calls.spliced_nil ⟨Heap.get?_push_at rfl rfl, ?_⟩
  have hu : (h₂.push (kxs_mw "ValueError.__init__" x)).get? h₂.objs.size = some (kxs_mw "ValueError.__init__" x) := Heap.get?_push_at rfl rfl
  have up₃ : ∀ b o, h₂.get? b = some o → (h₂.push (kxs_mw "ValueError.__init__" x)).get? b = some o := fun b o z => Heap.get?_push_of_some _ z
  have hC₃ := up₃ _ _ (k₂ _ _ hC₁)
  have hx₃ := up₃ _ _ hx₂
  -- the call of the bound __init__
  refine wpAny_call (codeAny_of_tree ?_)
  show wpAny _ _ (callAny (.ref h₂.objs.size) ⟨[u], []⟩) _ _ _
  simp only [callAny]
  refine wpAny_bind (wpAny_load hu ?_)
  simp only [kxs_mw, show (Value.type "method-wrapper" == Value.type "method" || Value.type "method-wrapper" == Value.type "builtin_function_or_method" || Value.type "method-wrapper" == Value.type "method-wrapper") = true by decide, if_true]
  refine KFB.if_so (by decide) ?_
  refine wpAny_bind (check_bound_init F.excBase_ValueError.toExcCallFacts hC₃ hx₃ rfl ?_)
  refine wpAny_bind (wpAny_pure (wpAny_pure ?_))
  refine ⟨plainId_quiet F.excBase_ValueError.init.plain _, codeAny_builtin F.excBase_ValueError.initEntry ?_⟩
  refine exc_init_tree (cls := .ref C) (t0 := t0) (dv := none) (c2 := .none) (c3 := .none) (b4 := .bool false) hx₃ (one_size u) fun h₄ k₄ hx₄ _ => ?_
  have all : ∀ b o, b ≠ x → s.heap.get? b = some o → h₄.get? b = some o := fun b o hb z => k₄ b o hb (up₃ b o (k₂ b o (k b o z)))
  have X₄ : K.In h₄ := fun b o z => all b o (fun y => by rw [y, hnx] at z; cases z) (X b o z)
  have hxL : s.heap.objs.size ≠ x := Nat.ne_of_gt (Heap.lt_size hx)
  have hns₄ : h₄.Ns s.heap.objs.size (fun y => [(("self" : Str), Value.ref x), (a, v)].reverse.lookup y) := by
    obtain ⟨oL, es, ep, hL, r⟩ := hns
    exact ⟨oL, es, ep, k₄ _ _ hxL (up₃ _ _ (k₂ _ _ hL)), r⟩
  show wpAt _ _ _ (execs _ _) _ _ _
  refine wpAt_of_wpAny (wpAny_execs_cons (plainObj_wpAny_Assign_Attribute ?_))
  refine ldC (v := v) hns₄ larg (ldC (v := .ref x) hns₄ lself ?_ rfl rfl (by decide)) rfl lka na4
  refine set_plain X₄ (ox := excO C _) (od := none) ⟨hx₄, rfl, rfl, trivial⟩ T.sa ?_
  refine exc_osa X₄ hx₄ hcl (show refsVE (.ref C :: bm) = true from hbm) rfl T.noN (fun h₅ tk₅ dx k₅ dn dne hx₅ hn₅ => ?_)
  show wpAny _ _ (execs _ _) _ _ _
  refine wpAny_execs_nil (hq h₅ tk₅ dx ⟨fun b o hb z => k₅ b o hb (all b o hb z), ⟨_, hx₅⟩, ?_, dne, hn₅⟩)
  have z0 : h₂.objs.size ≠ x := Nat.ne_of_gt (Heap.lt_size hx₂)
  have z1 := Heap.lt_size (k₄ _ _ z0 hu)
  have z2 : s.heap.objs.size < h₂.objs.size := (hns.keeps k₂).lt
  have z3 : h₄.objs.size ≤ dx := dn
  show s.heap.objs.size ≤ dx
  exact Nat.le_trans (Nat.le_of_lt (Nat.lt_trans z2 z1)) z3
theorem err_made (T : ErrTxt prog K xn qual C fI a f e) {v : Value} (X : K.In s.heap) (Gg : s.heap.Ns mainGlobals mg) (Gb : s.heap.Ns builtinsNs mb) (hbs : mb "super" = some (.type "super")) (hlim : s.heap.NoLimit) (hroom : A.depth + 1 < recursionLimit)
    (hq : ∀ h' tk e' d, OwnMade s.heap h' e' C d f v → R (.ok (.ret (.ref e'))) { s with heap := h', toks := tk }) :
    codeAny (model prog w) A (.call (.ref C) ⟨[v], []⟩) R s := by
  obtain ⟨nm, q, N, bs, bm, sn, sub, ab, col, dd, k0, k1, k2, k3, k5, hC, hbm, _⟩ := T.cls
  obtain ⟨hp, g, dr, tk, os⟩ := s
  have k : ∀ b o, hp.get? b = some o → ((hp.push (kdv_tup [v])).push (excO C hp.objs.size)).get? b = some o := fun b o e => Heap.get?_push_of_some _ (Heap.get?_push_of_some _ e)
  have hget : ((hp.push (kdv_tup [v])).push (excO C hp.objs.size)).get? (hp.objs.size + 1) = some (excO C hp.objs.size) := by heap_get
  have hnx : K.lookup (hp.objs.size + 1) = none := by
    cases e : K.lookup (hp.objs.size + 1) with
    | none => rfl
    | some o =>
      have z : hp.get? (hp.objs.size + 1) = some o := X _ _ e
      exact absurd (Nat.lt_of_succ_lt (Heap.lt_size z)) (Nat.lt_irrefl _)
  refine call_own F.excBase_ValueError (fun X => refsVE_contains X bm hbm) (X _ _ hC) (looks_findIn X T.iC) (fun self => bind_fn X self T.tC) (one_size v) ?_
  refine err_init (s := ⟨(hp.push (kdv_tup [v])).push (excO C hp.objs.size), g, dr, tk, os⟩) T (X.keeps k) (Gg.keeps k) (Gb.keeps k) hbs (hlim.keeps k) hget hnx ?_ fun h' tk' dx ⟨k', ⟨t1, hx⟩, dn, dne, hns⟩ => ?_
  · show A.depth + 1 < recursionLimit
    exact hroom
  · have old : ∀ b o, hp.get? b = some o → h'.get? b = some o := fun b o e => k' b o (Nat.ne_of_lt (Nat.lt_succ_of_lt (Heap.lt_size e))) (k b o e)
    have z : hp.objs.size + 1 + 1 ≤ dx := by
      first
        | (simpa only [Heap.size_push] using dn)
        | exact dn
        | (have q := dn; rw [Heap.size_push, Heap.size_push] at q; exact q)
    exact ⟨rfl, hq h' tk' (hp.objs.size + 1) dx ⟨old, Nat.le_succ _, ⟨_, _, hx, rfl, rfl, rfl, rfl⟩, Nat.le_trans (Nat.le_trans (Nat.le_succ _) (Nat.le_succ _)) z, dne, hns⟩⟩
end
end ErrX
end PySem

namespace L2
open PySem PySem.Spec PyProof.Rows
/-! ### try with several clauses, named or not -/
def Ends.clr (D : Ends) (i : Nat) : Ends := { nx := fun σ' H' => D.nx (σ'.set i none) H', rt := D.rt, bk := fun σ' H' => D.bk (σ'.set i none) H', ct := fun σ' H' => D.ct (σ'.set i none) H' }
abbrev HdT : Type := Value × Option Nat × (Addr → Value → Option Addr → TS)
def inSuite (D : Ends) (h : HdT) (a : Addr) (cls : Value) (d : Option Addr) (σ : St) (H : Hp) : Prop := match h.2.1 with
  | none => h.2.2 a cls d D σ H
  | some i => h.2.2 a cls d (D.clr i) (σ.set i (some (.ref a))) H
def wMix (K : PySem.W.Frag) (Wout : WX) (D : Ends) : List HdT → WX
  | [] => Wout
  | h :: r => fun cls d σ H => ∃ b, PySem.W.exmOne K cls h.1 = some b ∧ (b = true → ∀ a, H a = none → inSuite D h a cls d σ H) ∧ (b = false → wMix K Wout D r cls d σ H)
inductive HdsM (X : Cx) : List ExceptHandler → List HdT → Prop
  | nil : HdsM X [] []
  | un {x : Str} {cv : Value} {tz : Addr → Value → Option Addr → TS} {b₀ : Stmt} {rest : List Stmt} {np pq : Pos} {hq : List ExceptHandler} {l : List HdT} (nmd : Names X x cv)
      (su : ∀ (a : Addr) (oe : Obj) (cls : Value) (d : Option Addr) (pn : List (Addr × Obj)), Zc cls d oe → (∃ vs, oe.data = .fields vs) → PSs (X.suite a ((a, oe) :: pn)) (b₀ :: rest) (tz a cls d)) (more : HdsM X hq l) :
      HdsM X (.ExceptHandler (some (.Name x np)) none (b₀ :: rest) pq :: hq) ((cv, none, tz) :: l)
  | nm {x n : Str} {i : Nat} {cv : Value} {tz : Addr → Value → Option Addr → TS} {b₀ : Stmt} {rest : List Stmt} {np pq : Pos} {hq : List ExceptHandler} {l : List HdT} (nmd : Names X x cv) (slotN : X.N[i]? = some n) (slotL : X.env.kindOf n = some .local)
      (su : ∀ (a : Addr) (oe : Obj) (cls : Value) (d : Option Addr) (pn : List (Addr × Obj)), Zc cls d oe → (∃ vs, oe.data = .fields vs) → PSs (X.suite a ((a, oe) :: pn)) (b₀ :: rest) (tz a cls d)) (more : HdsM X hq l) :
      HdsM X (.ExceptHandler (some (.Name x np)) (some n) (b₀ :: rest) pq :: hq) ((cv, some i, tz) :: l)
section
variable {X : Cx} {blk : List Stmt} {hd₀ : ExceptHandler} {hq : List ExceptHandler} {l : List HdT} {pos : Pos} {tb : WX → TS} {Wo : WX}
theorem ps_try_mix (hstk : X.stack = X.env :: X.outer) (hfrm : X.env.frame = some X.env.locals) (ndp : X.N.Nodup) (tk : Takes X Wo)
    (hbody : ∀ (W : WX) (pn : List (Addr × Obj)) (xe : Value → Shared → Prop), Takes (X.tr pn xe) W → PassesOwn (model X.prog X.w) X.A X.env xe → PSs (X.tr pn xe) blk (tb W))
    (hall : HdsM X (hd₀ :: hq) l) : PS X (.Try blk (hd₀ :: hq) [] [] pos) (fun D σ H => tb (wMix X.K Wo D l) D σ H) := by
  refine ⟨fun pins s σ H D I hw => ?_⟩
  have okX := I.ok
  have frm : X.A.frames = some (X.env :: X.outer) := by rw [okX.frames, hstk]
  refine wpAny_Try_except ?_
  refine wpAny_mono ((hbody (wMix X.K Wo D l) (X.pn ++ pins) (fun e s₁ => wpAny (model X.prog X.w) X.A (noteFrame e X.env) (fun _ s₂ => wpAny (model X.prog X.w) X.A (setFlight e none) (fun _ s₃ =>
    wpAny (model X.prog X.w) X.A (handleBy e X.env (hd₀ :: hq)) (SP X pins D) X.xe s₃) X.xe s₂) X.xe s₁) (fun u s' xx => ?_) PassesOwn.looking).run [] s σ H D (I.toTry _) hw) (fun f s1 fin1 => ?_) (fun e s1 he => he)
  · obtain ⟨a, B, sI, pins', σ', H', cls, d, rfl, J0, nb, upS, sky0, na, os, ag, w0⟩ := xx
    have J : Inv X pins σ' H' sI := J0.ofTry okX
    have sky1 : Sky B (X.env :: X.outer) a (Zc cls d) X.env.locals s'.heap := by rw [← hstk]; exact sky0
    show wpAny (model X.prog X.w) X.A (noteFrame (.ref a) X.env) _ _ _
    refine Sky.land Zc.steady frm hfrm sky1 fun h3 fl3 up3 => ?_
    have J3 : Inv X pins σ' H' { s' with heap := h3 } := J.landed nb fl3.1 (upS.trans up3) os ag
    obtain ⟨oe3, vs3, he3, hz3, hd3⟩ := fl3.there
    have nfr : a ∉ frs (X.env :: X.outer) := fun hm => by
      obtain ⟨_, o', e', hnf⟩ := fl3.2.2.1.mem hm
      rw [he3] at e'; cases e'
      exact hnf _ hd3
    have nL : a ≠ X.env.locals := fun z => nfr (List.mem_filterMap.mpr ⟨X.env, List.mem_cons_self, by rw [hfrm, z]⟩)
    have nF : a ∉ X.fs := fun hm => by
      obtain ⟨e, he, q⟩ := List.mem_filterMap.mp hm
      exact nfr (List.mem_filterMap.mpr ⟨e, List.mem_cons_of_mem _ he, q⟩)
    have S3 := J3.suite he3 hd3 na nL nF
    have LT : PySem.W.Looks (model X.prog X.w) h3 (typeOf (.ref a)) cls := fun A Q E s k q => wpAny_typeOf_ref (k _ _ he3) (by rw [hz3.1]; exact q)
    have look : ∀ {x : Str} {cv : Value} {np : Pos} {Q : Value → Shared → Prop} {E : Value → Shared → Prop}, Names X x cv → Q cv { s' with heap := h3 } → wpAny (model X.prog X.w) (X.A.mark (some (.ref a))) (eval (.Name x np) X.env) Q E { s' with heap := h3 } := fun {x cv np Q E} hc q => by
      obtain ⟨hg, hdbg, hm | ⟨hm, hv, hnn⟩⟩ := hc
      · exact ld_glob (X := X.suite a ((a, oe3) :: (X.pn ++ pins))) S3 hg hm q hdbg
      · exact ld_blt (X := X.suite a ((a, oe3) :: (X.pn ++ pins))) S3 hg hm hv q hnn hdbg
    have walk : ∀ {hk : List ExceptHandler} {lk : List HdT}, HdsM X hk lk → wMix X.K Wo D lk cls d σ' H' → wpAny (model X.prog X.w) X.A (handleBy (.ref a) X.env hk) (SP X pins D) X.xe { s' with heap := h3 } := by
      intro hk lk hm
      induction hm with
      | nil =>
        intro w
        refine wpAny_handleBy_nil ?_
        obtain ⟨_, _, _, oe, vs, T, oT, ts', he, hz, hdd, h1, hr⟩ := id fl3
        unfold PySem.passOn
        refine wpAny_bind (wpAny_field he hdd h1 ?_)
        rw [if_neg (show ¬ ((Value.ref T == Value.none) = true) from by simp)]
        have on : wpAny (model X.prog X.w) X.A (setFlight (.ref a) X.env.frame) (fun _ s4 => wpAny (model X.prog X.w) X.A (throw (.ref a) : Sem Flow) (SP X pins D) X.xe s4) X.xe { s' with heap := h3 } := by
          rw [hfrm]
          refine HandSPX.setFlight_upZ fl3 fun h4 hh4 up4 => wpAny_throw (tk _ _ ?_)
          exact ⟨a, B, sI, pins, σ', H', cls, d, rfl, J, nb, (upS.trans up3).trans up4, .inr (.inr (by rw [hstk]; exact hh4)), na, os, ag, w⟩
        first
          | exact wpAny_bind (wpAny_pure (wpAny_bind on))
          | exact wpAny_bind on
      | @un x cv tz b₀ rest np pq hq2 l2 nmd su more ih =>
        intro w
        obtain ⟨b, hb1, yes, no⟩ := w
        refine wpAny_handleBy_cons (codeAny_handlers_test ?_) (by intro q; cases q)
        have LM := PySem.W.exm_one (M := model X.prog X.w) (J3.kIn) LT hb1
        refine look nmd (LM.here ?_)
        cases b with
        | true =>
          refine codeAny_handlers_suite ?_
          refine HandSPX.lands_againZ fl3 fun h4 fl4 up4 => ?_
          have J4 : Inv X pins σ' H' { s' with heap := h4 } := J.landed nb fl4.1 ((upS.trans up3).trans up4) os ag
          obtain ⟨oe4, vs4, he4, hz4, hd4⟩ := fl4.there
          have S4 := J4.suite he4 hd4 na nL nF
          refine wpAny_mono ((su a oe4 cls d (X.pn ++ pins) hz4 ⟨_, hd4⟩).run [] _ _ H' _ S4 (yes rfl a na)) (fun f s6 q => ?_) (fun _ _ z => False.elim z)
          cases f with
          | next =>
            obtain ⟨σ6, H6, S6, q6⟩ := q
            exact ⟨_, _, S6.unsuite okX, q6⟩
          | brk =>
            obtain ⟨σ6, H6, S6, q6⟩ := q
            exact ⟨_, _, S6.unsuite okX, q6⟩
          | cont =>
            obtain ⟨σ6, H6, S6, q6⟩ := q
            exact ⟨_, _, S6.unsuite okX, q6⟩
          | ret u =>
            obtain ⟨v6, σ6, H6, S6, r6, q6⟩ := q
            exact ⟨_, _, _, S6.unsuite okX, r6, q6⟩
        | false =>
          show wpAny _ X.A (handleBy (.ref a) X.env hq2) _ _ _
          exact ih (no rfl)
      | @nm x n i cv tz b₀ rest np pq hq2 l2 nmd slotN slotL su more ih =>
        intro w
        obtain ⟨b, hb1, yes, no⟩ := w
        refine wpAny_handleBy_cons (codeAny_handlers_test ?_) (by intro q; cases q)
        have LM := PySem.W.exm_one (M := model X.prog X.w) (J3.kIn) LT hb1
        refine look nmd (LM.here ?_)
        cases b with
        | true =>
          refine codeAny_handlers_suite_as ?_
          refine HandSPX.lands_againZ fl3 fun h4 fl4 up4 => ?_
          have J4 : Inv X pins σ' H' { s' with heap := h4 } := J.landed nb fl4.1 ((upS.trans up3).trans up4) os ag
          obtain ⟨oe4, vs4, he4, hz4, hd4⟩ := fl4.there
          have S4 := J4.suite he4 hd4 na nL nF
          have lcl : Loc X.env.scope n := .inl slotL
          refine store_ok (X := X.suite a ((a, oe4) :: (X.pn ++ pins))) (v := .ref a) S4 ndp slotN lcl rfl (fun s5 S5 => ?_) (.inr slotL)
          refine wpAny_mono ((su a oe4 cls d (X.pn ++ pins) hz4 ⟨_, hd4⟩).run [] s5 _ H' _ S5 (yes rfl a na)) (fun f s6 q => ?_) (fun _ _ z => False.elim z)
          have close : ∀ {σ6 : St} {H6 : Hp} {Q : Shared → Prop}, Inv (X.suite a ((a, oe4) :: (X.pn ++ pins))) [] σ6 H6 s6 → (∀ s7, Inv X pins (σ6.set i none) H6 s7 → Q s7) →
              wpAny (model X.prog X.w) X.A (do bindName X.env n .none; unbindBehindTheSuite X.env n pq) (fun _ s7 => Q s7) X.xe s6 := fun {σ6 H6 Q} S6 hq => gone_ok (S6.unsuite okX) ndp slotN slotL hq
          cases f with
          | next =>
            obtain ⟨σ6, H6, S6, q6⟩ := q
            exact close S6 fun s7 J7 => ⟨_, _, J7, q6⟩
          | brk =>
            obtain ⟨σ6, H6, S6, q6⟩ := q
            exact close S6 fun s7 J7 => ⟨_, _, J7, q6⟩
          | cont =>
            obtain ⟨σ6, H6, S6, q6⟩ := q
            exact close S6 fun s7 J7 => ⟨_, _, J7, q6⟩
          | ret u =>
            obtain ⟨v6, σ6, H6, S6, r6, q6⟩ := q
            exact close S6 fun s7 J7 => ⟨_, _, _, J7, r6, q6⟩
        | false =>
          show wpAny _ X.A (handleBy (.ref a) X.env hq2) _ _ _
          exact ih (no rfl)
    exact walk hall w0
  · cases f with
    | next =>
      obtain ⟨σ', H', Jn, q⟩ := fin1
      exact wpAny_execs_nil ⟨σ', H', Jn.ofTry okX, q⟩
    | brk =>
      obtain ⟨σ', H', Jn, q⟩ := fin1
      exact ⟨σ', H', Jn.ofTry okX, q⟩
    | cont =>
      obtain ⟨σ', H', Jn, q⟩ := fin1
      exact ⟨σ', H', Jn.ofTry okX, q⟩
    | ret u =>
      obtain ⟨v, σ', H', Jn, r, q⟩ := fin1
      exact ⟨v, σ', H', Jn.ofTry okX, r, q⟩
end
/-! ### an own error made -/
def tMkErr (C : Addr) (f : Str) (ta : TA) : St → Hp → XK → Prop := fun σ H Q => ta σ H fun vs H1 => ∃ v, vs = [v] ∧ ∀ d, H1 d = none → Q (.ref C) (some d) (upd H1 d (.xd [(f, v)]))
theorem relO_one {f : Str} {v : V} {v' : Value} (r : RelV v v') (y : Str) : RelO (List.lookup y [(f, v)]) (if y = f then some v' else none) := by
  by_cases hw : y = f
  · subst hw
    rw [if_pos rfl]
    have q : List.lookup y [(y, v)] = some v := by simp [List.lookup]
    rw [q]
    exact r
  · rw [if_neg hw]
    have qw : (y == f) = false := by simpa using hw
    have q2 : List.lookup y [(f, v)] = none := by simp [List.lookup, qw]
    rw [q2]
    trivial
section
variable {X : Cx} {C fI : Addr} {x qual a f : Str} {e' : Expr}
theorem pmk_err {e : Expr} {ta : TA} {p pos : Pos} {k : Nat} (T : PySem.ErrX.ErrTxt X.prog X.K x qual C fI a f e') (gC : X.mg x = some (.ref C)) (gs : X.mg "super" = none) (hr : Room k X.A) (ha : PA X [e] ta) (hg : Gl X x) (hdb : (x == ("__debug__" : Str)) = false := by decide)
    (he : starEach (e :: []) X.env = (false, eval e X.env) :: starEach [] X.env := by rfl) (hpl : (backTo pos (starEach [] X.env)).any (·.1) = false := by rfl) :
    PMk X (.Call (.Name x p) [e] [] pos) (tMkErr C f ta) := by
  intro pins s σ H Q I h
  refine wpAny_Call_Name_kw (ld_glob I hg gC ?_ hdb)
  refine PySem.W.callWith_K (h₀ := X.base) I.ok.mod.kin T.kC (thn (ha.run pos pins s σ H _ I h) fun us s1 hh => ?_) he hpl
  obtain ⟨vs, H1, I1, r1, v, ev, q1⟩ := hh
  subst ev
  refine ⟨I1.kIn, ?_⟩
  cases r1 with
  | cons rv rn =>
    rename_i v' us'
    cases rn
    show wpAny _ _ (call (.ref C) [v']) _ _ _
    have hlim := I1.nolimit
    obtain ⟨mb, b1, b2⟩ := I1.mod.blt
    have hbs : mb "super" = some (.type "super") := (b2 "super" (by decide)).trans PyProof.Rows.Boot.«super»
    have gG : s1.heap.Ns mainGlobals X.mg := I1.mod.glob.keeps I1.bk
    have gB : s1.heap.Ns builtinsNs mb := b1.keeps I1.bk
    obtain ⟨hp, g, dr, tk, os⟩ := s1
    refine wpAny_call (PySem.ErrX.err_made T I1.kIn gG gB hbs hlim (by have := hr.dp; omega) fun h' tk' e d M => ?_)
    show MkP X pins σ Q (.ref e) ⟨h', g, dr, tk', os⟩
    obtain ⟨oe, fv, hoe, hc, hd, hdat, h1⟩ := M.obj
    have hns := M.ns
    obtain ⟨G', g1, g2⟩ := restrict h' fun b => decide (b ≠ e)
    have gk : ∀ b, b ≠ e → G'.get? b = h'.get? b := fun b hb => g1 b (decide_eq_true hb)
    have ge : G'.get? e = none := g2 e (by simp)
    have old : ∀ b o, hp.get? b = some o → G'.get? b = some o := fun b o q => (gk b (Nat.ne_of_lt (Nat.lt_of_lt_of_le (Heap.lt_size q) M.new))).trans (M.keep b o q)
    have ob : ObjOk X.prog X.w (upd H1 d (.xd [(f, v)])) G' d (.xd [(f, v)]) :=
      ⟨_, hns.at (fun o q => (gk d M.dne).trans q), fun y => relO_one rv y⟩
    have J : Inv X pins σ (upd H1 d (.xd [(f, v)])) ⟨G', g, dr, tk', os⟩ := I1.laid (t' := tk') old M.dbig ob
    refine ⟨e, oe, fv, ⟨G', g, dr, tk', os⟩, _, .ref C, some d, rfl, J, fun b o q => ?_, ge, hoe, ⟨hc, hd⟩, hdat, h1, ?_, rfl, I1.bare, raises_own T.exC T.tyC, q1 d (I1.hok.fresh M.dbig)⟩
    · by_cases hb : b = e
      · have q' : G'.get? b = some o := q
        rw [hb, ge] at q'; cases q'
      · exact (gk b hb).symm.trans q
    · rw [upd_ne (Ne.symm M.dne)]
      exact I1.hok.fresh M.new
end
end L2

namespace DL
open PySem PySem.Spec PyProof.Rows L2
/-! ### raise -/
@[simp] def sRaise0 (c : Str) : DS := fun st => .exn c [] st
@[simp] def sRaise1 (c f : Str) (h : Den D) : DS := bindD h fun d => fun st => .exn c [(f, d)] st
section
variable {X : Cx} {g : G} {W : WX} {P : Par} {σ : L2.St} {H F : Hp} {st : DSt} {e : Expr} {s : Stmt} {ss : List Stmt} {f h : Den D} {t : Den Bool} {a b : DS}
theorem es_raise0 {c : Str} {C : Addr} {pos : Pos} (gC : g.mg c = some (.ref C)) (tk : Takes X W) (he : PMk X e (fun _ H Q => Q (.ref C) none H)) (hc : X.calm = true := by rfl) : PS X (.Raise (some e) none pos) (tS g W (sRaise0 c)) :=
  (ps_raise hc tk he).imp fun D σ H ⟨P, F, st, s, o⟩ => o (.ref C) none σ H F (Same.refl _) s ⟨C, gC, rfl, .inl ⟨rfl, rfl⟩⟩
theorem es_raise1 {c nm : Str} {C : Addr} {pos : Pos} (gC : g.mg c = some (.ref C)) (tk : Takes X W) (he : PMk X e (tMkErr C nm (tCons (tE g W f) tNil))) (hc : X.calm = true := by rfl) : PS X (.Raise (some e) none pos) (tS g W (sRaise1 c nm f)) :=
  (ps_raise hc tk he).imp fun D σ H ⟨P, F, st, s, o⟩ => by
    refine ⟨P, F, st, s, o.bind.imp fun x st1 H1 F1 le1 s1 o1 v rx => ⟨v, rfl, fun d hd => ?_⟩⟩
    have gr : Grow H1 F1 (upd H1 d (.xd [(nm, v)])) (upd F1 d (.xd [(nm, v)])) := Grow.new s1.le hd
    exact o1 (.ref C) (some d) σ _ _ gr.f (s1.grow gr) ⟨C, gC, rfl, .inr ⟨d, nm, v, x, rfl, rfl, upd_same, rx.mono gr.f⟩⟩
end
/-! ### try -/
def G.at (g : G) (a : Addr) (cls : Value) (d : Option Addr) : G := ⟨g.K, g.mg, some (a, cls, d), g.tk⟩
section
variable {g g' : G} {F : Hp}
mutual
theorem Rv.chg (hK : g'.K = g.K) (hm : g'.mg = g.mg) (ht : g'.tk = g.tk) : ∀ {v : V} {d : D}, Rv g F v d → Rv g' F v d
  | _, _, .non => .non
  | _, _, .bl b => .bl b
  | _, _, .int i => .int i
  | _, _, .str x => .str x
  | _, _, .lst h r => .lst h (Rl.chg hK hm ht r)
  | _, _, .tup h k r => .tup (by rw [hK]; exact h) (fun z => by rw [hK]; exact k (by rw [← ht]; exact z)) (Rl.chg hK hm ht r)
  | _, _, .ins h m l r => .ins h (by rw [hm]; exact m) l (Rl.chg hK hm ht r)
  | _, _, .scr h => .scr (by rw [hK]; exact h)
theorem Rl.chg (hK : g'.K = g.K) (hm : g'.mg = g.mg) (ht : g'.tk = g.tk) : ∀ {vs : List V} {ds : List D}, Rl g F vs ds → Rl g' F vs ds
  | _, _, .nil => .nil
  | _, _, .cons r t => .cons (Rv.chg hK hm ht r) (Rl.chg hK hm ht t)
end
def isXc : Slot → Bool
  | .xc _ _ _ => true
  | _ => false
def noXc (st : DSt) : Bool := st.all fun s => !isXc s
theorem SlotOk.chg (hK : g'.K = g.K) (hm : g'.mg = g.mg) (ht : g'.tk = g.tk) {P : Par} {O : Addr → Option Nat} {H : Hp} {i : Nat} {s : Slot} {ov : Option V} (hx : isXc s = false) (h : SlotOk g P O F H i s ov) : SlotOk g' P O F H i s ov := by
  cases s with
  | no => trivial
  | sh d => obtain ⟨v, e, r⟩ := h; exact ⟨v, e, r.chg hK hm ht⟩
  | ow ds => obtain ⟨a, vs, e, o, n, h1, r⟩ := h; exact ⟨a, vs, e, o, n, h1, r.chg hK hm ht⟩
  | rf k ds => obtain ⟨a, vs, e, b, o, h1, r⟩ := h; exact ⟨a, vs, e, b, o, h1, r.chg hK hm ht⟩
  | oi k c ns ds => obtain ⟨a, C, dx, vs, e, b, o, m, l, h1, r⟩ := h; exact ⟨a, C, dx, vs, e, b, o, by rw [hm]; exact m, l, h1, r.chg hK hm ht⟩
  | o2 dss =>
    obtain ⟨a, bs, e, o, n, h1, nd, na, l, r⟩ := h
    refine ⟨a, bs, e, o, n, h1, nd, na, l, fun j b ds e1 e2 => ?_⟩
    obtain ⟨o', n', vs, h2, r2⟩ := r j b ds e1 e2
    exact ⟨o', n', vs, h2, r2.chg hK hm ht⟩
  | xc c nm x => cases hx
theorem SR.chg (hK : g'.K = g.K) (hm : g'.mg = g.mg) (ht : g'.tk = g.tk) {P : Par} {σ : L2.St} {H : Hp} {st : DSt} (hx : noXc st = true) (s : SR g P σ H F st) : SR g' P σ H F st := by
  obtain ⟨O, c⟩ := s
  refine ⟨O, c.le, c.rr, c.oo, c.no, c.len, fun i sl ov e1 e2 => (c.sl i sl ov e1 e2).chg hK hm ht ?_⟩
  have := List.all_eq_true.mp hx sl (List.mem_of_getElem? e1)
  simpa using this
end
structure HdD where
  x : Str
  i : Option Nat
  den : DS
def mtB : List (Str × Str × Bool) → Str → Str → Option Bool
  | [], _, _ => none
  | (c, x, b) :: r, c', x' => if c = c' ∧ x = x' then some b else mtB r c' x'
def MtOk (g : G) (mt : List (Str × Str × Bool)) : Prop := ∀ q ∈ mt, ∀ C V, g.mg q.1 = some (.ref C) → g.mg q.2.1 = some (.ref V) → PySem.W.exmOne g.K (.ref C) (.ref V) = some q.2.2
theorem mtB_mem : ∀ {mt : List (Str × Str × Bool)} {c x : Str} {b : Bool}, mtB mt c x = some b → (c, x, b) ∈ mt
  | (c', x', b') :: r, c, x, b, h => by
    unfold mtB at h
    split at h
    · rename_i e
      obtain ⟨rfl, rfl⟩ := e
      cases h
      exact List.mem_cons_self
    · exact List.mem_cons_of_mem _ (mtB_mem h)
  | [], _, _, _, h => by cases h
def xcSlot (c : Str) (fs : List (Str × D)) : Slot := match fs with
  | [(nm, x)] => .xc c nm x
  | _ => .no
/-- the suite of a named clause: the name is gone behind it -/
def clrS (i : Nat) (den : DS) : DS := fun st => match den st with
  | .ok .nx st' => if noXc (st'.set i .no) then .ok .nx (st'.set i .no) else .stuck
  | .ok .brk st' => if noXc (st'.set i .no) then .ok .brk (st'.set i .no) else .stuck
  | .ok .cnt st' => if noXc (st'.set i .no) then .ok .cnt (st'.set i .no) else .stuck
  | .ok (.ret d) st' => if noXc (st'.set i .no) then .ok (.ret d) (st'.set i .no) else .stuck
  | _ => .stuck
def runH (mt : List (Str × Str × Bool)) (c : Str) (fs : List (Str × D)) : List HdD → DS
  | [] => fun st => .exn c fs st
  | hd :: r => fun st => match mtB mt c hd.x with
    | some true => (match hd.i with
      | none => noX hd.den st
      | some i => if noXc st ∧ i < st.length then clrS i hd.den (st.set i (xcSlot c fs)) else .stuck)
    | some false => runH mt c fs r st
    | none => .stuck
def sTry (mt : List (Str × Str × Bool)) (body : DS) (hs : List HdD) : DS := fun st => match body st with
  | .exn c fs st' => runH mt c fs hs st'
  | r => r
inductive HdsD (X : Cx) (g : G) : List ExceptHandler → List HdD → Prop
  | nil : HdsD X g [] []
  | un {x : Str} {V : Addr} {b₀ : Stmt} {rest : List Stmt} {np pq : Pos} {hq : List ExceptHandler} {den : DS} {l : List HdD} (gV : g.mg x = some (.ref V)) (nmd : Names X x (.ref V))
      (su : ∀ (a : Addr) (oe : Obj) (cls : Value) (d : Option Addr) (pn : List (Addr × Obj)), Zc cls d oe → (∃ vs, oe.data = .fields vs) → PSs (X.suite a ((a, oe) :: pn)) (b₀ :: rest) (tS g WN den)) (more : HdsD X g hq l) :
      HdsD X g (.ExceptHandler (some (.Name x np)) none (b₀ :: rest) pq :: hq) (⟨x, none, den⟩ :: l)
  | nm {x n : Str} {i : Nat} {V : Addr} {b₀ : Stmt} {rest : List Stmt} {np pq : Pos} {hq : List ExceptHandler} {den : DS} {l : List HdD} (gV : g.mg x = some (.ref V)) (nmd : Names X x (.ref V)) (slotN : X.N[i]? = some n) (slotL : X.env.kindOf n = some .local)
      (su : ∀ (a : Addr) (oe : Obj) (cls : Value) (d : Option Addr) (pn : List (Addr × Obj)), Zc cls d oe → (∃ vs, oe.data = .fields vs) → PSs (X.suite a ((a, oe) :: pn)) (b₀ :: rest) (tS (g.at a cls d) WN den)) (more : HdsD X g hq l) :
      HdsD X g (.ExceptHandler (some (.Name x np)) (some n) (b₀ :: rest) pq :: hq) (⟨x, some i, den⟩ :: l)
section
variable {X : Cx} {g : G} {W : WX} {P : Par} {σ : L2.St} {H F : Hp} {st : DSt} {e : Expr} {s : Stmt} {ss : List Stmt} {f h : Den D} {t : Den Bool} {a b : DS}
/-- the clauses as the library has them -/
def hdT (g : G) (vs : List Addr) : List HdD → List HdT
  | [] => []
  | ⟨x, none, den⟩ :: r => match vs with
    | v :: vs => (.ref v, none, fun _ _ _ => tS g WN den) :: hdT g vs r
    | [] => []
  | ⟨x, some i, den⟩ :: r => match vs with
    | v :: vs => (.ref v, some i, fun a cls d => tS (g.at a cls d) WN den) :: hdT g vs r
    | [] => []
theorem HdsD.m {hq : List ExceptHandler} {l : List HdD} (h : HdsD X g hq l) : ∃ vs, HdsM X hq (hdT g vs l) ∧ vs.length = l.length ∧ ∀ (k : Nat) (hd : HdD) (v : Addr), l[k]? = some hd → vs[k]? = some v → g.mg hd.x = some (.ref v) := by
  induction h with
  | nil => exact ⟨[], .nil, rfl, fun k hd v e => by cases e⟩
  | @un x V b₀ rest np pq hq den l gV nmd su more ih =>
    obtain ⟨vs, i1, i2, i3⟩ := ih
    refine ⟨V :: vs, .un nmd su i1, by simp [i2], fun k hd v e1 e2 => ?_⟩
    cases k with
    | zero => simp at e1 e2; subst e1; subst e2; exact gV
    | succ k => exact i3 k hd v (by simpa using e1) (by simpa using e2)
  | @nm x n i V b₀ rest np pq hq den l gV nmd slotN slotL su more ih =>
    obtain ⟨vs, i1, i2, i3⟩ := ih
    refine ⟨V :: vs, .nm nmd slotN slotL su i1, by simp [i2], fun k hd v e1 e2 => ?_⟩
    cases k with
    | zero => simp at e1 e2; subst e1; subst e2; exact gV
    | succ k => exact i3 k hd v (by simpa using e1) (by simpa using e2)
theorem SR.wiped {i : Nat} (s : SR g P σ H F st) : SR g P (σ.set i none) H F (st.set i .no) := by
  obtain ⟨O, c⟩ := s
  refine ⟨fun b => if O b = some i then none else O b, c.le, c.rr, fun b j e => ?_, c.no, by rw [List.length_set, List.length_set]; exact c.len, fun j s ov e1 e2 => ?_⟩
  · by_cases hb : O b = some i
    · simp [hb] at e
    · simp only [if_neg hb] at e; exact c.oo b j e
  · by_cases hj : j = i
    · subst hj
      by_cases hl : j < st.length
      · rw [List.getElem?_set_self hl] at e1
        cases e1
        trivial
      · rw [List.getElem?_eq_none (by rw [List.length_set]; omega)] at e1; cases e1
    · rw [List.getElem?_set_ne (Ne.symm hj)] at e1 e2
      exact (c.sl j s ov e1 e2).move rfl (fun b o => by
        show (if O b = some i then none else O b) = some j
        rw [if_neg (by rw [o]; intro z; exact hj (Option.some.inj z))]; exact o) (Same.refl _) (fun _ _ _ h => h) fun _ _ h => h
/-- a slot takes the exception -/
theorem SR.putx {i : Nat} {c : Str} {fs : List (Str × D)} {cls : Value} {dd : Option Addr} {a : Addr} (s : SR g P σ H F st) (hx : noXc st = true) (hi : i < st.length) (rx : RepX g F H c fs cls dd) :
    SR (g.at a cls dd) P (σ.set i (some (.ref a))) H F (st.set i (xcSlot c fs)) := by
  have s := SR.chg (g := g) (g' := g.at a cls dd) rfl rfl rfl hx s
  obtain ⟨O, q⟩ := s
  obtain ⟨C, hm, hcls, hd⟩ := rx
  refine ⟨fun b => if O b = some i then none else O b, q.le, q.rr, fun b j e => ?_, q.no, by rw [List.length_set, List.length_set]; exact q.len, fun j s ov e1 e2 => ?_⟩
  · by_cases hb : O b = some i
    · simp [hb] at e
    · simp only [if_neg hb] at e; exact q.oo b j e
  · by_cases hj : j = i
    · subst hj
      rw [List.getElem?_set_self hi] at e1
      rw [List.getElem?_set_self (by rw [q.len]; exact hi)] at e2
      cases e1; cases e2
      rcases hd with ⟨rfl, rfl⟩ | ⟨d, nm, v, x, rfl, rfl, hF, r⟩
      · trivial
      · exact ⟨a, C, d, v, by rw [hcls]; rfl, hm, rfl, hF, Rv.chg (g := g) (g' := g.at a cls (some d)) rfl rfl rfl r⟩
    · rw [List.getElem?_set_ne (Ne.symm hj)] at e1 e2
      exact (q.sl j s ov e1 e2).move rfl (fun b o => by
        show (if O b = some i then none else O b) = some j
        rw [if_neg (by rw [o]; intro z; exact hj (Option.some.inj z))]; exact o) (Same.refl _) (fun _ _ _ h => h) fun _ _ h => h
theorem OutS.noX {den : DS} {D : Ends} (o : OutS g W P F (noX den st) D) : OutS g WN P F (den st) D := by
  revert o
  simp only [DL.noX]
  cases den st with
  | ok fl st' => exact fun o => o
  | exn c fs st' => exact fun o => o.elim
  | stuck => exact fun o => o
theorem OutS.clr {den : DS} {D : Ends} {i : Nat} {a : Addr} {cls : Value} {dd : Option Addr} (o : OutS g W P F (clrS i den st) D) : OutS (g.at a cls dd) WN P F (den st) (D.clr i) := by
  revert o
  unfold clrS
  have key : ∀ {σ' : L2.St} {H' F' : Hp} {st' : DSt}, noXc (st'.set i .no) = true → SR (g.at a cls dd) P σ' H' F' st' → SR g P (σ'.set i none) H' F' (st'.set i .no) := fun hx s => SR.chg (g := g.at a cls dd) (g' := g) rfl rfl rfl hx s.wiped
  cases den st with
  | ok fl st' =>
    cases fl with
    | nx =>
      simp only
      split
      · rename_i hx
        exact fun o σ' H' F' le s => o _ H' F' le (key hx s)
      · exact fun o => o.elim
    | brk =>
      simp only
      split
      · rename_i hx
        exact fun o σ' H' F' le s => o _ H' F' le (key hx s)
      · exact fun o => o.elim
    | cnt =>
      simp only
      split
      · rename_i hx
        exact fun o σ' H' F' le s => o _ H' F' le (key hx s)
      · exact fun o => o.elim
    | ret d =>
      simp only
      split
      · rename_i hx
        exact fun o σ' H' F' le s v r => o _ H' F' le (key hx s) v (Rv.chg (g := g.at a cls dd) (g' := g) rfl rfl rfl r)
      · exact fun o => o.elim
  | exn c fs st' => exact fun o => o.elim
  | stuck => exact fun o => o.elim
theorem runH_ok {mt : List (Str × Str × Bool)} (mo : MtOk g mt) {c : Str} {fs : List (Str × D)} {cls : Value} {dd : Option Addr} {D : Ends} (rx : RepX g F H c fs cls dd) (s : SR g P σ H F st) :
    ∀ {l : List HdD} {vs : List Addr}, vs.length = l.length → (∀ (k : Nat) (hd : HdD) (v : Addr), l[k]? = some hd → vs[k]? = some v → g.mg hd.x = some (.ref v)) → OutS g W P F (runH mt c fs l st) D → wMix g.K W D (hdT g vs l) cls dd σ H
  | [], vs, _, _, o => by
    have e : hdT g vs [] = [] := by unfold hdT; rfl
    rw [e]
    exact o cls dd σ H F (Same.refl _) s rx
  | hd :: l, [], hl, _, _ => by cases hl
  | ⟨x, oi, den⟩ :: l, v :: vs, hl, hg, o => by
    obtain ⟨C, hm, hcls, _⟩ := id rx
    have hx := hg 0 _ v rfl rfl
    have more : OutS g W P F (runH mt c fs l st) D → wMix g.K W D (hdT g vs l) cls dd σ H := runH_ok mo rx s (by simpa using hl) fun k hd v e1 e2 => hg (k + 1) hd v (by simpa using e1) (by simpa using e2)
    unfold runH at o
    cases hb : mtB mt c x with
    | none => simp only [hb] at o; exact o.elim
    | some b =>
      have hex : PySem.W.exmOne g.K cls (.ref v) = some b := by rw [hcls]; exact mo _ (mtB_mem hb) C v hm hx
      simp only [hb] at o
      cases b with
      | false =>
        cases oi with
        | none => exact ⟨false, hex, fun z => Bool.noConfusion z, fun _ => more o⟩
        | some i => exact ⟨false, hex, fun z => Bool.noConfusion z, fun _ => more o⟩
      | true =>
        cases oi with
        | none => exact ⟨true, hex, fun _ a _ => ⟨P, F, st, s, OutS.noX o⟩, fun z => Bool.noConfusion z⟩
        | some i =>
          simp only at o
          split at o
          · rename_i hc
            exact ⟨true, hex, fun _ a _ => ⟨P, F, _, s.putx hc.1 hc.2 rx, OutS.clr o⟩, fun z => Bool.noConfusion z⟩
          · exact o.elim
theorem es_try {mt : List (Str × Str × Bool)} (mo : MtOk g mt) {blk : List Stmt} {hd₀ : ExceptHandler} {hq : List ExceptHandler} {l : List HdD} {tb : DS} {pos : Pos} (tk : Takes X W) (hK : X.K = g.K)
    (hbody : ∀ (W' : WX) (pn : List (Addr × Obj)) (xe : Value → Shared → Prop), Takes (X.tr pn xe) W' → PSs (X.tr pn xe) blk (tS g W' tb)) (hall : HdsD X g (hd₀ :: hq) l)
    (hstk : X.stack = X.env :: X.outer := by rfl) (hfrm : X.env.frame = some X.env.locals := by rfl) (ndp : X.N.Nodup := by decide) :
    PS X (.Try blk (hd₀ :: hq) [] [] pos) (tS g W (sTry mt tb l)) := by
  obtain ⟨vs, h1, h2, h3⟩ := hall.m
  refine (ps_try_mix (tb := fun W' => tS g W' tb) hstk hfrm ndp tk (fun W' pn xe t _ => hbody W' pn xe t) h1).imp fun D σ H ⟨P, F, st, s, o⟩ => ⟨P, F, st, s, ?_⟩
  revert o
  unfold sTry
  cases tb st with
  | ok fl st' => exact fun o => o
  | exn c fs st' => exact fun o cls dd σ' H' F' le s' rx => by rw [hK]; exact runH_ok mo rx s' h2 h3 (OutS.weak le o)
  | stuck => exact fun o => o
/-- a field of the exception that the suite holds -/
@[simp] def dXf (i : Nat) (c f : Str) : Den D := fun st => match st[i]? with
  | some (.xc c' nm x) => if c' = c ∧ nm = f then .ok x st else .stuck
  | _ => .stuck
theorem ev_xf {i : Nat} {c n : Str} {C a : Addr} {cls : Value} {d : Option Addr} (gC : g.mg c = some (.ref C)) (he : PE X e (tXf a cls d C n (tVar i))) : PE X e (tE (g.at a cls d) W (dXf i c n)) := he.imp fun σ H Q ⟨P, F, st, s, o⟩ => by
  unfold dXf at o
  split at o
  · rename_i c' nm x hx
    split at o
    · rename_i hc
      obtain ⟨rfl, rfl⟩ := hc
      obtain ⟨ov, hov⟩ := SRc.nth s hx
      obtain ⟨O, q⟩ := id s
      obtain ⟨a', C', d', v, e1, e2, e3, hF, r⟩ := q.sl i _ _ hx hov
      simp only [G.at, Option.some.injEq, Prod.mk.injEq] at e1
      obtain ⟨rfl, rfl, rfl⟩ := e1
      have : C' = C := by
        have e2 : g.mg c' = some (.ref C') := e2
        rw [gC] at e2
        exact (by simpa using e2 : C = C').symm
      subst this
      rw [e3] at hov
      exact ⟨_, hov, rfl, rfl, d', _, v, rfl, q.le _ _ hF, by simp [List.lookup], o H F (Same.refl _) s v r⟩
    · exact o.elim
  · exact o.elim
end
end DL

namespace DL
open PySem PySem.Spec PyProof.Rows L2
/-! ### own error classes, from the head's facts -/
def ecB (K : PySem.W.Frag) (C : Addr) : Bool := match K.lookup C with
  | some ⟨.type "type", _, .cls cd, sl⟩ => (match cd.mro, sl.toList with
    | .ref C' :: bm, [_, _, _, _, some (.builtin n), _] => C' == C && (n == "ValueError.__new__" && (!cd.hasDel && (cd.hasDict && (HandSPX.refsVE bm && He.eqO (PySem.W.alongIn K "__init__" bm) (some (some (.builtin "ValueError.__init__")))))))
    | _, _ => false)
  | _ => false
def noneV : Value → Bool
  | .none => true
  | _ => false
def cellB (K : PySem.W.Frag) (cc C : Addr) : Bool := match K.lookup cc with
  | some ⟨_, _, .cell (some (.ref D)), _⟩ => D == C
  | _ => false
def fileB (K : PySem.W.Frag) (file : Str) : Value → Bool
  | .ref cda => (match K.lookup cda with
    | some ⟨_, _, .fields vs, _⟩ => (match (vs[2]? : Option Value) with
      | some (Value.str f _) => file == f
      | _ => false)
    | _ => false)
  | _ => false
def efB (K : PySem.W.Frag) (file : Str) (C fI : Addr) : Bool := match K.lookup fI with
  | some ⟨_, _, .func fd, _⟩ => (match fd.closure with
    | [(n, cc)] => n == ("__class__" : Str) && (noneV fd.defaults && (noneV fd.kwdefaults && (PySem.W.codeIn K fd.code fd.qualname && (cellB K cc C && fileB K file fd.code))))
    | _ => false)
  | _ => false
def errB (K : PySem.W.Frag) (file x f : Str) : Bool :=
  ecB K (He.ga K x) && (efB K file (He.ga K x) (He.fAd K (x, some ("__init__" : Str))) && (He.eqO (PySem.W.findIn K (.ref (He.ga K x)) "__setattr__") (some (some (.builtin "object.__setattr__"))) && (He.eqO (PySem.W.findIn K (.ref (He.ga K x)) f) (some none) &&
  (He.eqO (PySem.W.findIn K (.ref (He.ga K x)) "__init__") (some (some (.ref (He.fAd K (x, some ("__init__" : Str)))))) && (decide (PySem.W.typeIn K (.ref (He.fAd K (x, some ("__init__" : Str)))) = some (.type "function")) && (PySem.W.keepIn K (.ref (He.ga K x)) &&
  (decide (PySem.W.subIn K (.ref (He.ga K x)) (.type "BaseException") = some true) && (decide (PySem.W.subIn K (.ref (He.ga K x)) (.type "ValueError") = some true) && (decide (PySem.W.mroIn K (He.ga K x) (.ref (He.ga K x)) = some true) &&
  (decide (PySem.W.typeIn K (.ref (He.ga K x)) = some (.type "type")) && (He.eqO (PySem.W.nsIn K cStatics "thirdparty.any") (some none) && xfB K (He.ga K x))))))))))))
theorem err_txt {P : Program} {K : PySem.W.Frag} {file x f a qual : Str} {d : He.DefD} {e : Expr} {p1 p2 q0 q1 q2 q3 q4 q5 q6 q7 q8 : Pos} (hc : clW K d.at_ = d.val) (hb : errB K file x f = true) (hsup : PySem.W.nsIn K mainGlobals "super" = some none)
    (hat : d.at_ = (x, some ("__init__" : Str))) (hn : d.name = ("__init__" : Str)) (hq : d.qual = qual) (h1 : d.params = PySem.ErrX.eA a p1 p2) (h2 : d.body = PySem.ErrX.eB e a f q0 q1 q2 q3 q4 q5 q6 q7 q8) (h3 : d.scope = PySem.ErrX.eS a)
    (okE : (∃ p, e = .Name a p) ∨ ∃ m j p, e = .Constant (.str m) j p) (na : a ≠ "self" ∧ a ≠ "__class__" ∧ a ≠ "super" ∧ (a == ("__debug__" : Str)) = false)
    (bnd : ∀ (q : Str) (body : List Stmt) (doc pm : Value) (an : Option Addr) (cdv ct : Value) (cc : Addr) (p1 p2 : Pos) (s : Shared) (u v : Value), BindsTo s (PySem.W.ksFn "__init__" q (PySem.ErrX.eA a p1 p2) body (PySem.ErrX.eS a) .none .none doc pm an cdv ct cc) ⟨[u, v], []⟩ [("self", u), (a, v)])
    (hfile : P.main.file = file) (psup : (P.main.scope.names.lookup ("super" : Str)).isSome = false) (hpl : PySem.ErrX.CallsPlain e q0 q1 q2 q3) : PySem.ErrX.ErrTxt P K x qual (He.ga K x) (He.fAd K (x, some ("__init__" : Str))) a f e ∧ XfC K (He.ga K x) := by
  unfold errB at hb
  obtain ⟨b1, hb⟩ := He.ba hb
  obtain ⟨b2, hb⟩ := He.ba hb
  obtain ⟨b3, hb⟩ := He.ba hb
  obtain ⟨b4, hb⟩ := He.ba hb
  obtain ⟨b5, hb⟩ := He.ba hb
  obtain ⟨b6, hb⟩ := He.ba hb
  obtain ⟨b7, hb⟩ := He.ba hb
  obtain ⟨b8, hb⟩ := He.ba hb
  obtain ⟨b9, hb⟩ := He.ba hb
  obtain ⟨b10, hb⟩ := He.ba hb
  obtain ⟨b11, hb⟩ := He.ba hb
  obtain ⟨b12, b13⟩ := He.ba hb
  refine ⟨⟨okE, bnd, na, ?_, He.eqO_ok b3, He.eqO_ok b4, He.eqO_ok b5, of_decide_eq_true b6, b7, of_decide_eq_true b8, of_decide_eq_true b9, of_decide_eq_true b10, of_decide_eq_true b11, He.eqO_ok b12, hsup, psup, ?_⟩, xfB_ok b13⟩
  · unfold ecB at b1
    split at b1
    · rename_i dd cd sl ho
      split at b1
      · rename_i C' bm k0 k1 k2 k3 n k5 hm hs
        simp only [Bool.and_eq_true, beq_iff_eq, Bool.not_eq_true'] at b1
        obtain ⟨rfl, rfl, hdel, hdct, hve, hal⟩ := b1
        obtain ⟨nm, bs, mro, ns, qn, hd, sn, sub, ab, col, del⟩ := cd
        dsimp only at hm hdel hdct
        subst hm hdel hdct
        have hsl : sl = #[k0, k1, k2, k3, some (.builtin "ValueError.__new__"), k5] := by
          obtain ⟨l⟩ := sl
          simp only at hs
          rw [hs]
        subst hsl
        exact ⟨nm, qn, ns, bs, bm, sn, sub, ab, col, dd, k0, k1, k2, k3, k5, ho, hve, He.eqO_ok hal⟩
      · cases b1
    · cases b1
  · unfold efB at b2
    unfold clW at hc
    rw [hat] at hc
    cases q : K.lookup (He.fAd K (x, some ("__init__" : Str))) with
    | none => rw [q] at b2; cases b2
    | some o =>
      obtain ⟨oc, od, dt, osl⟩ := o
      rw [q] at b2 hc
      cases dt with
      | func fd =>
        obtain ⟨n1, n2, n3, n4, n5, n6, n7, n8, n9, n10, n11, n12, n13, n14, n15⟩ := fd
        have e2 : (some (n1, n2, n3, n4, n5, n6, [], n15) : He.FnW) = some (d.name, d.qual, d.params, .stmts d.body, d.scope, mainGlobals, [], builtinsNs) := hc
        simp only [Option.some.injEq, Prod.mk.injEq] at e2
        obtain ⟨g1, g2, g3, g4, g5, g6, _, g8⟩ := e2
        subst g1 g2 g3 g4 g5 g6 g8
        simp only at b2
        split at b2
        · rename_i n cc
          simp only [Bool.and_eq_true, beq_iff_eq] at b2
          obtain ⟨rfl, d1, d2, d3, d4, d5⟩ := b2
          cases n8 with
          | none =>
            cases n9 with
            | none =>
              unfold fileB at d5
              unfold cellB at d4
              split at d5
              · rename_i cda
                split at d5
                · rename_i u1 u2 vs u3 hl
                  split at d5
                  · rename_i f' tf hvs
                    split at d4
                    · rename_i w1 w2 D w3 hcc
                      have hD : D = He.ga K x := by simpa using d4
                      subst hD
                      subst hq
                      exact ⟨oc, od, n10, n11, n12, cda, n14, osl, cc, p1, p2, q0, q1, q2, q3, q4, q5, q6, q7, q8, u1, w1, u2, w2, u3, w3, vs, f', tf, by rw [hn, h1, h2, h3], d3, hl, hvs, by rw [hfile]; exact d5, hcc, hpl⟩
                    · cases d4
                  · cases d5
                · cases d5
              · cases d5
            | _ => cases d2
          | _ => cases d1
        · cases b2
      | _ => cases b2
end DL
namespace DL
open PySem PySem.Spec PyProof.Rows L2
theorem mt_nil {g : G} : MtOk g [] := fun q hq => by cases hq
theorem mt_cons {g : G} {c x : Str} {b : Bool} {C V : Addr} {r : List (Str × Str × Bool)} (gc : g.mg c = some (.ref C)) (gx : g.mg x = some (.ref V)) (e : PySem.W.exmOne g.K (.ref C) (.ref V) = some b) (h : MtOk g r) : MtOk g ((c, x, b) :: r) := fun q hq C' V' h1 h2 => by
  rcases List.mem_cons.mp hq with rfl | hq
  · have h1 : g.mg c = some (.ref C') := h1
    have h2 : g.mg x = some (.ref V') := h2
    rw [gc] at h1; rw [gx] at h2
    cases h1; cases h2
    exact e
  · exact h q hq C' V' h1 h2
def argOf : List Stmt → Expr
  | [.Expr (.Call _ [e] _ _) _, _] => e
  | _ => .Constant .none 0 ⟨0, 0, 0, 0⟩
end DL

namespace DL
open PySem PySem.Spec PyProof.Rows L2
/-! ### xs.index(x) -/
def ixF (p : D → Bool) : Nat → List D → Option Nat
  | _, [] => none
  | i, d :: ds => if p d then some i else ixF p (i + 1) ds
def ixP (p : PyData → Bool) : Nat → List PyData → Option Nat
  | _, [] => none
  | i, d :: ds => if p d then some i else ixP p (i + 1) ds
@[simp] def opIndex (x y : D) : Option D := match x with
  | .lst ds => if flatD y && ds.all flatD then (match ixF (fun z => eqF z y) 0 ds with | some j => some (.int (j : Nat)) | none => none) else
      match toPy y, toPys ds with
      | some p, some qs => if SeqAt.shaped p && SeqAt.shaped (.list qs) then (match ixP (fun z => PyData.eqv z p) 0 qs with | some j => some (.int (j : Nat)) | none => none) else none
      | _, _ => none
  | _ => none
theorem ixF_some {p : D → Bool} : ∀ {ds : List D} {i j : Nat}, ixF p i ds = some j → ∃ k z, j = i + k ∧ ds[k]? = some z ∧ p z = true ∧ ∀ m z', m < k → ds[m]? = some z' → p z' = false
  | d :: ds, i, j, h => by
    unfold ixF at h
    split at h
    · rename_i hp
      cases h
      exact ⟨0, d, rfl, rfl, hp, fun m z' hm => absurd hm (Nat.not_lt_zero _)⟩
    · rename_i hp
      obtain ⟨k, z, e, h1, h2, h3⟩ := ixF_some h
      refine ⟨k + 1, z, by omega, by simpa using h1, h2, fun m z' hm hz => ?_⟩
      cases m with
      | zero => simp at hz; subst hz; simpa using hp
      | succ m => exact h3 m z' (by omega) (by simpa using hz)
  | [], _, _, h => by cases h
theorem ixP_some {p : PyData → Bool} : ∀ {ds : List PyData} {i j : Nat}, ixP p i ds = some j → ∃ k z, j = i + k ∧ ds[k]? = some z ∧ p z = true ∧ ∀ m z', m < k → ds[m]? = some z' → p z' = false
  | d :: ds, i, j, h => by
    unfold ixP at h
    split at h
    · rename_i hp
      cases h
      exact ⟨0, d, rfl, rfl, hp, fun m z' hm => absurd hm (Nat.not_lt_zero _)⟩
    · rename_i hp
      obtain ⟨k, z, e, h1, h2, h3⟩ := ixP_some h
      refine ⟨k + 1, z, by omega, by simpa using h1, h2, fun m z' hm hz => ?_⟩
      cases m with
      | zero => simp at hz; subst hz; simpa using hp
      | succ m => exact h3 m z' (by omega) (by simpa using hz)
  | [], _, _, h => by cases h
def rIndexA (K : PySem.W.Frag) : V → List V → Hp → VK → Prop := fun x xs H Q => rIndex K x xs H Q ∨ rIndexD K x xs H Q
theorem mt_indexA {X : Cx} (hu : X.A.units + 65 < cLine) : MtR X "list.index" (rIndexA X.K) := by
  intro pins s σ H x xs v us Q I rx rxs h
  rcases h with h | h
  · exact mt_index pins s σ H x xs v us Q I rx rxs h
  · exact mt_indexD hu pins s σ H x xs v us Q I rx rxs h
section
variable {X : Cx} {g : G} {W : WX} {P : Par} {σ : L2.St} {H F : Hp} {st : DSt} {e : Expr} {f h : Den D}
theorem flat_hits {y : V} {e : D} (ry : Rv g F y e) (fe : flatD e = true) {vs : List V} {ds : List D} (r : Rl g F vs ds) (hf : ds.all flatD = true) {k : Nat} {z : D} (hz : ds[k]? = some z) (hp : eqF z e = true) (hno : ∀ m z', m < k → ds[m]? = some z' → eqF z' e = false) :
    ∃ w, vs[k]? = some w ∧ eqV w y = true ∧ ∀ (m : Nat) (w' : V), m < k → vs[m]? = some w' → eqV w' y = false := by
  obtain ⟨w, hw, rw'⟩ := r.get hz
  have fz : ∀ {m : Nat} {z' : D}, ds[m]? = some z' → flatD z' = true := fun hm => List.all_eq_true.mp hf _ (List.mem_of_getElem? hm)
  refine ⟨w, hw, by rw [eqF_rv rw' ry (fz hz) fe]; exact hp, fun m w' hm hw' => ?_⟩
  obtain ⟨z', hz', rz'⟩ := r.get' hw'
  rw [eqF_rv rz' ry (fz hz') fe]
  exact hno m z' hm hz'
theorem opIndex_ok {v u : V} {x y z : D} {Q : VK} (le : Same F H) (rx : Br g F H v x) (ry : Rv g F u y) (hz : opIndex x y = some z) (q : ∀ v, Rv g F v z → Q v H) : ∃ a vs, v = .ref a ∧ SqL g.K H a vs ∧ rIndexA g.K v [u] H Q := by
  unfold opIndex at hz
  split at hz
  · rename_i ds
    obtain ⟨a, vs, rfl, h1, r1⟩ := rx.lst le
    refine ⟨a, vs, rfl, sqL_of h1, ?_⟩
    split at hz
    · rename_i hf
      obtain ⟨f1, f2⟩ := Bool.and_eq_true_iff.mp hf
      split at hz
      · rename_i j hj
        cases hz
        obtain ⟨k, z, rfl, e1, e2, e3⟩ := ixF_some hj
        obtain ⟨w, hw, hh, hn⟩ := flat_hits ry f1 r1 f2 e1 e2 e3
        rw [Nat.zero_add] at q
        exact .inl ⟨a, vs, u, k, w, rfl, rfl, sqL_of h1, flat_rv ry f1, all_flat r1 f2, hw, hh, hn, q _ (.int _)⟩
      · cases hz
    · split at hz
      · rename_i p qs e1 e2
        split at hz
        · rename_i hs
          obtain ⟨s1, s2⟩ := Bool.and_eq_true_iff.mp hs
          split at hz
          · rename_i j hj
            cases hz
            obtain ⟨k, z, rfl, g1, g2, g3⟩ := ixP_some hj
            rw [Nat.zero_add] at q
            exact .inr ⟨a, u, p, qs, k, z, rfl, rfl, rx.dp le (by unfold toPy; rw [e2]), ry.dp le e1, s2, s1, g1, g2, g3, q _ (.int _)⟩
          · cases hz
        · cases hz
      · cases hz
  · cases hz
/-- what a receiver must be, before its argument is read -/
@[simp] def isL : D → Option Unit
  | .lst _ => some ()
  | _ => none
@[simp] def isT : D → Option Unit
  | .tup _ => some ()
  | _ => none
@[simp] def dIndex (f h : Den D) : Den D := bindD f fun x => bindD (liftO (isL x)) fun _ => bindD h fun y => liftO (opIndex x y)
@[simp] def dIndexN (i : Nat) (h : Den D) : Den D := bindD (dRd i) fun x => bindD (liftO (isL x)) fun _ => bindD h fun y => bindD (dRd i) fun x => liftO (opIndex x y)
theorem ev_index (he : PE X e (tBM g.K "list" (rIndexA g.K) (tE g W f) (tCons (tE g W h) tNil))) : PE X e (tE g W (dIndex f h)) := he.imp fun σ H Q ⟨P, F, st, s, o⟩ =>
  ⟨P, F, st, s, o.bind.imp fun x st1 H1 F1 le1 s1 o1 v rx => by
    obtain ⟨u0, hx, q⟩ := Out.lift o1.bind
    cases x with
    | lst ds =>
      obtain ⟨a, vs, rfl, h1, r1⟩ := (show Br g F1 H1 v (.lst ds) from .inl rx).lst s1.le
      refine ⟨.inl ⟨rfl, vs, sqL_of h1⟩, P, F1, st1, s1, Out.imp (Out.bind (q H1 F1 (Same.refl _) s1)) fun y st2 H2 F2 le2 s2 o2 u ry => ?_⟩
      obtain ⟨z, ez, q⟩ := o2.lift
      obtain ⟨_, _, _, _, fin⟩ := opIndex_ok s2.le (.inl (rx.mono le2)) ry ez (q H2 F2 (Same.refl _) s2)
      exact fin
    | _ => cases hx⟩
theorem ev_indexN {i : Nat} (he : PE X e (tBM g.K "list" (rIndexA g.K) (tVar i) (tCons (tE g W h) tNil))) : PE X e (tE g W (dIndexN i h)) := he.imp fun σ H Q ⟨P, F, st, s, o⟩ => by
  obtain ⟨v, x, hv, rx, o1⟩ := o.rd s
  obtain ⟨u0, hx, q⟩ := Out.lift o1.bind
  have o2 := q H F (Same.refl _) s
  cases x with
  | lst ds =>
    obtain ⟨a, vs, rfl, h1, r1⟩ := rx.lst s.le
    refine ⟨_, hv, .inl ⟨rfl, vs, sqL_of h1⟩, P, F, st, s, o2.bind.imp fun y st2 H2 F2 le2 s2 o3 u ry => ?_⟩
    obtain ⟨v', x', hv', rx', o4⟩ := o3.rd s2
    rw [hv] at hv'; cases hv'
    obtain ⟨z, ez, q⟩ := o4.lift
    obtain ⟨_, _, _, _, fin⟩ := opIndex_ok s2.le rx' ry ez (q H2 F2 (Same.refl _) s2)
    exact fin
  | _ => cases hx
/-! ### sorted -/
theorem vn_sorted : VN1 g (fun v => rSortedI g.K [v]) nSorted := by
  intro H F v d zs le rd hz Q q
  unfold nSorted at hz
  split at hz
  · rename_i ds
    split at hz
    · rename_i is hi
      cases hz
      have := intsOf_eq hi
      subst this
      obtain ⟨a, vs, rfl, h1, r1⟩ := rd.lst le
      have := r1.ints
      subst this
      refine ⟨a, is, rfl, sqL_of h1, fun ns' p hp hs hn => ?_⟩
      have e : ns' = sortI is := sorted_unique (hp.trans (sortI_perm is).symm) hs (sortI_sorted is)
      subst e
      exact q p _ hn (Rl.of_ints _)
    · cases hz
  · cases hz
  · cases hz
end
end DL

namespace DL
open PySem PySem.Spec PyProof.Rows L2
theorem room_s {k : Nat} {A : Around} (r : Room k A) {x : Option Value} : (A.mark x).units + 65 < cLine := by have := r.un; show A.units + 65 < _; omega
theorem room_s4 {k : Nat} {A : Around} (r : Room k A) {x : Option Value} : (A.mark x).units + 64 < cLine := by have := r.un; show A.units + 64 < _; omega
/-! ### equality of numbers, lists and tuples of them -/
mutual
def numD : Nat → D → Bool
  | _, .int _ => true
  | _, .non => true
  | k + 1, .lst xs => numDs k xs
  | k + 1, .tup xs => numDs k xs
  | _, _ => false
def numDs : Nat → List D → Bool
  | _, [] => true
  | k, x :: xs => numD k x && numDs k xs
end
theorem numDs_all {k : Nat} : ∀ {xs : List D}, numDs k xs = true ↔ ∀ x ∈ xs, numD k x = true
  | [] => by simp [numDs]
  | x :: xs => by simp [numDs, numDs_all (xs := xs)]
mutual
theorem num_py : ∀ {k : Nat} {x : D}, numD k x = true → ∃ p, toPy x = some p ∧ p.canLay0 = true ∧ p.depth ≤ k
  | k, .int i, _ => ⟨.int i, by simp [toPy], by simp [PyData.canLay0], by simp [PyData.depth]⟩
  | k, .non, _ => ⟨.none, by simp [toPy], by simp [PyData.canLay0], by simp [PyData.depth]⟩
  | k + 1, .lst xs, h => by
    obtain ⟨ps, e, h1, h2⟩ := nums_py (k := k) (xs := xs) (by simpa [numD] using h)
    exact ⟨.list ps, by simp [toPy, e], by simpa [PyData.canLay0] using h1, by simpa [PyData.depth] using h2⟩
  | k + 1, .tup xs, h => by
    obtain ⟨ps, e, h1, h2⟩ := nums_py (k := k) (xs := xs) (by simpa [numD] using h)
    exact ⟨.tuple ps, by simp [toPy, e], by simpa [PyData.canLay0] using h1, by simpa [PyData.depth] using h2⟩
  | 0, .lst xs, h => by simp [numD] at h
  | 0, .tup xs, h => by simp [numD] at h
  | k, .bl b, h => by cases k <;> simp [numD] at h
  | k, .str b, h => by cases k <;> simp [numD] at h
  | k, .ins _ _ _, h => by cases k <;> simp [numD] at h
  | k, .scr _, h => by cases k <;> simp [numD] at h
theorem nums_py : ∀ {k : Nat} {xs : List D}, numDs k xs = true → ∃ ps, toPys xs = some ps ∧ PyData.canLayAll0 ps = true ∧ PyData.depthAll ps ≤ k
  | k, [], _ => ⟨[], by simp [toPys], by simp [PyData.canLayAll0], by simp [PyData.depthAll]⟩
  | k, x :: xs, h => by
    simp only [numDs, Bool.and_eq_true] at h
    obtain ⟨p, e, h1, h2⟩ := num_py h.1
    obtain ⟨ps, es, h3, h4⟩ := nums_py h.2
    exact ⟨p :: ps, by simp [toPys, e, es], by simp [PyData.canLayAll0, h1, h3], by simp [PyData.depthAll]; omega⟩
end
mutual
theorem num_eqv : ∀ {k l : Nat} {x y : D} {p q : PyData}, numD k x = true → numD l y = true → toPy x = some p → toPy y = some q → (PyData.eqv p q = true ↔ x = y)
  | k, l, x, y, p, q, hx, hy, ex, ey => by
    cases x with
    | int i => cases y with
      | int j => simp [toPy] at ex ey; subst ex ey; simp [PyData.eqv]
      | non => simp [toPy] at ex ey; subst ex ey; simp [PyData.eqv]
      | lst ys => obtain ⟨q', e, _⟩ := num_py hy; simp only [toPy] at ex e ey; split at ey <;> cases ey; cases ex; simp [PyData.eqv]
      | tup ys => obtain ⟨q', e, _⟩ := num_py hy; simp only [toPy] at ex e ey; split at ey <;> cases ey; cases ex; simp [PyData.eqv]
      | _ => cases l <;> simp [numD] at hy
    | non => cases y with
      | int j => simp [toPy] at ex ey; subst ex ey; simp [PyData.eqv]
      | non => simp [toPy] at ex ey; subst ex ey; simp [PyData.eqv]
      | lst ys => simp only [toPy] at ex ey; split at ey <;> cases ey; cases ex; simp [PyData.eqv]
      | tup ys => simp only [toPy] at ex ey; split at ey <;> cases ey; cases ex; simp [PyData.eqv]
      | _ => cases l <;> simp [numD] at hy
    | lst xs =>
      cases k with
      | zero => simp [numD] at hx
      | succ k =>
        simp only [toPy] at ex
        split at ex
        · rename_i ps hps
          cases ex
          cases y with
          | lst ys =>
            cases l with
            | zero => simp [numD] at hy
            | succ l =>
              simp only [toPy] at ey
              split at ey
              · rename_i qs hqs
                cases ey
                have := nums_eqv (k := k) (l := l) (xs := xs) (ys := ys) (by simpa [numD] using hx) (by simpa [numD] using hy) hps hqs
                simp only [PyData.eqv, this, D.lst.injEq]
              · cases ey
          | int j => simp [toPy] at ey; subst ey; simp [PyData.eqv]
          | non => simp [toPy] at ey; subst ey; simp [PyData.eqv]
          | tup ys => simp only [toPy] at ey; split at ey <;> cases ey; simp [PyData.eqv]
          | _ => cases l <;> simp [numD] at hy
        · cases ex
    | tup xs =>
      cases k with
      | zero => simp [numD] at hx
      | succ k =>
        simp only [toPy] at ex
        split at ex
        · rename_i ps hps
          cases ex
          cases y with
          | tup ys =>
            cases l with
            | zero => simp [numD] at hy
            | succ l =>
              simp only [toPy] at ey
              split at ey
              · rename_i qs hqs
                cases ey
                have := nums_eqv (k := k) (l := l) (xs := xs) (ys := ys) (by simpa [numD] using hx) (by simpa [numD] using hy) hps hqs
                simp only [PyData.eqv, this, D.tup.injEq]
              · cases ey
          | int j => simp [toPy] at ey; subst ey; simp [PyData.eqv]
          | non => simp [toPy] at ey; subst ey; simp [PyData.eqv]
          | lst ys => simp only [toPy] at ey; split at ey <;> cases ey; simp [PyData.eqv]
          | _ => cases l <;> simp [numD] at hy
        · cases ex
    | _ => cases k <;> simp [numD] at hx
theorem nums_eqv : ∀ {k l : Nat} {xs ys : List D} {ps qs : List PyData}, numDs k xs = true → numDs l ys = true → toPys xs = some ps → toPys ys = some qs → (PyData.eqvAll ps qs = true ↔ xs = ys)
  | k, l, [], [], ps, qs, _, _, ex, ey => by simp [toPys] at ex ey; subst ex ey; simp [PyData.eqvAll]
  | k, l, [], y :: ys, ps, qs, _, _, ex, ey => by
    simp only [toPys] at ex ey
    split at ey
    · cases ex; cases ey; simp [PyData.eqvAll]
    · cases ey
  | k, l, x :: xs, [], ps, qs, _, _, ex, ey => by
    simp only [toPys] at ex ey
    split at ex
    · cases ex; cases ey; simp [PyData.eqvAll]
    · cases ex
  | k, l, x :: xs, y :: ys, ps, qs, hx, hy, ex, ey => by
    simp only [toPys] at ex ey
    simp only [numDs, Bool.and_eq_true] at hx hy
    split at ex
    · rename_i p ps' e1 e2
      split at ey
      · rename_i q qs' e3 e4
        cases ex; cases ey
        have h1 := num_eqv hx.1 hy.1 e1 e3
        have h2 := nums_eqv hx.2 hy.2 e2 e4
        simp [PyData.eqvAll, h1, h2]
      · cases ey
    · cases ex
end
open Classical in
theorem eqD_num {k : Nat} {x y : D} (hk : k ≤ 64) (hx : numD k x = true) (hy : numD k y = true) : eqD x y = some (decide (x = y)) := by
  obtain ⟨p, e1, c1, d1⟩ := num_py hx
  obtain ⟨q, e2, c2, d2⟩ := num_py hy
  have s1 : SeqAt.shaped p = true := by simp [SeqAt.shaped, c1]; omega
  have s2 : SeqAt.shaped q = true := by simp [SeqAt.shaped, c2]; omega
  have := num_eqv hx hy e1 e2
  simp only [eqD, e1, e2, s1, s2, Bool.and_self, if_true]
  congr 1
  by_cases h : x = y
  · simp [this.mpr h, h]
  · have : PyData.eqv p q = false := by simpa using fun z => h (this.mp z)
    simp [this, h]
@[simp] theorem ixN_nat (n j : Nat) : ixN n (j : Int) = if j < n then some j else none := by
  unfold ixN
  by_cases h : j < n
  · rw [if_pos (by omega), if_pos (by omega), if_pos h]; simp
  · rw [if_pos (by omega), if_neg (by omega), if_neg h]
@[simp] theorem atI_nat {α : Type} (xs : List α) (j : Nat) : atI xs (j : Int) = xs[j]? := by
  unfold atI
  rw [ixN_nat]
  by_cases h : j < xs.length
  · rw [if_pos h]; rfl
  · rw [if_neg h, List.getElem?_eq_none (by omega)]; rfl
@[simp] theorem big_val : big = 16777216 := rfl
/-! ### comprehensions of plain elements -/
theorem compGo_map {vs : List Nat} {t : Tg} {elt : Den D} {st0 : DSt} {φ : D → D} : ∀ {ds : List D}, (∀ d ∈ ds, ∃ st2 st3, setT t d st0 = some st2 ∧ elt st2 = .ok (φ d) st3 ∧ wipeD st3 vs = st0) → compGo vs t dYes elt ds st0 = .ok (ds.map φ) st0
  | [], _ => rfl
  | d :: ds, h => by
    obtain ⟨st2, st3, h1, h2, h3⟩ := h d List.mem_cons_self
    have ih := compGo_map (vs := vs) (t := t) (elt := elt) (st0 := st0) (φ := φ) (ds := ds) fun d hd => h d (List.mem_cons_of_mem _ hd)
    have hy : dYes st2 = .ok true st2 := rfl
    simp only [compGo, h1, hy, h2, h3, ih, List.map_cons]
theorem comp_map {vs : List Nat} {t : Tg} {fi : Den (List D)} {elt : Den D} {st st1 : DSt} {ds : List D} (φ : D → D) (h1 : fi st = .ok ds st1) (hl : ds.length ≤ big) (hp : vs.all (plainAt st1) = true)
    (he : ∀ d ∈ ds, ∃ st2 st3, setT t d (wipeD st1 vs) = some st2 ∧ elt st2 = .ok (φ d) st3 ∧ wipeD st3 vs = wipeD st1 vs) : dComp vs t fi dYes elt st = .ok (ds.map φ) (backD st1 (wipeD st1 vs) vs) := by
  simp only [dComp, bindD, h1, hl, hp, and_self, if_true, compGo_map he]
/-- a loop that goes on, over states of one kind -/
theorem loop_all {t : Tg} {body : DS} {I : DSt → Prop} : ∀ {ds : List D} {st : DSt}, I st → (∀ d ∈ ds, ∀ st, I st → ∃ st1 st2, setT t d st = some st1 ∧ body st1 = .ok .nx st2 ∧ I st2) → ∃ st', loop t body ds st = .ok .nx st' ∧ I st'
  | [], st, h, _ => ⟨st, rfl, h⟩
  | d :: ds, st, h, hb => by
    obtain ⟨st1, st2, h1, h2, h3⟩ := hb d List.mem_cons_self st h
    obtain ⟨st', h4, h5⟩ := loop_all h3 fun d hd => hb d (List.mem_cons_of_mem _ hd)
    exact ⟨st', by simp only [loop, h1, h2, h4], h5⟩
/-- a loop that may return v -/
theorem loop_ret {t : Tg} {body : DS} {I : DSt → Prop} {p : D → Bool} {v : D} : ∀ {ds : List D} {st : DSt}, I st → (∀ d ∈ ds, ∀ st, I st → ∃ st1 st2, setT t d st = some st1 ∧ I st2 ∧ body st1 = if p d = true then .ok .nx st2 else .ok (.ret v) st2) →
    ∃ st', I st' ∧ loop t body ds st = if ds.all p = true then .ok .nx st' else .ok (.ret v) st'
  | [], st, h, _ => ⟨st, h, rfl⟩
  | d :: ds, st, h, hb => by
    obtain ⟨st1, st2, h1, h2, h3⟩ := hb d List.mem_cons_self st h
    by_cases hp : p d = true
    · rw [if_pos hp] at h3
      obtain ⟨st', h4, h5⟩ := loop_ret h2 fun d hd => hb d (List.mem_cons_of_mem _ hd)
      refine ⟨st', h4, ?_⟩
      rw [← show ds.all p = (d :: ds).all p by simp [hp], ← h5]
      simp only [loop, h1, h3]
    · rw [if_neg hp] at h3
      refine ⟨st2, h2, ?_⟩
      rw [if_neg (by simp [hp])]
      simp only [loop, h1, h3]
/-- a loop with what it has made so far -/
theorem loop_acc {t : Tg} {body : DS} {α : Type} {I : α → DSt → Prop} {f : α → D → α} : ∀ {ds : List D} {a : α} {st : DSt}, I a st → (∀ a, ∀ d ∈ ds, ∀ st, I a st → ∃ st1 st2, setT t d st = some st1 ∧ body st1 = .ok .nx st2 ∧ I (f a d) st2) → ∃ st', loop t body ds st = .ok .nx st' ∧ I (ds.foldl f a) st'
  | [], a, st, h, _ => ⟨st, rfl, h⟩
  | d :: ds, a, st, h, hb => by
    obtain ⟨st1, st2, h1, h2, h3⟩ := hb a d List.mem_cons_self st h
    obtain ⟨st', h4, h5⟩ := loop_acc h3 fun a d hd => hb a d (List.mem_cons_of_mem _ hd)
    exact ⟨st', by simp only [loop, h1, h2, h4], h5⟩
end DL

/-! max, min, sorted of a tuple of ints -/
namespace PySem
namespace TupX
open PySem.Calls PyProof.Rows
section
variable {prog : Program} {w : World} {A : Around} {E : Value → Shared → Prop} {s : Shared} {l : Addr} {xs : Array (Int × Tok)}
theorem iter_tup {Q : Value → Shared → Prop} (hl : s.heap.IsTuple l (intItems xs))
    (h : ∀ s₂ : Shared, s₂ = { s with heap := s.heap.push { cls := .type "tuple_iterator", data := .fields #[.ref l, .int 0 0] } } →
      (s₂.heap.IsTupleIter s.heap.objs.size l 0 ∧ s₂.heap.IsTuple l (intItems xs)) → (∀ b ∈ [s.heap.objs.size, l], b < s₂.heap.objs.size) → l ≠ s.heap.objs.size → Q (.ref s.heap.objs.size) s₂) :
    wpAny (model prog w) A (pyIter (.ref l)) Q E s := by
  have old : l < s.heap.objs.size := by obtain ⟨_, e, _⟩ := hl; exact Heap.lt_size e
  refine wpAny_pyIter_tuple hl (h _ rfl ⟨⟨_, Heap.get?_push_size _ rfl, rfl, rfl⟩, hl.push _⟩ (fun b hb => ?_) (Nat.ne_of_lt old))
  show b < (s.heap.push _).objs.size
  rw [Heap.size_push]
  have hb : b = s.heap.objs.size ∨ b = l := by simpa using hb
  rcases hb with rfl | rfl
  · exact Nat.lt_succ_self _
  · exact Nat.lt_succ_of_lt old
theorem old_kept {h' : Heap} (hk : ∀ b o, b ∉ [s.heap.objs.size] → (s.heap.push { cls := .type "tuple_iterator", data := .fields #[.ref l, .int 0 0] }).get? b = some o → h'.get? b = some o) :
    ∀ b o, s.heap.get? b = some o → h'.get? b = some o := fun b o e => by
  refine hk b o (fun hm => ?_) (Heap.get?_push_of_some _ e)
  have hm : b = s.heap.objs.size := by simpa using hm
  exact absurd (hm ▸ Heap.lt_size e) (Nat.lt_irrefl _)
theorem max_tup {Q : Value → Shared → Prop} (hh : A.handled = none) (hl : s.heap.IsTuple l (intItems xs)) (hne : 0 < xs.size)
    (h : ∀ v h' tk, (intItems xs)[argBest (fun i j => decide (numAt xs i > numAt xs j)) (xs.size - 1)]? = some v → (∀ b o, s.heap.get? b = some o → h'.get? b = some o) → Q v { s with heap := h', toks := tk }) :
    wpAny (model prog w) A (call (.builtin "max") [.ref l]) Q E s := by
  refine call_max_walk (iter_tup hl fun s₂ e st hfp hlI => ?_)
  subst e
  refine ⟨_, _, _, _, _, _, _, rfl, Walks.tuple (A := A.in1) hh _ l hlI (intItems xs), st, hfp, by simpa [intItems] using hne, CmpOf.ints_gt (numAt xs) (fun _ _ => intItems_at), fun v h' tk hP hk => ?_⟩
  exact h v h' tk (by simpa [intItems] using hP) (old_kept hk)
theorem min_tup {Q : Value → Shared → Prop} (hh : A.handled = none) (hl : s.heap.IsTuple l (intItems xs)) (hne : 0 < xs.size)
    (h : ∀ v h' tk, (intItems xs)[argBest (fun i j => decide (numAt xs i < numAt xs j)) (xs.size - 1)]? = some v → (∀ b o, s.heap.get? b = some o → h'.get? b = some o) → Q v { s with heap := h', toks := tk }) :
    wpAny (model prog w) A (call (.builtin "min") [.ref l]) Q E s := by
  refine call_min_walk (iter_tup hl fun s₂ e st hfp hlI => ?_)
  subst e
  refine ⟨_, _, _, _, _, _, _, rfl, Walks.tuple (A := A.in1) hh _ l hlI (intItems xs), st, hfp, by simpa [intItems] using hne, CmpOf.ints_lt (numAt xs) (fun _ _ => intItems_at), fun v h' tk hP hk => ?_⟩
  exact h v h' tk (by simpa [intItems] using hP) (old_kept hk)
end
end TupX
end PySem
namespace L2
open PySem PySem.Spec PyProof.Rows
section
variable {X : Cx}
def rMaxT (K : PySem.W.Frag) : List V → Hp → VK → Prop := fun vs H Q => ∃ (a : Addr) (ns : List Int), vs = [V.ref a] ∧ SqT K H a (ns.map V.int) ∧ 0 < ns.length ∧ ∀ m, m ∈ ns → (∀ y, y ∈ ns → y ≤ m) → Q (.int m) H
def rMinT (K : PySem.W.Frag) : List V → Hp → VK → Prop := fun vs H Q => ∃ (a : Addr) (ns : List Int), vs = [V.ref a] ∧ SqT K H a (ns.map V.int) ∧ 0 < ns.length ∧ ∀ m, m ∈ ns → (∀ y, y ∈ ns → m ≤ y) → Q (.int m) H
theorem max_rawT {prog : Program} {w : World} {A : Around} {E : Value → Shared → Prop} {s : Shared} {l : Addr} {its : List Value} {ns : List Int} {Q : Value → Shared → Prop} (hh : A.handled = none) (hl : s.heap.IsTuple l its.toArray) (hi : IntsAre its ns) (hne : 0 < ns.length)
    (h : ∀ h' tk m t', (∀ b o, s.heap.get? b = some o → h'.get? b = some o) → m ∈ ns → (∀ a, a ∈ ns → a ≤ m) → Q (.int m t') { s with heap := h', toks := tk }) : wpAny (model prog w) A (call (.builtin "max") [.ref l]) Q E s := by
  obtain ⟨ys, e⟩ := hi.allInts.items
  have hn : numsOf (intItems ys).toList = ns := by rw [← e]; exact hi.numsOf
  rw [nums_intItems] at hn
  subst hn
  rw [e] at hl
  have pos : 0 < ys.size := by simpa using hne
  refine PySem.TupX.max_tup hh hl pos fun v h' tk hv hk => ?_
  obtain ⟨t, rfl⟩ := intItems_at hv
  obtain ⟨h1, h2⟩ := argBest_gt (numAt ys) (ys.size - 1)
  refine h h' tk _ t hk ?_ fun a ha => ?_
  · rw [numAt_eq]; exact PySem.getD_mem (by rw [List.length_map, Array.length_toList]; omega)
  · obtain ⟨j, hj, rfl⟩ := mem_getD ha
    rw [List.length_map, Array.length_toList] at hj
    rw [← numAt_eq]; exact h2 j (by omega)
theorem min_rawT {prog : Program} {w : World} {A : Around} {E : Value → Shared → Prop} {s : Shared} {l : Addr} {its : List Value} {ns : List Int} {Q : Value → Shared → Prop} (hh : A.handled = none) (hl : s.heap.IsTuple l its.toArray) (hi : IntsAre its ns) (hne : 0 < ns.length)
    (h : ∀ h' tk m t', (∀ b o, s.heap.get? b = some o → h'.get? b = some o) → m ∈ ns → (∀ a, a ∈ ns → m ≤ a) → Q (.int m t') { s with heap := h', toks := tk }) : wpAny (model prog w) A (call (.builtin "min") [.ref l]) Q E s := by
  obtain ⟨ys, e⟩ := hi.allInts.items
  have hn : numsOf (intItems ys).toList = ns := by rw [← e]; exact hi.numsOf
  rw [nums_intItems] at hn
  subst hn
  rw [e] at hl
  have pos : 0 < ys.size := by simpa using hne
  refine PySem.TupX.min_tup hh hl pos fun v h' tk hv hk => ?_
  obtain ⟨t, rfl⟩ := intItems_at hv
  obtain ⟨h1, h2⟩ := argBest_lt (numAt ys) (ys.size - 1)
  refine h h' tk _ t hk ?_ fun a ha => ?_
  · rw [numAt_eq]; exact PySem.getD_mem (by rw [List.length_map, Array.length_toList]; omega)
  · obtain ⟨j, hj, rfl⟩ := mem_getD ha
    rw [List.length_map, Array.length_toList] at hj
    rw [← numAt_eq]; exact h2 j (by omega)
def rMaxA (K : PySem.W.Frag) : List V → Hp → VK → Prop := fun vs H Q => rMax K vs H Q ∨ rMaxT K vs H Q
def rMinA (K : PySem.W.Frag) : List V → Hp → VK → Prop := fun vs H Q => rMin K vs H Q ∨ rMinT K vs H Q
theorem cr_maxA (hc : X.calm = true) : CallR X (.builtin "max") (rMaxA X.K) := by
  intro pins s σ H vs us Q I r h
  rcases h with h | ⟨a, ns, rfl, hs, hne, q⟩
  · exact cr_max hc pins s σ H vs us Q I r h
  · obtain ⟨its, rv, pl, _⟩ := I.tuple hs
    rw [Vals.ref1 r]
    exact max_rawT (I.ok.hd hc) (show s.heap.IsTuple a its.toArray from pl) rv.ints hne fun h' tk m t' hk h1 h2 => ⟨.int _, H, I.kept hk, ⟨_, rfl⟩, q m h1 h2⟩
theorem cr_minA (hc : X.calm = true) : CallR X (.builtin "min") (rMinA X.K) := by
  intro pins s σ H vs us Q I r h
  rcases h with h | ⟨a, ns, rfl, hs, hne, q⟩
  · exact cr_min hc pins s σ H vs us Q I r h
  · obtain ⟨its, rv, pl, _⟩ := I.tuple hs
    rw [Vals.ref1 r]
    exact min_rawT (I.ok.hd hc) (show s.heap.IsTuple a its.toArray from pl) rv.ints hne fun h' tk m t' hk h1 h2 => ⟨.int _, H, I.kept hk, ⟨_, rfl⟩, q m h1 h2⟩
end
end L2
namespace DL
open PySem PySem.Spec PyProof.Rows L2
section
variable {g : G}
@[simp] def onIntsT {α : Type} (f : List Int → Option α) : D → Option α
  | .lst ds => match intsOf ds with | some is => f is | none => none
  | .tup ds => match intsOf ds with | some is => f is | none => none
  | _ => none
@[simp] def opMinA : D → Option D := onIntsT fun is => if is.isEmpty then none else some (.int (minL is))
@[simp] def opMaxA : D → Option D := onIntsT fun is => if is.isEmpty then none else some (.int (maxL is))
theorem onIntsT_some {α : Type} {H F : Hp} {v : V} {f : List Int → Option α} {d : D} {z : α} (l : Same F H) (rd : Br g F H v d) (h : onIntsT f d = some z) : ∃ a is, v = .ref a ∧ (SqL g.K H a (is.map V.int) ∨ SqT g.K H a (is.map V.int)) ∧ f is = some z := by
  unfold onIntsT at h
  split at h
  · split at h
    · rename_i is hi
      have := intsOf_eq hi
      subst this
      obtain ⟨a, vs, rfl, h1, r1⟩ := rd.lst l
      have := r1.ints
      subst this
      exact ⟨a, is, rfl, .inl (sqL_of h1), h⟩
    · cases h
  · split at h
    · rename_i is hi
      have := intsOf_eq hi
      subst this
      obtain ⟨a, vs, rfl, h1, r1⟩ := rd.tup l
      have := r1.ints
      subst this
      exact ⟨a, is, rfl, .inr h1, h⟩
    · cases h
  · cases h
theorem vo_minA : VOC g (rMinA g.K) opMinA := by
  intro H F v d z l rd hz Q q
  obtain ⟨a, is, rfl, hs, e⟩ := onIntsT_some l rd hz
  split at e
  · cases e
  · rename_i hne
    cases e
    have hne : is ≠ [] := by simpa using hne
    obtain ⟨m1, m2⟩ := minL_spec hne
    have fin : ∀ m, m ∈ is → (∀ y, y ∈ is → m ≤ y) → Q (.int m) H := fun m h1 h2 => by
      have : m = minL is := Int.le_antisymm (h2 _ m1) (m2 _ h1)
      subst this
      exact q _ _ _ (Grow.refl l) (.int _)
    rcases hs with hs | hs
    · exact .inl ⟨a, is, rfl, hs, List.length_pos_iff.mpr hne, fin⟩
    · exact .inr ⟨a, is, rfl, hs, List.length_pos_iff.mpr hne, fin⟩
theorem vo_maxA : VOC g (rMaxA g.K) opMaxA := by
  intro H F v d z l rd hz Q q
  obtain ⟨a, is, rfl, hs, e⟩ := onIntsT_some l rd hz
  split at e
  · cases e
  · rename_i hne
    cases e
    have hne : is ≠ [] := by simpa using hne
    obtain ⟨m1, m2⟩ := maxL_spec hne
    have fin : ∀ m, m ∈ is → (∀ y, y ∈ is → y ≤ m) → Q (.int m) H := fun m h1 h2 => by
      have : m = maxL is := Int.le_antisymm (m2 _ h1) (h2 _ m1)
      subst this
      exact q _ _ _ (Grow.refl l) (.int _)
    rcases hs with hs | hs
    · exact .inl ⟨a, is, rfl, hs, List.length_pos_iff.mpr hne, fin⟩
    · exact .inr ⟨a, is, rfl, hs, List.length_pos_iff.mpr hne, fin⟩
end
end DL

namespace DL
open PySem PySem.Spec PyProof.Rows L2
/-! ### a look: all lists stand still meanwhile, the answer holds no list -/
mutual
def nol : D → Bool
  | .lst _ => false
  | .scr _ => false
  | .tup xs => nols xs
  | .ins _ _ xs => nols xs
  | _ => true
def nols : List D → Bool
  | [] => true
  | x :: xs => nol x && nols xs
end
def frzS : Slot → Slot
  | .ow ds => .sh (.lst ds)
  | .rf _ ds => .sh (.lst ds)
  | .o2 dss => .sh (.lst (dss.map .lst))
  | .oi _ _ _ _ => .no
  | s => s
@[simp] def dPeek (f : Den D) : Den D := fun st => match f (st.map frzS) with
  | .ok d _ => if nol d then .ok d st else .stuck
  | _ => .stuck
section
variable {X : Cx} {g : G} {W : WX} {P : Par} {σ : L2.St} {H F : Hp} {st : DSt} {e : Expr} {f h : Den D}
theorem sqT_at {K : PySem.W.Frag} {F F' : Hp} {a : Addr} {xs : List V} (e : ∀ x o, F x = some o → (∀ ys, o ≠ .lst ys) → F' x = some o) (h : SqT K F a xs) : SqT K F' a xs := by
  rcases h with (h | ⟨o, h⟩) | h
  · exact .inl (.inl (e _ _ h fun ys z => by cases z))
  · exact .inl (.inr ⟨o, e _ _ h fun ys z => by cases z⟩)
  · exact .inr h
theorem knT_at {K : PySem.W.Frag} {F F' : Hp} {a : Addr} (e : ∀ x o, F x = some o → (∀ ys, o ≠ .lst ys) → F' x = some o) (h : KnT K F a) : KnT K F' a := by
  rcases h with ⟨o, u, h, k⟩ | h
  · exact .inl ⟨o, u, e _ _ h (fun ys z => by cases z), k⟩
  · exact .inr h
mutual
theorem Rv.still {F F' : Hp} (e : ∀ x o, F x = some o → (∀ ys, o ≠ .lst ys) → F' x = some o) : ∀ {v : V} {d : D}, Rv g F v d → nol d = true → Rv g F' v d
  | _, _, .non, _ => .non
  | _, _, .bl b, _ => .bl b
  | _, _, .int b, _ => .int b
  | _, _, .str b, _ => .str b
  | _, _, .lst _ _, h => by simp [nol] at h
  | _, _, .tup q k r, h => .tup (sqT_at e q) (fun z => knT_at e (k z)) (Rl.still e r (by simpa [nol] using h))
  | _, _, .ins q m l r, h => .ins (e _ _ q fun ys z => by cases z) m l (Rl.still e r (by simpa [nol] using h))
  | _, _, .scr _, h => by simp [nol] at h
theorem Rl.still {F F' : Hp} (e : ∀ x o, F x = some o → (∀ ys, o ≠ .lst ys) → F' x = some o) : ∀ {vs : List V} {ds : List D}, Rl g F vs ds → nols ds = true → Rl g F' vs ds
  | _, _, .nil, _ => .nil
  | _, _, .cons r t, h => by
    simp only [nols, Bool.and_eq_true] at h
    exact .cons (Rv.still e r h.1) (Rl.still e t h.2)
end
def isLst : Option HO → Bool
  | some (.lst _) => true
  | _ => false
theorem SR.still (s : SR g P σ H F st) : ∃ F1, Same F F1 ∧ SR g ⟨P.B, H, fun a => H a ≠ none ∧ F1 a = none⟩ σ H F1 (st.map frzS) ∧
    ∀ (H' F' : Hp), Same H H' → Same F1 F' → Same F' H' → (∀ a, H a ≠ none → F1 a = none → F' a = none) → ∃ F2, SR g P σ H' F2 st ∧ Same F F2 ∧ ∀ x o, F' x = some o → (∀ ys, o ≠ .lst ys) → F2 x = some o := by
  obtain ⟨O, c⟩ := s
  let A : Addr → Bool := fun x => (O x).isSome && isLst (H x)
  let F1 : Hp := fun x => if A x = true then H x else F x
  have fin : ∀ x i vs, O x = some i → H x = some (.lst vs) → F1 x = H x := fun x i vs hx hl => by
    have : A x = true := by simp [A, hx, hl, isLst]
    show (if A x = true then H x else F x) = H x
    rw [if_pos this]
  have fA : ∀ x, A x = true → F x = none ∧ ∃ vs, H x = some (.lst vs) := fun x hx => by
    simp only [A, Bool.and_eq_true] at hx
    obtain ⟨h1, h2⟩ := hx
    cases e : O x with
    | none => rw [e] at h1; cases h1
    | some i =>
      refine ⟨(c.oo x i e).1, ?_⟩
      unfold isLst at h2
      split at h2
      · rename_i vs hv; exact ⟨vs, hv⟩
      · cases h2
  have fout : ∀ x, A x ≠ true → F1 x = F x := fun x hx => if_neg hx
  have sf : Same F F1 := fun x o e => by
    by_cases hx : A x = true
    · rw [(fA x hx).1] at e; cases e
    · rw [fout x hx]; exact e
  refine ⟨F1, sf, ⟨fun _ => none, fun x o e => ?_, Same.refl _, (fun _ _ e => nomatch e), fun a h => ⟨h.2, h.1⟩, by rw [List.length_map]; exact c.len, fun i sl ov e1 e2 => ?_⟩, fun H' F' hh hf hfh hn => ?_⟩
  · by_cases hx : A x = true
    · have e : F1 x = some o := e
      rw [show F1 x = H x from if_pos hx] at e; exact e
    · rw [fout x hx] at e; exact c.le x o e
  · rw [List.getElem?_map] at e1
    cases es : st[i]? with
    | none => rw [es] at e1; cases e1
    | some s0 =>
      rw [es] at e1
      cases e1
      have q := c.sl i s0 ov es e2
      cases s0 with
      | no => trivial
      | sh d => obtain ⟨v, e, r⟩ := q; exact ⟨v, e, r.mono sf⟩
      | ow ds => obtain ⟨a, vs, e, o, n, h1, r⟩ := q; exact ⟨_, e, .lst (by rw [fin a i _ o h1]; exact h1) (r.mono sf)⟩
      | rf k ds => obtain ⟨a, vs, e, b, o, h1, r⟩ := q; exact ⟨_, e, .lst (by rw [fin a i _ o h1]; exact h1) (r.mono sf)⟩
      | oi k c ns ds => trivial
      | o2 dss =>
        obtain ⟨a, bs, e, o, n, h1, nd, na, l, r⟩ := q
        refine ⟨_, e, .lst (vs := bs.map V.ref) (by rw [fin a i _ o h1]; exact h1) (Rl.of_get (by simp [l]) fun j v d q1 q2 => ?_)⟩
        rw [List.getElem?_map] at q1 q2
        cases hb : bs[j]? with
        | none => rw [hb] at q1; cases q1
        | some b =>
          cases hd : dss[j]? with
          | none => rw [hd] at q2; cases q2
          | some ds =>
            rw [hb] at q1; rw [hd] at q2
            cases q1; cases q2
            obtain ⟨o', _, vs, h2, r2⟩ := r j b ds hb hd
            exact .lst (by rw [fin b i _ o' h2]; exact h2) (r2.mono sf)
      | xc c nm x => obtain ⟨a, C, d, v, e1, e2, e3, h1, r⟩ := q; exact ⟨a, C, d, v, e1, e2, e3, sf _ _ h1, r.mono sf⟩
  · let F2 : Hp := fun x => if A x = true then none else F' x
    have f2in : ∀ x, A x = true → F2 x = none := fun x hx => if_pos hx
    have f2out : ∀ x, A x ≠ true → F2 x = F' x := fun x hx => if_neg hx
    have s2 : Same F F2 := fun x o e => by
      by_cases hx : A x = true
      · rw [(fA x hx).1] at e; cases e
      · rw [f2out x hx]; exact hf x o (sf x o e)
    refine ⟨F2, ⟨O, c.grow ⟨hh, s2, fun x o e => ?_, fun a h1 h2 => ?_⟩⟩, s2, fun x o e hl => ?_⟩
    · by_cases hx : A x = true
      · rw [f2in x hx] at e; cases e
      · rw [f2out x hx] at e; exact hfh x o e
    · by_cases hx : A a = true
      · exact f2in a hx
      · rw [f2out a hx]; exact hn a h1 (by rw [fout a hx]; exact h2)
    · by_cases hx : A x = true
      · obtain ⟨vs, hv⟩ := (fA x hx).2
        have : F1 x = some (.lst vs) := by rw [show F1 x = H x from if_pos hx]; exact hv
        rw [hf x _ this] at e
        exact absurd (Option.some.inj e).symm (hl vs)
      · rw [f2out x hx]; exact e
theorem ev_peek (he : PE X e (tE g W f)) : PE X e (tE g W (dPeek f)) := he.imp fun σ H Q ⟨P, F, st, s, o⟩ => by
  obtain ⟨F1, sf, s1, back⟩ := s.still
  refine ⟨_, F1, _, s1, ?_⟩
  revert o
  simp only [dPeek]
  cases f (st.map frzS) with
  | ok d st' =>
    simp only
    split
    · rename_i hd
      intro o H' F' le s' v rv
      obtain ⟨_, c'⟩ := s'
      obtain ⟨F2, s2, le2, keep⟩ := back H' F' c'.rr le c'.le fun a h1 h2 => (c'.no a ⟨h1, h2⟩).1
      exact o H' F2 le2 s2 v (rv.still keep hd)
    · exact fun o => o.elim
  | exn c fs st' => exact fun o => o.elim
  | stuck => exact fun o => o.elim
end
end DL

namespace DL
open PySem PySem.Spec PyProof.Rows L2
/-! ### comprehensions with two clauses -/
def goB (vs vs1 : List Nat) (t : Tg) (test : Den Bool) (t1 : Tg) (fi1 : Den (List D)) (test1 : Den Bool) (elt : Den D) : List D → Den (List D)
  | [] => retD []
  | d :: ds => fun st => match setT t d st with
    | none => .stuck
    | some st1 => match test st1 with
      | .ok true st2 => match fi1 st2 with
        | .ok ds1 st3 => match compGo vs1 t1 test1 elt ds1 (wipeD st3 vs1) with
          | .ok ys st4 => match goB vs vs1 t test t1 fi1 test1 elt ds (wipeD st4 vs) with
            | .ok zs st5 => .ok (ys ++ zs) st5
            | _ => .stuck
          | _ => .stuck
        | _ => .stuck
      | .ok false st2 => goB vs vs1 t test t1 fi1 test1 elt ds (wipeD st2 vs)
      | _ => .stuck
def dCompB (vs vs1 : List Nat) (t : Tg) (fi : Den (List D)) (test : Den Bool) (t1 : Tg) (fi1 : Den (List D)) (test1 : Den Bool) (elt : Den D) : Den (List D) := bindD fi fun ds => fun st =>
  if vs.all (plainAt st) = true then
    match goB vs vs1 t test t1 fi1 test1 elt ds (wipeD st vs) with
    | .ok ys st' => if ys.length ≤ big then .ok ys (backD st st' vs) else .stuck
    | _ => .stuck
  else .stuck
section
variable {X : Cx} {g : G} {W : WX} {P : Par} {σ : L2.St} {H F : Hp} {st : DSt} {e : Expr}
theorem wipe_len (σ : L2.St) (vs : List Nat) : (L2.wipe σ vs).length = σ.length := by rw [L2.wipe_length]
theorem wipe_in {σ : L2.St} {i : Nat} : ∀ {vs : List Nat}, i ∈ vs → (L2.wipe σ vs)[i]? = (σ[i]?).map fun _ => none
  | v :: vs, h => by
    by_cases hi : i ∈ vs
    · by_cases hv : i = v
      · subst hv
        rw [← wipe_set (x := none) (σ := σ) (vs := i :: vs) (i := i) List.mem_cons_self]
        have e : ∀ (σ' : L2.St), (L2.wipe σ' (i :: vs)) = (L2.wipe σ' vs).set i none := fun σ' => by simp [L2.wipe]
        rw [e]
        by_cases hl : i < σ.length
        · rw [List.getElem?_set_self (by rw [wipe_len, List.length_set]; exact hl), List.getElem?_eq_getElem hl]; rfl
        · rw [List.getElem?_eq_none (by rw [List.length_set, wipe_len, List.length_set]; omega), List.getElem?_eq_none (by omega)]; rfl
      · have e : (L2.wipe σ (v :: vs)) = (L2.wipe σ vs).set v none := by simp [L2.wipe]
        rw [e, List.getElem?_set_ne (Ne.symm hv), wipe_in hi]
    · have hv : i = v := by rcases List.mem_cons.mp h with e | e; exact e; exact absurd e hi
      subst hv
      have e : (L2.wipe σ (i :: vs)) = (L2.wipe σ vs).set i none := by simp [L2.wipe]
      rw [e]
      by_cases hl : i < σ.length
      · rw [List.getElem?_set_self (by rw [wipe_len]; exact hl), List.getElem?_eq_getElem hl]; rfl
      · rw [List.getElem?_eq_none (by rw [List.length_set, wipe_len]; omega), List.getElem?_eq_none (by omega)]; rfl
  | [], h => by cases h
theorem wipe_sub {σ : L2.St} {vs vs1 : List Nat} (h : ∀ i ∈ vs1, i ∈ vs) : L2.wipe (L2.wipe σ vs1) vs = L2.wipe σ vs := by
  refine List.ext_getElem? fun i => ?_
  by_cases hi : i ∈ vs
  · rw [wipe_in hi, wipe_in hi]
    by_cases hj : i ∈ vs1
    · rw [wipe_in hj]; cases σ[i]? <;> rfl
    · rw [wipe_out hj]
  · rw [wipe_out hi, wipe_out hi, wipe_out fun hj => hi (h i hj)]
theorem compB_imp {vs vs1 : List Nat} {t t1 : Tg} {fi fi1 : Den (List D)} {test test1 : Den Bool} {elt : Den D} {Q : VK} (hv : ∀ i ∈ t.is, i ∈ vs) (hv1 : ∀ i ∈ t1.is, i ∈ vs1) (hsub : ∀ i ∈ vs1, i ∈ vs)
    (q : tN g W (dCompB vs vs1 t fi test t1 fi1 test1 elt) σ H Q) : tLc2 (tI g W fi) (tG g t) (tT g WN test) (tI g WN fi1) (tG g t1) (tT g WN test1) (tE g WN elt) vs vs1 σ H Q := by
  obtain ⟨P, F, st, s, o⟩ := q
  refine ⟨P, F, st, s, o.bind.imp fun ds st1 H1 F1 le1 s1 o1 J wk D hD => ?_⟩
  split at o1
  · rename_i hpl
    revert o1
    cases hall : goB vs vs1 t test t1 fi1 test1 elt ds (wipeD st1 vs) with
    | exn c fs stE => exact fun o1 => o1.elim
    | stuck => exact fun o1 => o1.elim
    | ok tot stE =>
      simp only
      split
      · rename_i hbig
        intro o1
        have lenOf : ∀ {P' : Par} {H' F' : Hp} {st' : DSt}, SR g P' (L2.wipe σ vs) H' F' st' → st'.length = st1.length := fun {P' H' F' st'} s' => by
          have a := s'.len
          have b := s1.len
          rw [wipe_len] at a
          omega
        -- what is left behind i turns
        let Nxt : Nat → Hp → Prop := fun i H => ∃ F' st' accV acc, Same F1 F' ∧ SR g (gd P D accV) (L2.wipe σ vs) H F' st' ∧ Rl g F' accV acc ∧ ∃ zs, goB vs vs1 t test t1 fi1 test1 elt (ds.drop i) st' = .ok zs stE ∧ acc ++ zs = tot
        refine ⟨fun i m H => m = ds.length - i ∧ i ≤ ds.length ∧ Nxt i H, ⟨ds.length, by simp, Nat.zero_le _, F1, wipeD st1 vs, [], [], Same.refl _, ((s1.wipe vs).guard (o := .lst []) hD), .nil, tot, by simpa using hall, rfl⟩, ?_⟩
        rintro i m H2 ⟨rfl, hi, F', st', accV, acc, le, s', racc, zs, hgo, htot⟩
        by_cases hlt : i < ds.length
        · obtain ⟨d0, hd0⟩ : ∃ d, ds[i]? = some d := ⟨ds[i], List.getElem?_eq_getElem hlt⟩
          have hdr : ds.drop i = d0 :: ds.drop (i + 1) := by
            rw [List.drop_eq_getElem_cons hlt]
            have := List.getElem?_eq_getElem hlt
            rw [hd0] at this; rw [← Option.some.inj this]
          rw [hdr] at hgo
          refine .inr ⟨wk.go i H2 (le.trans s'.le) hlt, Nxt (i + 1), fun H' nx => ⟨ds.length - (i + 1), by omega, rfl, hlt, nx⟩, fun x H' y => ?_⟩
          obtain ⟨rfl, d, hd, rd⟩ := wk.yld i H2 x H' (le.trans s'.le) hlt y
          rw [hd0] at hd; cases hd
          unfold goB at hgo
          cases hset : setT t d0 st' with
          | none => rw [hset] at hgo; cases hgo
          | some st2 =>
            rw [hset] at hgo
            refine ⟨gd P D accV, F', st', d0, s', rd.mono le, st2, hset, fun xs s2 => ⟨by rw [wipe_setσ hv, wipe_wipe], ?_⟩⟩
            refine ⟨gd P D accV, F', st2, s2, ?_⟩
            simp only at hgo
            have wp : ∀ {P' : Par} {H' F' : Hp} {st3 : DSt}, SR g P' (setσ t.is xs (L2.wipe σ vs)) H' F' st3 → SR g P' (L2.wipe σ vs) H' F' (wipeD st3 vs) := fun {P' H' F' st3} s3 => by
              have := s3.wipe vs
              rw [wipe_setσ hv, wipe_wipe] at this
              exact this
            revert hgo
            cases test st2 with
            | exn c fs st3 => intro hgo; cases hgo
            | stuck => intro hgo; cases hgo
            | ok b st3 =>
              intro hgo H3 F3 le3 s3
              cases b with
              | false =>
                rw [if_neg Bool.false_ne_true]
                exact ⟨F3, wipeD st3 vs, accV, acc, le.trans le3, wp s3, racc.mono le3, zs, hgo, htot⟩
              | true =>
                rw [if_pos rfl]
                refine ⟨gd P D accV, F3, st3, s3, ?_⟩
                simp only at hgo
                revert hgo
                cases fi1 st3 with
                | exn c fs st4 => intro hgo; cases hgo
                | stuck => intro hgo; cases hgo
                | ok ds1 st4 =>
                  intro hgo H4 F4 le4 s4 J1 wk1
                  simp only at hgo
                  revert hgo
                  cases hin : compGo vs1 t1 test1 elt ds1 (wipeD st4 vs1) with
                  | exn c fs st5 => intro hgo; cases hgo
                  | stuck => intro hgo; cases hgo
                  | ok ys st5 =>
                    intro hgo
                    simp only at hgo
                    revert hgo
                    cases hrest : goB vs vs1 t test t1 fi1 test1 elt (ds.drop (i + 1)) (wipeD st5 vs) with
                    | exn c fs st6 => intro hgo; cases hgo
                    | stuck => intro hgo; cases hgo
                    | ok zs' st6 =>
                      intro hgo
                      simp only [Res.ok.injEq] at hgo
                      obtain ⟨rfl, rfl⟩ := hgo
                      have leA : Same F1 F4 := (le.trans le3).trans le4
                      let σ2 : L2.St := setσ t.is xs (L2.wipe σ vs)
                      have w2 : L2.wipe σ2 vs = L2.wipe σ vs := by show L2.wipe (setσ t.is xs (L2.wipe σ vs)) vs = _; rw [wipe_setσ hv, wipe_wipe]
                      let In : Nat → Hp → Prop := fun j H => ∃ F' st' accV acc, Same F4 F' ∧ SR g (gd P D accV) (L2.wipe σ2 vs1) H F' st' ∧ Rl g F' accV acc ∧ ∃ ys', compGo vs1 t1 test1 elt (ds1.drop j) st' = .ok ys' st5 ∧ acc ++ (ys' ++ zs') = tot
                      refine ⟨fun j k H => k = ds1.length - j ∧ j ≤ ds1.length ∧ In j H, ⟨ds1.length, by simp, Nat.zero_le _, F4, wipeD st4 vs1, accV, acc, Same.refl _, s4.wipe vs1, (racc.mono le3).mono le4, ys, by simpa using hin, htot⟩, ?_⟩
                      rintro j k H5 ⟨rfl, hj, F5, st7, accV5, acc5, le5, s5, racc5, ys', hgo5, htot5⟩
                      by_cases hlt1 : j < ds1.length
                      · obtain ⟨d1, hd1⟩ : ∃ d, ds1[j]? = some d := ⟨ds1[j], List.getElem?_eq_getElem hlt1⟩
                        have hdr1 : ds1.drop j = d1 :: ds1.drop (j + 1) := by
                          rw [List.drop_eq_getElem_cons hlt1]
                          have := List.getElem?_eq_getElem hlt1
                          rw [hd1] at this; rw [← Option.some.inj this]
                        rw [hdr1] at hgo5
                        refine .inr ⟨wk1.go j H5 (le5.trans s5.le) hlt1, In (j + 1), fun H' nx => ⟨ds1.length - (j + 1), by omega, rfl, hlt1, nx⟩, fun x1 H' y1 => ?_⟩
                        obtain ⟨rfl, d, hd, rd1⟩ := wk1.yld j H5 x1 H' (le5.trans s5.le) hlt1 y1
                        rw [hd1] at hd; cases hd
                        unfold compGo at hgo5
                        cases hset1 : setT t1 d1 st7 with
                        | none => rw [hset1] at hgo5; cases hgo5
                        | some st8 =>
                          rw [hset1] at hgo5
                          refine ⟨gd P D accV5, F5, st7, d1, s5, rd1.mono le5, st8, hset1, fun xs1 s8 => ⟨by rw [wipe_setσ hv1, wipe_wipe], ?_⟩⟩
                          refine ⟨gd P D accV5, F5, st8, s8, ?_⟩
                          simp only at hgo5
                          have wp1 : ∀ {P' : Par} {H' F' : Hp} {st3 : DSt}, SR g P' (setσ t1.is xs1 (L2.wipe σ2 vs1)) H' F' st3 → SR g P' (L2.wipe σ2 vs1) H' F' (wipeD st3 vs1) := fun {P' H' F' st3} s3 => by
                            have := s3.wipe vs1
                            rw [wipe_setσ hv1, wipe_wipe] at this
                            exact this
                          revert hgo5
                          cases test1 st8 with
                          | exn c fs st9 => intro hgo; cases hgo
                          | stuck => intro hgo; cases hgo
                          | ok b1 st9 =>
                            intro hgo5 H9 F9 le9 s9
                            cases b1 with
                            | false =>
                              rw [if_neg Bool.false_ne_true]
                              exact ⟨F9, wipeD st9 vs1, accV5, acc5, le5.trans le9, wp1 s9, racc5.mono le9, ys', hgo5, htot5⟩
                            | true =>
                              rw [if_pos rfl]
                              refine ⟨gd P D accV5, F9, st9, s9, ?_⟩
                              simp only at hgo5
                              revert hgo5
                              cases elt st9 with
                              | exn c fs st10 => intro hgo; cases hgo
                              | stuck => intro hgo; cases hgo
                              | ok y st10 =>
                                intro hgo5 H10 F10 le10 s10 v rv
                                simp only at hgo5
                                revert hgo5
                                cases hr : compGo vs1 t1 test1 elt (ds1.drop (j + 1)) (wipeD st10 vs1) with
                                | exn c fs st11 => intro hgo; cases hgo
                                | stuck => intro hgo; cases hgo
                                | ok ys2 st11 =>
                                  intro hgo5
                                  simp only [Res.ok.injEq] at hgo5
                                  obtain ⟨rfl, rfl⟩ := hgo5
                                  have hD10 := s10.guard_at
                                  have hb : big = sizeLine := big_eq
                                  have hacc : acc5.length < big := by
                                    rw [← htot5] at hbig
                                    simp only [List.length_append, List.length_cons] at hbig
                                    omega
                                  refine ⟨accV5, hD10, by rw [racc5.length, ← hb]; exact hacc, F10, wipeD st10 vs1, accV5 ++ [v], acc5 ++ [y], (le5.trans le9).trans le10, (wp1 s10).reguard, (racc5.mono (le9.trans le10)).append (.cons rv .nil), ys2, hr, ?_⟩
                                  rw [← htot5]; simp
                      · have ej : j = ds1.length := by omega
                        subst ej
                        rw [List.drop_length] at hgo5
                        cases hgo5
                        refine .inl ⟨wk1.stop H5 (le5.trans s5.le), F5, wipeD st5 vs, accV5, acc5, leA.trans le5, ?_, racc5, zs', hrest, by simpa using htot5⟩
                        have := s5.wipe vs
                        rw [wipe_sub hsub, w2] at this
                        exact this
        · have ei : i = ds.length := by omega
          subst ei
          rw [List.drop_length] at hgo
          cases hgo
          refine .inl ⟨wk.stop H2 (le.trans s'.le), ?_⟩
          rw [List.append_nil] at htot
          subst htot
          exact o1 H2 F' D accV le (s'.unguard s1 hD le (lenOf s') hpl) s'.guard_at racc
      · exact fun o1 => o1.elim
  · exact o1.elim
theorem ev_compB {vs vs1 : List Nat} {t t1 : Tg} {fi fi1 : Den (List D)} {test test1 : Den Bool} {elt : Den D} (he : PE X e (tLc2 (tI g W fi) (tG g t) (tT g WN test) (tI g WN fi1) (tG g t1) (tT g WN test1) (tE g WN elt) vs vs1))
    (hv : ∀ i ∈ t.is, i ∈ vs := by decide) (hv1 : ∀ i ∈ t1.is, i ∈ vs1 := by decide) (hs : ∀ i ∈ vs1, i ∈ vs := by decide) : PE X e (tN g W (dCompB vs vs1 t fi test t1 fi1 test1 elt)) := he.imp fun _ _ _ q => compB_imp hv hv1 hs q
theorem es_ownLc2 {s : Stmt} {i : Nat} {vs vs1 : List Nat} {t t1 : Tg} {fi fi1 : Den (List D)} {test test1 : Den Bool} {elt : Den D} (he : PS X s (tAsg (tLc2 (tI g W fi) (tG g t) (tT g WN test) (tI g WN fi1) (tG g t1) (tT g WN test1) (tE g WN elt) vs vs1) (gName i)))
    (hv : ∀ i ∈ t.is, i ∈ vs := by decide) (hv1 : ∀ i ∈ t1.is, i ∈ vs1 := by decide) (hs : ∀ i ∈ vs1, i ∈ vs := by decide) : PS X s (tS g W (sOwn i (dCompB vs vs1 t fi test t1 fi1 test1 elt))) :=
  es_own (he.imp fun D σ H q => compB_imp hv hv1 hs q)
end
end DL

namespace DL
open PySem PySem.Spec PyProof.Rows L2
/-! ### x[i][j], x a list of lists or data; the second index is a look -/
@[simp] def dIxx (i : Nat) (e1 e2 : Den D) : Den D := fun st => match st[i]? with
  | some (.o2 _) => bindD (dO2 i) (fun _ => bindD e1 fun k1 => bindD (dO2 i) fun dss => bindD (liftO (rowAt dss k1)) fun r => bindD (dPeek e2) fun k2 => liftO (match rowAt r.2 k2 with | some q => some q.2 | none => none)) st
  | _ => dOp2 opIx (dOp2n opIx i e1) e2 st
section
variable {X : Cx} {g : G} {W : WX} {P : Par} {σ : L2.St} {H F : Hp} {st : DSt} {e : Expr} {f h : Den D}
theorem dPeek_ok {f : Den D} {st st' : DSt} {d : D} (h : dPeek f st = .ok d st') : st' = st ∧ nol d = true ∧ ∃ st2, f (st.map frzS) = .ok d st2 := by
  simp only [dPeek] at h
  split at h
  · rename_i d' st2 e
    split at h
    · rename_i hd
      cases h
      exact ⟨rfl, hd, st2, e⟩
    · cases h
  · cases h
theorem dPeek_nox {f : Den D} {st st' : DSt} {c : Str} {fs : List (Str × D)} : dPeek f st ≠ .exn c fs st' := by
  intro h
  simp only [dPeek] at h
  split at h
  · split at h <;> cases h
  · cases h
theorem ev_ixx {i : Nat} (he : PE X e (tOp (rIx g.K) (tOp (rIx g.K) (tVar i) (tE g W f)) (tE g W h))) : PE X e (tE g W (dIxx i f h)) := he.imp fun σ H Q ⟨P, F, st, s, o⟩ => by
  by_cases ho : ∃ dss, st[i]? = some (.o2 dss)
  · obtain ⟨dss0, hst0⟩ := ho
    have o : Out g W P σ F (bindD (dO2 i) (fun _ => bindD f fun k1 => bindD (dO2 i) fun dss => bindD (liftO (rowAt dss k1)) fun r => bindD (dPeek h) fun k2 => liftO (match rowAt r.2 k2 with | some q => some q.2 | none => none)) st) fun d _ H' F' => ∀ v, Rv g F' v d → Q v H' := by
      unfold dIxx at o
      rw [hst0] at o
      exact o
    obtain ⟨_, hst, o0⟩ := dO2_ok o
    obtain ⟨a0, bs0, hv0, _⟩ := s.hide hst0
    refine ⟨_, hv0, P, F, st, s, o0.bind.imp fun k1 st1 H1 F1 le1 s1 o1 v1 rv1 => ?_⟩
    obtain ⟨dss, bs, b, vs, r, z1, hst1, rfl, hd, hb, hbv, rvs, hsq, hat, _, o2, _⟩ := row2 s1 hv0 rv1 o1
    refine .inl ⟨a0, bs.map V.ref, z1, .ref b, rfl, rfl, hsq, hat, ?_⟩
    -- the second index: nothing is changed meanwhile
    obtain ⟨F2, sf2, s2, back⟩ := s1.still
    refine ⟨_, F2, _, s2, ?_⟩
    cases hp : dPeek h st1 with
    | exn c fs st' => exact (dPeek_nox hp).elim
    | stuck => unfold bindD at o2; rw [hp] at o2; exact o2.elim
    | ok k2 st' =>
      obtain ⟨rfl, hk, st2, e2⟩ := dPeek_ok hp
      unfold bindD at o2
      rw [hp] at o2
      rw [e2]
      intro H' F' le s' v2 rv2
      obtain ⟨_, c'⟩ := s'
      obtain ⟨F3, s3, le3, keep⟩ := back H' F' c'.rr le c'.le fun a h1 h2 => (c'.no a ⟨h1, h2⟩).1
      obtain ⟨z, ez, q⟩ := Out.lift o2
      split at ez
      · rename_i q2 hq2
        cases ez
        obtain ⟨z2, rfl, hj2, hd2⟩ := rowAt_some hq2
        cases rv2
        obtain ⟨w, hw, rw'⟩ := rvs.get hd2
        refine .inl ⟨b, vs, z2, w, rfl, rfl, sqL_of (c'.rr _ _ hbv), atI_of (by rw [rvs.length]; exact hj2) hw, ?_⟩
        exact q H' F3 le3 s3 w (rw'.mono le3)
      · cases ez
  · have o : Out g W P σ F (dOp2 opIx (dOp2n opIx i f) h st) fun d _ H' F' => ∀ v, Rv g F' v d → Q v H' := by
      unfold dIxx at o
      split at o
      · rename_i dss hd
        exact absurd ⟨dss, hd⟩ ho
      · exact o
    unfold dOp2 dOp2n at o
    have o := o.bind
    obtain ⟨v, d, hv, _, o1⟩ := o.rd s
    refine ⟨v, hv, P, F, st, s, o1.bind.imp fun y st2 H2 F2 le2 s2 o2 u ry => ?_⟩
    obtain ⟨v', d', hv', rx, o3⟩ := o2.rd s2
    rw [hv] at hv'; cases hv'
    obtain ⟨z, ez, q⟩ := Out.lift o3
    refine vo_ix H2 F2 v u d' y z s2.le rx (.inl ry) ez _ fun w H3 F3 gr rw' => ?_
    have o4 := q H3 F3 gr.f (s2.grow gr)
    exact ⟨P, F3, st2, s2.grow gr, Out.imp (Out.bind o4) fun y2 st4 H4 F4 le4 s4 o5 u2 ry2 => fin2 vo_ix s4 (.inl (rw'.mono le4)) (.inl ry2) o5⟩
end
end DL

/-! The typed layer: a def's meaning over data is a plain function over numbers, truth values, lists and pairs. -/
namespace DL
open PySem L2
def M.bind {α β : Type} : M α → (α → M β) → M β
  | .ok a, k => k a
  | .exn c fs, _ => .exn c fs
  | .stuck, _ => .stuck
@[simp] theorem bind_ok {α β : Type} (a : α) (k : α → M β) : (M.ok a).bind k = k a := rfl
@[simp] theorem bind_exn {α β : Type} (c : Str) (fs : List (Str × D)) (k : α → M β) : (M.exn c fs : M α).bind k = .exn c fs := rfl
@[simp] theorem bind_stuck {α β : Type} (k : α → M β) : (M.stuck : M α).bind k = .stuck := rfl
theorem bind_bind {α β γ : Type} (a : M α) (f : α → M β) (g : β → M γ) : (a.bind f).bind g = a.bind fun x => (f x).bind g := by cases a <;> rfl
theorem bind_pure {α : Type} (a : M α) : (a.bind fun x => .ok x) = a := by cases a <;> rfl
def oM {α : Type} : Option α → M α
  | some a => .ok a
  | none => .stuck
@[simp] theorem oM_some {α : Type} (a : α) : oM (some a) = .ok a := rfl
@[simp] theorem oM_none {α : Type} : oM (none : Option α) = .stuck := rfl
/-! ### kinds of data -/
@[reducible] def eD (d : D) : D := d
@[reducible] def eI (i : Int) : D := .int i
@[reducible] def eB (b : Bool) : D := .bl b
@[reducible] def eS (s : Str) : D := .str s
@[reducible] def eU (_ : Unit) : D := .non
def eL {α : Type} (e : α → D) (xs : List α) : D := .lst (xs.map e)
def eT {α : Type} (e : α → D) (xs : List α) : D := .tup (xs.map e)
def eP2 {α β : Type} (a : α → D) (b : β → D) (x : α × β) : D := .tup [a x.1, b x.2]
def eP3 {α β γ : Type} (a : α → D) (b : β → D) (c : γ → D) (x : α × β × γ) : D := .tup [a x.1, b x.2.1, c x.2.2]
def eP4 {α β γ δ : Type} (a : α → D) (b : β → D) (c : γ → D) (d : δ → D) (x : α × β × γ × δ) : D := .tup [a x.1, b x.2.1, c x.2.2.1, d x.2.2.2]
def eP5 {α β γ δ ε : Type} (a : α → D) (b : β → D) (c : γ → D) (d : δ → D) (e : ε → D) (x : α × β × γ × δ × ε) : D := .tup [a x.1, b x.2.1, c x.2.2.1, d x.2.2.2.1, e x.2.2.2.2]
def eO {α : Type} (e : α → D) : Option α → D
  | none => .non
  | some a => e a
def eC2 {α β : Type} (c n1 n2 : Str) (a : α → D) (b : β → D) (x : α × β) : D := .ins c [n1, n2] [a x.1, b x.2]
def eC3 {α β γ : Type} (c n1 n2 n3 : Str) (a : α → D) (b : β → D) (d : γ → D) (x : α × β × γ) : D := .ins c [n1, n2, n3] [a x.1, b x.2.1, d x.2.2]
/-! ### expressions -/
/-- f's value at st is v of what o gives; then st' stands -/
def RE {α δ : Type} (f : Den δ) (st : DSt) (o : M α) (v : α → δ) (st' : DSt) : Prop := match o with
  | .ok c => f st = .ok (v c) st'
  | .exn c fs => ∃ s, f st = .exn c fs s
  | .stuck => True
def RV {δ : Type} (f : Den δ) (st : DSt) (x : δ) (st' : DSt) : Prop := f st = .ok x st'
def OP {α δ : Type} (x : Option δ) (o : M α) (v : α → δ) : Prop := match o with
  | .ok c => x = some (v c)
  | .exn _ _ => False
  | .stuck => True
def DM {α : Type} (m : M D) (o : M α) (v : α → D) : Prop := match o with
  | .ok c => m = .ok (v c)
  | .exn c fs => m = .exn c fs
  | .stuck => True
section
variable {α β δ ε : Type} {st st1 st2 st' : DSt} {v : α → δ} {w : β → ε}
theorem re_bindP {a : Den δ} {x : δ} {k : δ → Den ε} {o : M β} (h1 : RV a st x st1) (h2 : RE (k x) st1 o w st2) : RE (bindD a k) st o w st2 := by
  have e : bindD a k st = k x st1 := by unfold bindD; rw [h1]
  cases o with
  | ok c => rw [RE, e]; exact h2
  | exn c fs => obtain ⟨s, h⟩ := h2; exact ⟨s, by rw [e]; exact h⟩
  | stuck => trivial
theorem re_bindG {a : Den δ} {o : M α} {k : δ → Den ε} {o2 : α → M β} (h1 : RE a st o v st1) (h2 : ∀ c, RE (k (v c)) st1 (o2 c) w st2) : RE (bindD a k) st (o.bind o2) w st2 := by
  cases o with
  | ok c => exact re_bindP (show RV a st (v c) st1 from h1) (h2 c)
  | exn c fs => obtain ⟨s, h⟩ := h1; exact ⟨s, by unfold bindD; rw [h]⟩
  | stuck => trivial
theorem re_assoc {ζ : Type} {a : Den δ} {g : δ → Den ε} {k : ε → Den ζ} {o : M β} {w : β → ζ} (h : RE (bindD a fun x => bindD (g x) k) st o w st2) : RE (bindD (bindD a g) k) st o w st2 := by
  have e : bindD (bindD a g) k st = bindD a (fun x => bindD (g x) k) st := by unfold bindD; cases a st <;> rfl
  cases o with
  | ok c => rw [RE, e]; exact h
  | exn c fs => obtain ⟨s, h⟩ := h; exact ⟨s, by rw [e]; exact h⟩
  | stuck => trivial
theorem re_rv {f : Den ε} {c : β} (h : RV f st (w c) st2) : RE f st (.ok c) w st2 := h
theorem rv_bind {a : Den δ} {k : δ → Den ε} {x : δ} {y : ε} (h1 : RV a st x st1) (h2 : RV (k x) st1 y st2) : RV (bindD a k) st y st2 := by
  unfold RV bindD; rw [h1]; exact h2
theorem rv_assoc {ζ : Type} {a : Den δ} {g : δ → Den ε} {k : ε → Den ζ} {y : ζ} (h : RV (bindD a fun x => bindD (g x) k) st y st2) : RV (bindD (bindD a g) k) st y st2 := by
  have e : bindD (bindD a g) k st = bindD a (fun x => bindD (g x) k) st := by unfold bindD; cases a st <;> rfl
  rw [RV, e]; exact h
theorem rv_ret {x : δ} : RV (retD x) st x st := rfl
theorem rv_lift {x : Option δ} {y : δ} (h : x = some y) : RV (liftO x) st y st := by unfold RV liftO; rw [h]
theorem re_lift {x : Option δ} {o : M α} (h : OP x o v) : RE (liftO x) st o v st := by
  cases o with
  | ok c => exact rv_lift h
  | exn c fs => exact h.elim
  | stuck => trivial
theorem re_liftM {m : M D} {o : M α} {v : α → D} (h : DM m o v) : RE (liftM' m) st o v st := by
  cases o with
  | ok c => unfold RE liftM'; rw [show m = _ from h]
  | exn c fs => exact ⟨st, by unfold liftM'; rw [show m = _ from h]⟩
  | stuck => trivial
theorem rv_eq {f : Den δ} {x y : δ} (h : RV f st x st2) (e : x = y) : RV f st y st2 := e ▸ h
theorem re_map {γ : Type} {f : Den δ} {o : M α} {g : α → γ} {w : γ → δ} (h : RE f st o v st2) (e : ∀ c, v c = w (g c)) : RE f st (o.bind fun c => .ok (g c)) w st2 := by
  cases o with
  | ok c => show f st = _; rw [← e]; exact h
  | exn c fs => exact h
  | stuck => trivial
theorem re_co {f : Den δ} {o : M α} {w : α → δ} (h : RE f st o v st2) (e : ∀ c, v c = w c) : RE f st o w st2 := by
  cases o with
  | ok c => show f st = _; rw [← e]; exact h
  | exn c fs => exact h
  | stuck => trivial
/-- a value that is there, or not -/
theorem re_get {f : Den D} {x : Option α} {e : α → D} (h : RV f st (eO e x) st2) : RE f st (oM x) e st2 := by
  cases x with
  | some a => exact h
  | none => trivial
theorem re_getG {f : Den D} {o : M (Option α)} {e : α → D} (h : RE f st o (eO e) st2) : RE f st (o.bind oM) e st2 := by
  cases o with
  | ok x => cases x with
    | some a => exact h
    | none => trivial
  | exn c fs => exact h
  | stuck => trivial
theorem re_ite {a b : Den δ} {x : Bool} {o1 o2 : M α} (h1 : x = true → RE a st o1 v st2) (h2 : x = false → RE b st o2 v st2) : RE (if x = true then a else b) st (if x = true then o1 else o2) v st2 := by
  cases x with
  | true => exact h1 rfl
  | false => exact h2 rfl
theorem rv_ite {a b : Den δ} {x : Bool} {u z : δ} (h1 : x = true → RV a st u st2) (h2 : x = false → RV b st z st2) : RV (if x = true then a else b) st (if x = true then u else z) st2 := by
  cases x with
  | true => exact h1 rfl
  | false => exact h2 rfl
theorem rv_and {b : Den Bool} {x y : Bool} (h : x = true → RV b st y st) : RV (if x = true then b else retD false) st (x && y) st := by
  cases x with
  | true => exact h rfl
  | false => rfl
theorem rv_or {b : Den Bool} {x y : Bool} (h : x = false → RV b st y st) : RV (if x = true then retD true else b) st (x || y) st := by
  cases x with
  | true => rfl
  | false => exact h rfl
end
/-! ### a name's content -/
section
variable {α : Type} {st : DSt} {e : α → D} {i : Nat}
theorem rv_var {d : D} (h : st[i]? = some (.sh d)) : RV (dVar i) st d st := by unfold RV dVar; rw [h]
theorem rv_frz {ds : List D} (h : st[i]? = some (.ow ds)) : RV (dVar i) st (.lst ds) (st.set i (.sh (.lst ds))) := by unfold RV dVar; rw [h]
theorem rv_frz2 {dss : List (List D)} (h : st[i]? = some (.o2 dss)) : RV (dVar i) st (.lst (dss.map .lst)) (st.set i (.sh (.lst (dss.map .lst)))) := by unfold RV dVar; rw [h]
theorem rv_frzL {xss : List (List α)} (h : st[i]? = some (.o2 (xss.map (List.map e)))) : RV (dVar i) st (eL (eL e) xss) (st.set i (.sh (eL (eL e) xss))) := by
  have q : eL (eL e) xss = .lst ((xss.map (List.map e)).map .lst) := by simp [eL, List.map_map, Function.comp_def]
  rw [q]; exact rv_frz2 h
theorem rv_rd {d : D} (h : st[i]? = some (.sh d)) : RV (dRd i) st d st := by unfold RV dRd; rw [h]
theorem rv_rdO {ds : List D} (h : st[i]? = some (.ow ds)) : RV (dRd i) st (.lst ds) st := by unfold RV dRd; rw [h]
theorem rv_rdR {ds : List D} {k : Nat} (h : st[i]? = some (.rf k ds)) : RV (dRd i) st (.lst ds) st := by unfold RV dRd; rw [h]
theorem rv_ow {ds : List D} (h : st[i]? = some (.ow ds)) : RV (dOw i) st ds st := by unfold RV dOw; rw [h]
theorem rv_owR {ds : List D} {k : Nat} (h : st[i]? = some (.rf k ds)) : RV (dOw i) st ds st := by unfold RV dOw; rw [h]
theorem rv_setOw {ds ys : List D} (h : st[i]? = some (.ow ds)) : RV (setOw i ys) st () (st.set i (.ow ys)) := by unfold RV setOw; rw [h]
theorem rv_setR {ds ys : List D} {k : Nat} (h : st[i]? = some (.rf k ds)) : RV (setOw i ys) st () (st.set i (.rf k ys)) := by unfold RV setOw; rw [h]
end
/-! ### equality -/
structure Py {α : Type} (e : α → D) (k : Nat) where
  py : α → PyData
  to : ∀ a, toPy (e a) = some (py a)
  lay : ∀ a, (py a).canLay0 = true
  dep : ∀ a, (py a).depth ≤ k
  eqv : ∀ a b, PyData.eqv (py a) (py b) = true ↔ a = b
def pyI : Py eI 0 := ⟨.int, fun _ => by simp [eI, toPy], fun _ => by simp [PyData.canLay0], fun _ => by simp [PyData.depth], fun a b => by simp [PyData.eqv]⟩
def pyB : Py eB 0 := ⟨.bool, fun _ => by simp [eB, toPy], fun _ => by simp [PyData.canLay0], fun _ => by simp [PyData.depth], fun a b => by simp [PyData.eqv]⟩
def pyU : Py eU 0 := ⟨fun _ => .none, fun _ => by simp [eU, toPy], fun _ => by simp [PyData.canLay0], fun _ => by simp [PyData.depth], fun a b => by simp [PyData.eqv]⟩
section
variable {α β γ δ : Type} {a : α → D} {b : β → D} {c : γ → D} {d : δ → D} {k l m n : Nat}
theorem toPys_map (p : Py a k) : ∀ xs : List α, toPys (xs.map a) = some (xs.map p.py)
  | [] => by simp [toPys]
  | x :: xs => by simp [toPys, p.to, toPys_map p xs]
theorem layAll_map (p : Py a k) : ∀ xs : List α, PyData.canLayAll0 (xs.map p.py) = true
  | [] => by simp [PyData.canLayAll0]
  | x :: xs => by simp [PyData.canLayAll0, p.lay, layAll_map p xs]
theorem depAll_map (p : Py a k) : ∀ xs : List α, PyData.depthAll (xs.map p.py) ≤ k
  | [] => by simp [PyData.depthAll]
  | x :: xs => by have := p.dep x; have := depAll_map p xs; simp [PyData.depthAll]; omega
theorem eqvAll_map (p : Py a k) : ∀ xs ys : List α, PyData.eqvAll (xs.map p.py) (ys.map p.py) = true ↔ xs = ys
  | [], [] => by simp [PyData.eqvAll]
  | [], y :: ys => by simp [PyData.eqvAll]
  | x :: xs, [] => by simp [PyData.eqvAll]
  | x :: xs, y :: ys => by simp [PyData.eqvAll, p.eqv, eqvAll_map p xs ys]
def pyL (p : Py a k) : Py (eL a) (k + 1) := ⟨fun xs => .list (xs.map p.py), fun xs => by simp [eL, toPy, toPys_map p], fun xs => by simp [PyData.canLay0, layAll_map p], fun xs => by have := depAll_map p xs; simp [PyData.depth]; omega, fun xs ys => by simp [PyData.eqv, eqvAll_map p]⟩
def pyT (p : Py a k) : Py (eT a) (k + 1) := ⟨fun xs => .tuple (xs.map p.py), fun xs => by simp [eT, toPy, toPys_map p], fun xs => by simp [PyData.canLay0, layAll_map p], fun xs => by have := depAll_map p xs; simp [PyData.depth]; omega, fun xs ys => by simp [PyData.eqv, eqvAll_map p]⟩
def pyP2 (p : Py a k) (q : Py b l) : Py (eP2 a b) (k + l + 1) := ⟨fun x => .tuple [p.py x.1, q.py x.2], fun x => by simp [eP2, toPy, toPys, p.to, q.to], fun x => by simp [PyData.canLay0, PyData.canLayAll0, p.lay, q.lay],
  fun x => by have := p.dep x.1; have := q.dep x.2; simp [PyData.depth, PyData.depthAll]; omega, fun x y => by obtain ⟨x1, x2⟩ := x; obtain ⟨y1, y2⟩ := y; simp [PyData.eqv, PyData.eqvAll, p.eqv, q.eqv]⟩
def pyP3 (p : Py a k) (q : Py b l) (r : Py c m) : Py (eP3 a b c) (k + l + m + 1) := ⟨fun x => .tuple [p.py x.1, q.py x.2.1, r.py x.2.2], fun x => by simp [eP3, toPy, toPys, p.to, q.to, r.to], fun x => by simp [PyData.canLay0, PyData.canLayAll0, p.lay, q.lay, r.lay],
  fun x => by have := p.dep x.1; have := q.dep x.2.1; have := r.dep x.2.2; simp [PyData.depth, PyData.depthAll]; omega, fun x y => by obtain ⟨x1, x2, x3⟩ := x; obtain ⟨y1, y2, y3⟩ := y; simp [PyData.eqv, PyData.eqvAll, p.eqv, q.eqv, r.eqv]⟩
def pyP4 (p : Py a k) (q : Py b l) (r : Py c m) (s : Py d n) : Py (eP4 a b c d) (k + l + m + n + 1) := ⟨fun x => .tuple [p.py x.1, q.py x.2.1, r.py x.2.2.1, s.py x.2.2.2], fun x => by simp [eP4, toPy, toPys, p.to, q.to, r.to, s.to], fun x => by simp [PyData.canLay0, PyData.canLayAll0, p.lay, q.lay, r.lay, s.lay],
  fun x => by have := p.dep x.1; have := q.dep x.2.1; have := r.dep x.2.2.1; have := s.dep x.2.2.2; simp [PyData.depth, PyData.depthAll]; omega, fun x y => by obtain ⟨x1, x2, x3, x4⟩ := x; obtain ⟨y1, y2, y3, y4⟩ := y; simp [PyData.eqv, PyData.eqvAll, p.eqv, q.eqv, r.eqv, s.eqv]⟩
/-- .. or None -/
def pyO (p : Py a k) (hn : ∀ x, PyData.eqv .none (p.py x) = false ∧ PyData.eqv (p.py x) .none = false) : Py (eO a) k := ⟨fun x => match x with | none => .none | some x => p.py x, fun x => by cases x <;> simp [eO, toPy, p.to], fun x => by cases x <;> simp [PyData.canLay0, p.lay],
  fun x => by cases x with | none => simp [PyData.depth] | some x => exact p.dep x, fun x y => by
    cases x with
    | none => cases y with
      | none => simp [PyData.eqv]
      | some y => simp only [(hn y).1]; simp
    | some x => cases y with
      | none => simp only [(hn x).2]; simp
      | some y => simp only [p.eqv, Option.some.injEq]⟩
theorem shaped_of (p : Py a k) (hk : k ≤ 64 := by decide) (x : α) : SeqAt.shaped (p.py x) = true := by have := p.dep x; simp [SeqAt.shaped, p.lay x]; omega
theorem eq_py (p : Py a k) [DecidableEq α] {x y : α} (hk : k ≤ 64 := by decide) : opEq (a x) (a y) = some (eB (decide (x = y))) := by
  have h : PyData.eqv (p.py x) (p.py y) = decide (x = y) := by
    by_cases e : x = y
    · subst e; simp [(p.eqv x x).mpr rfl]
    · simp only [e, decide_false]; exact Bool.eq_false_iff.mpr fun z => e ((p.eqv x y).mp z)
  simp [eqD, p.to, shaped_of p hk, h, eB]
theorem ne_py (p : Py a k) [DecidableEq α] {x y : α} (hk : k ≤ 64 := by decide) : opNe (a x) (a y) = some (eB (!decide (x = y))) := by
  have := eq_py p (x := x) (y := y) hk
  simp only [opEq] at this
  simp only [opNe]
  cases h : eqD (a x) (a y) with
  | none => rw [h] at this; cases this
  | some z => rw [h] at this; simp only [Option.some.injEq, D.bl.injEq, eB] at this; simp [this, eB]
theorem any_py (p : Py a k) [DecidableEq α] (x : α) : ∀ xs : List α, ((xs.map p.py).any fun z => PyData.eqv z (p.py x)) = decide (x ∈ xs)
  | [] => by simp
  | y :: ys => by
    have ih := any_py p x ys
    have : PyData.eqv (p.py y) (p.py x) = decide (x = y) := by
      by_cases e : x = y
      · subst e; simp [(p.eqv x x).mpr rfl]
      · simp only [e, decide_false]; exact Bool.eq_false_iff.mpr fun z => e ((p.eqv y x).mp z).symm
    simp only [List.map_cons, List.any_cons, ih, this, List.mem_cons, Bool.decide_or]
theorem shapedL (p : Py a k) (hk : k ≤ 63) (xs : List α) : SeqAt.shaped (.list (xs.map p.py)) = true := shaped_of (pyL p) (by omega) xs
theorem shapedT (p : Py a k) (hk : k ≤ 63) (xs : List α) : SeqAt.shaped (.tuple (xs.map p.py)) = true := shaped_of (pyT p) (by omega) xs
/-- flat kinds: numbers, texts, truth values -/
structure Fl1 (e : α → D) : Prop where
  fl : ∀ x, flatD (e x) = true
  eq : ∀ x y, eqF (e x) (e y) = true ↔ x = y
theorem fl_I : Fl1 eI := ⟨fun _ => rfl, fun x y => by simp [eI, eqF]⟩
theorem fl_B : Fl1 eB := ⟨fun _ => rfl, fun x y => by simp [eB, eqF]⟩
theorem fl_S : Fl1 eS := ⟨fun _ => rfl, fun x y => by simp [eS, eqF]⟩
theorem anyF (p : Fl1 a) [DecidableEq α] (x : α) : ∀ xs : List α, ((xs.map a).any fun y => eqF y (a x)) = decide (x ∈ xs)
  | [] => by simp
  | y :: ys => by
    have ih := anyF p x ys
    have : eqF (a y) (a x) = decide (x = y) := by
      by_cases e : x = y
      · subst e; simp [(p.eq x x).mpr rfl]
      · simp only [e, decide_false]; exact Bool.eq_false_iff.mpr fun z => e ((p.eq y x).mp z).symm
    simp only [List.map_cons, List.any_cons, ih, this, List.mem_cons, Bool.decide_or]
theorem allF (p : Fl1 a) (xs : List α) : (xs.map a).all flatD = true := by simp [p.fl]
/-- is it there -/
def has [DecidableEq α] (x : α) (xs : List α) : Bool := decide (x ∈ xs)
@[simp] theorem has_iff [DecidableEq α] {x : α} {xs : List α} : has x xs = true ↔ x ∈ xs := by simp [has]
theorem has_eq [DecidableEq α] {x : α} {xs : List α} : has x xs = decide (x ∈ xs) := rfl
theorem in_fl (p : Fl1 a) [DecidableEq α] {x : α} {xs : List α} : inD (a x) (eL a xs) = some (has x xs) ∧ inD (a x) (eT a xs) = some (has x xs) := by
  constructor <;> simp only [inD, eL, eT, p.fl, allF p, Bool.and_self, if_true, anyF p, has]
theorem in_py (p : Py a k) [DecidableEq α] {x : α} {xs : List α} (hf : ∀ x, flatD (a x) = false := by intro _; rfl) (hk : k ≤ 63 := by decide) : inD (a x) (eL a xs) = some (has x xs) ∧ inD (a x) (eT a xs) = some (has x xs) := by
  constructor <;> simp only [inD, eL, eT, hf, Bool.false_and, if_false, p.to, toPys_map p, shaped_of p (by omega), shapedL p hk, shapedT p hk, Bool.and_self, if_true, any_py p, has] <;> rfl
theorem inL_ {x y : D} {z : Bool} (h : inD x y = some z) : opIn x y = some (eB z) := by simp [h]
theorem ninL_ {x y : D} {z : Bool} (h : inD x y = some z) : opNotIn x y = some (eB !z) := by simp [h]
/-- the first place -/
def pIndex [DecidableEq α] (xs : List α) (x : α) : M Int := if x ∈ xs then .ok (xs.idxOf x) else .stuck
theorem ixF_eq (p : Fl1 a) [DecidableEq α] (x : α) : ∀ (xs : List α) (i : Nat), ixF (fun z => eqF z (a x)) i (xs.map a) = if x ∈ xs then some (i + xs.idxOf x) else none
  | [], i => by simp [ixF]
  | y :: ys, i => by
    have ih := ixF_eq p x ys (i + 1)
    by_cases e : x = y
    · subst e; simp [ixF, (p.eq x x).mpr rfl]
    · have h1 : eqF (a y) (a x) = false := Bool.eq_false_iff.mpr fun z => e ((p.eq y x).mp z).symm
      have h2 : ¬ y = x := fun z => e z.symm
      simp only [List.map_cons, ixF, h1, ih, List.mem_cons, e, false_or, List.idxOf_cons]
      have h3 : (y == x) = false := by simp [h2]
      simp only [h3, cond_false]
      simp only [Bool.false_eq_true, if_false]
      by_cases hm : x ∈ ys
      · simp [hm, h2]; omega
      · simp [hm]
theorem ixP_eq (p : Py a k) [DecidableEq α] (x : α) : ∀ (xs : List α) (i : Nat), ixP (fun z => PyData.eqv z (p.py x)) i (xs.map p.py) = if x ∈ xs then some (i + xs.idxOf x) else none
  | [], i => by simp [ixP]
  | y :: ys, i => by
    have ih := ixP_eq p x ys (i + 1)
    by_cases e : x = y
    · subst e; simp [ixP, (p.eqv x x).mpr rfl]
    · have h1 : PyData.eqv (p.py y) (p.py x) = false := Bool.eq_false_iff.mpr fun z => e ((p.eqv y x).mp z).symm
      have h2 : ¬ y = x := fun z => e z.symm
      simp only [List.map_cons, ixP, h1, ih, List.mem_cons, e, false_or, List.idxOf_cons]
      have h3 : (y == x) = false := by simp [h2]
      simp only [h3, cond_false]
      simp only [Bool.false_eq_true, if_false]
      by_cases hm : x ∈ ys
      · simp [hm, h2]; omega
      · simp [hm]
theorem index_fl (p : Fl1 a) [DecidableEq α] {x : α} {xs : List α} : OP (opIndex (eL a xs) (a x)) (pIndex xs x) eI := by
  unfold pIndex
  by_cases h : x ∈ xs
  · simp [h, OP, opIndex, eL, p.fl, allF p, ixF_eq p, eI]
  · simp [h, OP]
theorem index_py (p : Py a k) [DecidableEq α] {x : α} {xs : List α} (hf : ∀ x, flatD (a x) = false := by intro _; rfl) (hk : k ≤ 63 := by decide) : OP (opIndex (eL a xs) (a x)) (pIndex xs x) eI := by
  unfold pIndex
  by_cases h : x ∈ xs
  · simp [h, OP, opIndex, eL, hf, p.to, toPys_map p, shaped_of p (show k ≤ 64 by omega), shapedL p hk, ixP_eq p, eI]
  · simp [h, OP]
end
end DL

namespace DL
open PySem L2
/-! ### operations -/
theorem ixN_lt {n : Nat} {i : Int} {j : Nat} (h : ixN n i = some j) : j < n := by
  unfold ixN at h
  split at h
  · split at h
    · cases h; omega
    · cases h
  · split at h
    · cases h; omega
    · cases h
theorem atI_map {α β : Type} (e : α → β) (xs : List α) (i : Int) : atI (xs.map e) i = (atI xs i).map e := by
  unfold atI
  rw [List.length_map]
  cases h : ixN xs.length i with
  | none => rfl
  | some j => simp
def pAt {α : Type} (xs : List α) (i : Int) : M α := oM (atI xs i)
section
variable {α β γ δ : Type} {e : α → D}
theorem op_oM {x : Option D} {o : Option α} (h : x = o.map e) : OP x (oM o) e := by
  cases o with
  | none => trivial
  | some a => exact h
theorem op_D {x : Option D} : OP x (oM x) eD := by
  cases x with
  | none => trivial
  | some a => rfl
theorem op_atL {xs : List α} {i : Int} : OP (opIx (eL e xs) (eI i)) (pAt xs i) e := op_oM (atI_map e xs i)
theorem op_atT {xs : List α} {i : Int} : OP (opIx (eT e xs) (eI i)) (pAt xs i) e := op_oM (atI_map e xs i)
theorem op_lenL {xs : List α} : opLen (eL e xs) = some (eI (xs.length : Int)) := by simp [opLen, eL]
theorem op_lenT {xs : List α} : opLen (eT e xs) = some (eI (xs.length : Int)) := by simp [opLen, eT]
def pLenS (z : Str) : M Int := if z.length ≤ big then .ok (z.length : Int) else .stuck
theorem op_lenS {z : Str} : OP (opLen (eS z)) (pLenS z) eI := by
  unfold pLenS
  by_cases h : z.length ≤ big
  · rw [if_pos h]; simp only [OP, opLen, eS, h, if_true]
  · rw [if_neg h]; trivial
def pMul (a b : Int) : M Int := if smallI a || smallI b then .ok (a * b) else .stuck
theorem op_mul {a b : Int} : OP (opMul (eI a) (eI b)) (pMul a b) eI := by
  unfold pMul
  by_cases h : (smallI a || smallI b) = true
  · rw [if_pos h]; simp only [OP, opMul, h, if_true]
  · rw [if_neg h]; trivial
def pDiv (a b : Int) : M Int := if b ≠ 0 ∧ b.natAbs < 1073741824 then .ok (a.fdiv b) else .stuck
theorem op_div {a b : Int} : OP (opDiv (eI a) (eI b)) (pDiv a b) eI := by
  unfold pDiv
  by_cases h : b ≠ 0 ∧ b.natAbs < 1073741824
  · rw [if_pos h]; simp only [OP, opDiv, h]; simp [h]
  · rw [if_neg h]; trivial
def pMod (a b : Int) : M Int := if b ≠ 0 then .ok (a.fmod b) else .stuck
theorem op_mod {a b : Int} : OP (opMod (eI a) (eI b)) (pMod a b) eI := by
  unfold pMod
  by_cases h : b ≠ 0
  · rw [if_pos h]; simp only [OP, opMod, h]; simp [h]
  · rw [if_neg h]; trivial
def pCat (xs ys : List α) : M (List α) := if xs.length + ys.length ≤ big then .ok (xs ++ ys) else .stuck
theorem op_catT {xs ys : List α} : OP (opAdd (eT e xs) (eT e ys)) (pCat xs ys) (eT e) := by
  unfold pCat
  by_cases h : xs.length + ys.length ≤ big
  · rw [if_pos h]; simp only [OP, opAdd, eT, List.length_map, h, if_true, List.map_append]
  · rw [if_neg h]; trivial
theorem op_catL {xs ys : List α} : OP (opAdd (eL e xs) (eL e ys)) (pCat xs ys) (eL e) := by
  unfold pCat
  by_cases h : xs.length + ys.length ≤ big
  · rw [if_pos h]; simp only [OP, opAdd, eL, List.length_map, h, if_true, List.map_append]
  · rw [if_neg h]; trivial
theorem op_nCat {xs ys : List α} : OP (nAdd (eL e xs) (eL e ys)) (pCat xs ys) (List.map e) := by
  unfold pCat
  by_cases h : xs.length + ys.length ≤ big
  · rw [if_pos h]; simp only [OP, nAdd, eL, List.length_map, h, if_true, List.map_append]
  · rw [if_neg h]; trivial
def pCatS (x y : Str) : M Str := if x.length + y.length ≤ big then .ok (x ++ y) else .stuck
theorem op_catS {x y : Str} : OP (opAdd (eS x) (eS y)) (pCatS x y) eS := by
  unfold pCatS
  by_cases h : x.length + y.length ≤ big
  · rw [if_pos h]; simp only [OP, opAdd, eS, h, if_true]
  · rw [if_neg h]; trivial
def pRep (xs : List α) (k : Int) : M (List α) := if xs.length * k.toNat ≤ big ∧ k.natAbs < 9223372036854775808 then .ok (List.replicate k.toNat xs).flatten else .stuck
theorem op_nRep {xs : List α} {k : Int} : OP (nMul (eL e xs) (eI k)) (pRep xs k) (List.map e) := by
  unfold pRep
  by_cases h : xs.length * k.toNat ≤ big ∧ k.natAbs < 9223372036854775808
  · rw [if_pos h]; simp only [OP, nMul, eL, eI, List.length_map]; rw [if_pos h]; simp [List.map_flatten, List.map_replicate]
  · rw [if_neg h]; trivial
def pMin (xs : List Int) : M Int := if xs.isEmpty then .stuck else .ok (minL xs)
def pMax (xs : List Int) : M Int := if xs.isEmpty then .stuck else .ok (maxL xs)
theorem intsOf_map : ∀ xs : List Int, intsOf (xs.map eI) = some xs
  | [] => rfl
  | x :: xs => by simp [intsOf, intsOf_map xs]
theorem blsOf_map : ∀ xs : List Bool, blsOf (xs.map eB) = some xs
  | [] => rfl
  | x :: xs => by simp [blsOf, blsOf_map xs]
theorem op_minL {xs : List Int} : OP (opMinA (eL eI xs)) (pMin xs) eI := by
  unfold pMin
  cases h : xs.isEmpty with
  | true => trivial
  | false => simp only [OP, opMinA, onIntsT, eL, intsOf_map, h]; simp
theorem op_minT {xs : List Int} : OP (opMinA (eT eI xs)) (pMin xs) eI := by
  unfold pMin
  cases h : xs.isEmpty with
  | true => trivial
  | false => simp only [OP, opMinA, onIntsT, eT, intsOf_map, h]; simp
theorem op_maxL {xs : List Int} : OP (opMaxA (eL eI xs)) (pMax xs) eI := by
  unfold pMax
  cases h : xs.isEmpty with
  | true => trivial
  | false => simp only [OP, opMaxA, onIntsT, eL, intsOf_map, h]; simp
theorem op_maxT {xs : List Int} : OP (opMaxA (eT eI xs)) (pMax xs) eI := by
  unfold pMax
  cases h : xs.isEmpty with
  | true => trivial
  | false => simp only [OP, opMaxA, onIntsT, eT, intsOf_map, h]; simp
theorem op_sum {xs : List Int} : opSum (eL eI xs) = some (eI xs.sum) := by simp only [opSum, onInts, eL, intsOf_map]
theorem op_all {xs : List Bool} : opAll (eL eB xs) = some (eB (xs.all id)) := by simp only [opAll, onBls, eL, blsOf_map]
theorem op_any {xs : List Bool} : opAny (eL eB xs) = some (eB (xs.any id)) := by simp only [opAny, onBls, eL, blsOf_map]
theorem op_sorted {xs : List Int} : nSorted (eL eI xs) = some ((sortI xs).map eI) := by simp only [nSorted, eL, intsOf_map]
theorem cutD_map {β : Type} (f : α → β) (xs : List α) (lo hi : Option Int) : cutD (xs.map f) lo hi = (cutD xs lo hi).map f := by
  unfold cutD; rw [List.length_map, List.map_take, List.map_drop]
theorem op_slL {xs : List α} {lo hi : Option Int} : opSl (eL e xs) lo hi = some (eL e (cutD xs lo hi)) := by simp only [opSl, eL, cutD_map]
theorem op_slT {xs : List α} {lo hi : Option Int} : opSl (eT e xs) lo hi = some (eT e (cutD xs lo hi)) := by simp only [opSl, eT, cutD_map]
def rng (n : Int) : List Int := (List.range n.toNat).map fun k : Nat => (k : Int)
def rng2 (m n : Int) : List Int := (List.range (n - m).toNat).map fun k : Nat => m + (k : Int)
def pRng (n : Int) : M (List Int) := if n.natAbs ≤ big then .ok (rng n) else .stuck
def pRng2 (m n : Int) : M (List Int) := if m.natAbs ≤ big ∧ n.natAbs ≤ big then .ok (rng2 m n) else .stuck
theorem op_rng {n : Int} : OP (rngD (eI n)) (pRng n) (List.map eI) := by
  unfold pRng
  by_cases h : n.natAbs ≤ big
  · rw [if_pos h]; simp only [OP, rngD, rangeL, h, if_true, rng, List.map_map, eI]; rfl
  · rw [if_neg h]; trivial
theorem op_rng2 {m n : Int} : OP (rngD2 (eI m) (eI n)) (pRng2 m n) (List.map eI) := by
  unfold pRng2
  by_cases h : m.natAbs ≤ big ∧ n.natAbs ≤ big
  · rw [if_pos h]; simp only [OP, rngD2, rangeL2, eI]; rw [if_pos h]; simp only [rng2, List.map_map]; rfl
  · rw [if_neg h]; trivial
theorem rgL_rng {n : Int} : rgL (0, n) = (rng n).map eI := by
  simp only [rgL, rng, List.map_map, Int.sub_zero]
  congr 1; funext k; simp
theorem big_eqI : (big : Int) = 16777216 := rfl
/-- list(range(n)), tuple(range(n)) -/
theorem re_lrg {n : Int} {st : DSt} : RE (fun st => dLstRg (dRg1 (dC (eI n))) st) st (pRng n) (List.map eI) st := by
  unfold pRng
  by_cases h : n.natAbs ≤ big
  · rw [if_pos h]
    have h2 : n ≤ (big : Int) := by have := big_eqI; have : big = 16777216 := rfl; omega
    show dLstRg (dRg1 (dC (eI n))) st = _
    simp only [dLstRg, dRg1, dC, bindD, retD, asI, h, if_true, liftO, h2, rgL_rng]
  · rw [if_neg h]; trivial
theorem re_lrgP {a : Den D} {n : Int} {st st1 : DSt} (h : RV a st (eI n) st1) : RE (dLstRg (dRg1 a)) st (pRng n) (List.map eI) st1 := by
  have e : dLstRg (dRg1 a) st = dLstRg (dRg1 (dC (eI n))) st1 := by simp only [dLstRg, dRg1, bindD, dC, retD]; rw [show a st = _ from h]
  have := re_lrg (n := n) (st := st1)
  revert this
  unfold RE
  cases pRng n with
  | ok c => intro q; rw [e]; exact q
  | exn c fs => intro ⟨s, q⟩; exact ⟨s, by rw [e]; exact q⟩
  | stuck => intro _; trivial
theorem re_lrgG {a : Den D} {o : M Int} {st st1 : DSt} (h : RE a st o eI st1) : RE (dLstRg (dRg1 a)) st (o.bind pRng) (List.map eI) st1 := by
  cases o with
  | ok c => exact re_lrgP h
  | exn c fs => obtain ⟨s, h⟩ := h; exact ⟨s, by simp only [dLstRg, dRg1, bindD]; rw [h]⟩
  | stuck => trivial
theorem re_trgP {a : Den D} {n : Int} {st st1 : DSt} (h : RV a st (eI n) st1) : RE (dTupRg (dRg1 a)) st (pRng n) (eT eI) st1 := by
  unfold pRng
  by_cases hb : n.natAbs ≤ big
  · rw [if_pos hb]
    have h2 : n ≤ (big : Int) := by have := big_eqI; have : big = 16777216 := rfl; omega
    show dTupRg (dRg1 a) st = _
    simp only [dTupRg, dRg1, bindD]; rw [show a st = _ from h]; simp only [asI, hb, if_true, liftO, h2, rgL_rng]; rfl
  · rw [if_neg hb]; trivial
theorem re_trgG {a : Den D} {o : M Int} {st st1 : DSt} (h : RE a st o eI st1) : RE (dTupRg (dRg1 a)) st (o.bind pRng) (eT eI) st1 := by
  cases o with
  | ok c => exact re_trgP h
  | exn c fs => obtain ⟨s, h⟩ := h; exact ⟨s, by simp only [dTupRg, dRg1, bindD]; rw [h]⟩
  | stuck => trivial
def rg2L (m n : Int) : M (List Int) := if 0 ≤ m ∧ m ≤ big ∧ 0 ≤ n ∧ n ≤ big then .ok (rng2 m n) else .stuck
theorem rg2_rng {m n : Int} : rgL (m, n) = (rng2 m n).map eI := by
  simp only [rgL, rng2, List.map_map]; rfl
theorem re_trg2P {a b : Den D} {m n : Int} {st st1 st2 : DSt} (h : RV a st (eI m) st1) (h2 : RV b st1 (eI n) st2) : RE (dTupRg (dRg2 a b)) st (rg2L m n) (eT eI) st2 := by
  unfold rg2L
  by_cases hb : 0 ≤ m ∧ m ≤ big ∧ 0 ≤ n ∧ n ≤ big
  · rw [if_pos hb]
    show dTupRg (dRg2 a b) st = _
    simp only [dTupRg, dRg2, bindD]; rw [show a st = _ from h]; simp only []; rw [show b st1 = _ from h2]; simp only [asI, liftO]; rw [if_pos hb]; simp only [hb.2.2.2, if_true, rg2_rng]; rfl
  · rw [if_neg hb]; trivial
theorem re_lrg2P {a b : Den D} {m n : Int} {st st1 st2 : DSt} (h : RV a st (eI m) st1) (h2 : RV b st1 (eI n) st2) : RE (dLstRg (dRg2 a b)) st (rg2L m n) (List.map eI) st2 := by
  unfold rg2L
  by_cases hb : 0 ≤ m ∧ m ≤ big ∧ 0 ≤ n ∧ n ≤ big
  · rw [if_pos hb]
    show dLstRg (dRg2 a b) st = _
    simp only [dLstRg, dRg2, bindD]; rw [show a st = _ from h]; simp only []; rw [show b st1 = _ from h2]; simp only [asI, liftO]; rw [if_pos hb]; simp only [hb.2.2.2, if_true, rg2_rng]; rfl
  · rw [if_neg hb]; trivial
def pSqr (z : Option D) : M D := oM z
/-- the length of a display -/
theorem op_tup {ds : List D} {d : D} (hl : ds.length ≤ 64) (h : .tup ds = d) : (if ds.length ≤ big then some (D.tup ds) else none) = some d := by
  rw [if_pos (by have : big = 16777216 := rfl; omega), h]
theorem op_lst {ds : List D} {zs : List D} (hl : ds.length ≤ 64) (h : ds = zs) : (if ds.length ≤ big then some ds else none) = some zs := by
  rw [if_pos (by have : big = 16777216 := rfl; omega), h]
end
/-! ### comprehensions -/
def mapGo {α β : Type} (f : α → M β) : List α → M (List β)
  | [] => .ok []
  | x :: xs => match f x with
    | .ok y => match mapGo f xs with
      | .ok ys => .ok (y :: ys)
      | _ => .stuck
    | _ => .stuck
def filGo {α β : Type} (p : α → M Bool) (f : α → M β) : List α → M (List β)
  | [] => .ok []
  | x :: xs => match p x with
    | .ok true => (match f x with
      | .ok y => (match filGo p f xs with
        | .ok ys => .ok (y :: ys)
        | _ => .stuck)
      | _ => .stuck)
    | .ok false => filGo p f xs
    | _ => .stuck
def pMap {α β : Type} (f : α → M β) (xs : List α) : M (List β) := if xs.length ≤ big then mapGo f xs else .stuck
def pFil {α β : Type} (p : α → M Bool) (f : α → M β) (xs : List α) : M (List β) := if xs.length ≤ big then filGo p f xs else .stuck
def goP {α β γ : Type} (p : α → M Bool) (g : α → M (List β)) (q : α → β → M Bool) (f : α → β → M γ) : List α → M (List γ)
  | [] => .ok []
  | x :: xs => match p x with
    | .ok true => (match g x with
      | .ok ys => (match filGo (q x) (f x) ys with
        | .ok zs => (match goP p g q f xs with
          | .ok ws => .ok (zs ++ ws)
          | _ => .stuck)
        | _ => .stuck)
      | _ => .stuck)
    | .ok false => goP p g q f xs
    | _ => .stuck
def pFilB {α β γ : Type} (p : α → M Bool) (g : α → M (List β)) (q : α → β → M Bool) (f : α → β → M γ) (xs : List α) : M (List γ) := match goP p g q f xs with
  | .ok zs => if zs.length ≤ big then .ok zs else .stuck
  | _ => .stuck
section
variable {α β γ : Type}
theorem mapGo_fil (f : α → M β) : ∀ xs : List α, mapGo f xs = filGo (fun _ => .ok true) f xs
  | [] => rfl
  | x :: xs => by simp only [mapGo, filGo, mapGo_fil f xs]
theorem mapGo_ok {f : α → M β} {g : α → β} : ∀ {xs : List α}, (∀ x ∈ xs, f x = .ok (g x)) → mapGo f xs = .ok (xs.map g)
  | [], _ => rfl
  | x :: xs, h => by
    have ih := mapGo_ok (f := f) (g := g) (xs := xs) fun x hx => h x (List.mem_cons_of_mem _ hx)
    simp only [mapGo, h x List.mem_cons_self, ih, List.map_cons]
theorem filGo_ok {p : α → M Bool} {f : α → M β} {q : α → Bool} {g : α → β} : ∀ {xs : List α}, (∀ x ∈ xs, p x = .ok (q x)) → (∀ x ∈ xs, q x = true → f x = .ok (g x)) → filGo p f xs = .ok ((xs.filter q).map g)
  | [], _, _ => rfl
  | x :: xs, h, h2 => by
    have ih := filGo_ok (p := p) (f := f) (q := q) (g := g) (xs := xs) (fun x hx => h x (List.mem_cons_of_mem _ hx)) fun x hx => h2 x (List.mem_cons_of_mem _ hx)
    by_cases hq : q x = true
    · simp only [filGo, h x List.mem_cons_self, hq, h2 x List.mem_cons_self hq, ih, List.filter_cons, if_true, List.map_cons]
    · simp only [Bool.not_eq_true] at hq
      simp only [filGo, h x List.mem_cons_self, hq, ih, List.filter_cons]; simp
theorem pMap_ok {f : α → M β} (g : α → β) {xs : List α} (hl : xs.length ≤ big) (h : ∀ x ∈ xs, f x = .ok (g x)) : pMap f xs = .ok (xs.map g) := by
  unfold pMap; rw [if_pos hl, mapGo_ok h]
theorem pFil_ok {p : α → M Bool} {f : α → M β} (q : α → Bool) (g : α → β) {xs : List α} (hl : xs.length ≤ big) (h : ∀ x ∈ xs, p x = .ok (q x)) (h2 : ∀ x ∈ xs, q x = true → f x = .ok (g x)) : pFil p f xs = .ok ((xs.filter q).map g) := by
  unfold pFil; rw [if_pos hl, filGo_ok h h2]
variable {vs : List Nat} {t : Tg} {elt : Den D} {test : Den Bool} {e : α → D} {e2 : β → D} {st st0 : DSt}
theorem compGo_typed {f : α → M β} {p : α → M Bool} (hb : ∀ x, ∃ st1 st2 st3, setT t (e x) st0 = some st1 ∧ RE test st1 (p x) (fun b : Bool => b) st2 ∧ RE elt st2 (f x) e2 st3 ∧ wipeD st2 vs = st0 ∧ wipeD st3 vs = st0) :
    ∀ xs : List α, match filGo p f xs with | .ok ys => compGo vs t test elt (xs.map e) st0 = .ok (ys.map e2) st0 | _ => True
  | [] => rfl
  | x :: xs => by
    obtain ⟨st1, st2, st3, h1, ht, h2, h2', h3⟩ := hb x
    have ih := compGo_typed hb xs
    simp only [filGo]
    cases hp : p x with
    | ok c =>
      rw [hp] at ht
      cases c with
      | true =>
        cases hf : f x with
        | ok y =>
          rw [hf] at h2
          cases hr : filGo p f xs with
          | ok ys =>
            rw [hr] at ih
            simp only [] at ih ⊢
            simp only [List.map_cons, compGo, h1]
            rw [show test st1 = .ok true st2 from ht]
            simp only []
            rw [show elt st2 = _ from h2]
            simp only [h3, ih]
          | exn c fs => trivial
          | stuck => trivial
        | exn c fs => trivial
        | stuck => trivial
      | false =>
        simp only []
        cases hr : filGo p f xs with
        | ok ys =>
          rw [hr] at ih
          simp only [] at ih ⊢
          simp only [List.map_cons, compGo, h1]
          rw [show test st1 = .ok false st2 from ht]
          simp only [h2', ih]
        | exn c fs => trivial
        | stuck => trivial
    | exn c fs => trivial
    | stuck => trivial
theorem filGo_exn {p : α → M Bool} {f : α → M β} {c : Str} {fs : List (Str × D)} : ∀ xs : List α, filGo p f xs ≠ .exn c fs
  | [] => fun z => by cases z
  | x :: xs => fun z => by
    have ih := filGo_exn (p := p) (f := f) (c := c) (fs := fs) xs
    simp only [filGo] at z
    split at z
    · split at z
      · split at z
        · cases z
        · cases z
      · cases z
    · exact ih z
    · cases z
/-- the comprehension behind its list -/
def compK (vs : List Nat) (t : Tg) (test : Den Bool) (elt : Den D) (ds : List D) : Den (List D) := fun st =>
  if ds.length ≤ big ∧ vs.all (plainAt st) = true then
    match compGo vs t test elt ds (wipeD st vs) with
    | .ok ys st' => .ok ys (backD st st' vs)
    | _ => .stuck
  else .stuck
theorem re_compF {xs : List α} {f : α → M β} {p : α → M Bool} (st0 : DSt) (hw : wipeD st vs = st0) (hp : vs.all (plainAt st) = true) (hbk : backD st st0 vs = st)
    (hb : ∀ x, ∃ st1 st2 st3, setT t (e x) st0 = some st1 ∧ RE test st1 (p x) (fun b : Bool => b) st2 ∧ RE elt st2 (f x) e2 st3 ∧ wipeD st2 vs = st0 ∧ wipeD st3 vs = st0) : RE (compK vs t test elt (xs.map e)) st (pFil p f xs) (List.map e2) st := by
  unfold pFil
  by_cases hl : xs.length ≤ big
  · rw [if_pos hl]
    have h := compGo_typed hb xs
    cases hr : filGo p f xs with
    | ok ys =>
      rw [hr] at h
      simp only [] at h
      show compK vs t test elt (xs.map e) st = _
      unfold compK
      rw [if_pos ⟨by rw [List.length_map]; exact hl, hp⟩, hw, h]
      simp only [hbk]
    | exn c fs => exact absurd hr (filGo_exn xs)
    | stuck => trivial
  · rw [if_neg hl]; trivial
theorem re_compM {xs : List α} {f : α → M β} (st0 : DSt) (hw : wipeD st vs = st0) (hp : vs.all (plainAt st) = true) (hbk : backD st st0 vs = st)
    (hb : ∀ x, ∃ st1 st3, setT t (e x) st0 = some st1 ∧ RE elt st1 (f x) e2 st3 ∧ wipeD st1 vs = st0 ∧ wipeD st3 vs = st0) : RE (compK vs t dYes elt (xs.map e)) st (pMap f xs) (List.map e2) st := by
  have h := re_compF (xs := xs) (f := f) (p := fun _ => .ok true) (vs := vs) (t := t) (test := dYes) (elt := elt) (e := e) (e2 := e2) st0 hw hp hbk fun x => by
    obtain ⟨st1, st3, h1, h2, h3, h4⟩ := hb x
    exact ⟨st1, st1, st3, h1, rfl, h2, h3, h4⟩
  unfold pFil at h
  unfold pMap
  rw [mapGo_fil]
  exact h
theorem re_comp {fi : Den (List D)} {st' : DSt} {o : M (List β)} {v : List β → List D} (h : RE (bindD fi (compK vs t test elt)) st o v st') : RE (dComp vs t fi test elt) st o v st' := h
end
end DL

namespace DL
open PySem L2
/-! ### statements -/
def RS {γ : Type} (X : Bool) (f : DS) (st : DSt) (o : M γ) (K : γ → Fl → DSt → Prop) : Prop := match o with
  | .ok c => ∃ fl st', f st = .ok fl st' ∧ K c fl st'
  | .exn c fs => X = true → ∃ s, f st = .exn c fs s
  | .stuck => True
/-- a statement that goes on -/
def RX {γ : Type} (f : DS) (st : DSt) (o : M γ) (S : γ → DSt) : Prop := match o with
  | .ok c => f st = .ok .nx (S c)
  | .exn c fs => ∃ s, f st = .exn c fs s
  | .stuck => True
inductive F (σ ρ : Type) where
  | nx (a : σ) | ret (r : ρ) | brk (a : σ) | cnt (a : σ)
def KN {σ : Type} (I : σ → DSt → Prop) (c : σ) (fl : Fl) (st : DSt) : Prop := fl = .nx ∧ I c st
def KF {σ ρ : Type} (I : σ → DSt → Prop) (R : ρ → Fl → DSt → Prop) (c : F σ ρ) (fl : Fl) (st : DSt) : Prop := match c with
  | .nx a => fl = .nx ∧ I a st
  | .ret r => R r fl st
  | .brk a => fl = .brk ∧ I a st
  | .cnt a => fl = .cnt ∧ I a st
def pfold {α σ : Type} (f : α → σ → M σ) : List α → σ → M σ
  | [], a => .ok a
  | x :: xs, a => (f x a).bind (pfold f xs)
def pfor {α σ ρ : Type} (f : α → σ → M (F σ ρ)) : List α → σ → M (σ ⊕ ρ)
  | [], a => .ok (.inl a)
  | x :: xs, a => (f x a).bind fun c => match c with
    | .nx a => pfor f xs a
    | .cnt a => pfor f xs a
    | .brk a => .ok (.inl a)
    | .ret r => .ok (.inr r)
def pwhile {σ : Type} (t : σ → M Bool) (f : σ → M σ) : Nat → σ → M σ
  | 0, _ => .stuck
  | n + 1, a => (t a).bind fun c => if c = true then (f a).bind (pwhile t f n) else .ok a
def pwhileF {σ ρ : Type} (t : σ → M Bool) (f : σ → M (F σ ρ)) : Nat → σ → M (σ ⊕ ρ)
  | 0, _ => .stuck
  | n + 1, a => (t a).bind fun c => if c = true then (f a).bind fun c => match c with
    | .nx a => pwhileF t f n a
    | .cnt a => pwhileF t f n a
    | .brk a => .ok (.inl a)
    | .ret r => .ok (.inr r) else .ok (.inl a)
def pK {σ ρ γ : Type} (r : σ ⊕ ρ) (k : σ → M γ) (h : ρ → γ) : M γ := match r with
  | .inl a => k a
  | .inr r => .ok (h r)
@[simp] theorem pK_inl {σ ρ γ : Type} (a : σ) (k : σ → M γ) (h : ρ → γ) : pK (.inl a) k h = k a := rfl
@[simp] theorem pK_inr {σ ρ γ : Type} (r : ρ) (k : σ → M γ) (h : ρ → γ) : pK (.inr r) k h = .ok (h r) := rfl
/-- a slot nobody looks at: empty, or with a value -/
def jk : Option D → Slot
  | none => .no
  | some d => .sh d
theorem plain_jk (j : Option D) : (match (some (jk j)) with | some .no => true | some (.sh _) => true | _ => false) = true := by cases j <;> rfl
section
variable {γ δ α β σ ρ τ : Type} {X : Bool} {st st1 st2 : DSt} {K : γ → Fl → DSt → Prop} {o : M γ} {b : DS} {v : α → δ}
theorem rs_last {f : DS} (h : RS X (sSeq f sPass) st o K) : RS X f st o K := by
  have e : sSeq f sPass st = f st := by
    unfold sSeq
    cases hf : f st with
    | ok fl st' => cases fl <;> rfl
    | exn c fs s => rfl
    | stuck => rfl
  cases o with
  | ok c => obtain ⟨fl, st', h1, h2⟩ := h; exact ⟨fl, st', by rw [← e]; exact h1, h2⟩
  | exn c fs => intro hx; obtain ⟨s, h⟩ := h hx; exact ⟨s, by rw [← e]; exact h⟩
  | stuck => trivial
theorem rs_of_eq {f g : DS} {st1 : DSt} (e : f st = g st1) (h : RS X g st1 o K) : RS X f st o K := by
  cases o with
  | ok c => obtain ⟨fl, st', h1, h2⟩ := h; exact ⟨fl, st', by rw [e]; exact h1, h2⟩
  | exn c fs => intro hx; obtain ⟨s, h⟩ := h hx; exact ⟨s, by rw [e]; exact h⟩
  | stuck => trivial
theorem rs_bindP {a : Den δ} {k : δ → DS} {x : δ} (h1 : RV a st x st1) (h2 : RS X (sSeq (k x) b) st1 o K) : RS X (sSeq (bindD a k) b) st o K :=
  rs_of_eq (by unfold sSeq bindD; rw [show a st = _ from h1]) h2
theorem rs_bindG {a : Den δ} {k : δ → DS} {o1 : M α} {o2 : α → M γ} (h1 : RE a st o1 v st1) (h2 : ∀ c, RS X (sSeq (k (v c)) b) st1 (o2 c) K) : RS X (sSeq (bindD a k) b) st (o1.bind o2) K := by
  cases o1 with
  | ok c => exact rs_bindP (show RV a st (v c) st1 from h1) (h2 c)
  | exn c fs => intro _; obtain ⟨s, h⟩ := h1; exact ⟨s, by unfold sSeq bindD; rw [h]⟩
  | stuck => trivial
theorem rs_x {f : DS} {o1 : M α} {o2 : α → M γ} {S : α → DSt} (h1 : RX f st o1 S) (h2 : ∀ c, RS X b (S c) (o2 c) K) : RS X (sSeq f b) st (o1.bind o2) K := by
  cases o1 with
  | ok c => exact rs_of_eq (by unfold sSeq; rw [show f st = _ from h1]) (h2 c)
  | exn c fs => intro _; obtain ⟨s, h⟩ := h1; exact ⟨s, by unfold sSeq; rw [h]⟩
  | stuck => trivial
theorem rs_exec {f : DS} (h1 : f st = .ok .nx st1) (h2 : RS X b st1 o K) : RS X (sSeq f b) st o K := rs_of_eq (by unfold sSeq; rw [h1]) h2
theorem rs_ret {c : γ} {d : D} (h : K c (.ret d) st) : RS X (sSeq (retD (.ret d)) b) st (.ok c) K := ⟨_, _, rfl, h⟩
theorem rs_brk {c : γ} (h : K c .brk st) : RS X (sSeq sBrk b) st (.ok c) K := ⟨_, _, rfl, h⟩
theorem rs_cnt {c : γ} (h : K c .cnt st) : RS X (sSeq sCnt b) st (.ok c) K := ⟨_, _, rfl, h⟩
theorem rs_nx (h : RS X b st o K) : RS X (sSeq (retD .nx) b) st o K := h
theorem rs_end {c : γ} (h : K c .nx st) : RS X sPass st (.ok c) K := ⟨_, _, rfl, h⟩
theorem rs_seq {f g : DS} (h : RS X (sSeq f (sSeq g b)) st o K) : RS X (sSeq (sSeq f g) b) st o K := by
  refine rs_of_eq (g := sSeq f (sSeq g b)) (st1 := st) ?_ h
  unfold sSeq
  cases f st with
  | ok fl s => cases fl <;> rfl
  | exn c fs s => rfl
  | stuck => rfl
theorem rs_put {i : Nat} {s : Slot} (h1 : slotSet i s st = some st1) (h2 : RS X b st1 o K) : RS X (sSeq (putD i s) b) st o K := rs_exec (by unfold putD; rw [h1]) h2
theorem rs_put2 {i : Nat} {s : List (List D)} (h1 : slotSet i (.o2 s) st = some st1) (h2 : RS X b st1 o K) : RS X (sSeq (putD2 i s) b) st o K := rs_exec (by unfold putD2; rw [h1]) h2
theorem rs_ite {x : Bool} {f g : DS} {o1 o2 : M γ} (h1 : x = true → RS X (sSeq f b) st o1 K) (h2 : x = false → RS X (sSeq g b) st o2 K) : RS X (sSeq (if x = true then f else g) b) st (if x = true then o1 else o2) K := by
  cases x with
  | true => exact h1 rfl
  | false => exact h2 rfl
theorem rs_raise0 {c : Str} : RS X (sSeq (sRaise0 c) b) st (.exn c []) K := fun _ => ⟨st, rfl⟩
theorem rs_raise1 {c f : Str} {d : D} : RS X (sSeq (fun st => .exn c [(f, d)] st) b) st (.exn c [(f, d)]) K := fun _ => ⟨st, rfl⟩
/-- goes on behind -/
theorem rs_join {f : DS} {o1 : M α} {o2 : α → M γ} {I : α → DSt → Prop} (h1 : RS X f st o1 (KN I)) (h2 : ∀ c st', I c st' → RS X b st' (o2 c) K) : RS X (sSeq f b) st (o1.bind o2) K := by
  cases o1 with
  | ok c =>
    obtain ⟨fl, st', e, rfl, hi⟩ := h1
    exact rs_of_eq (st1 := st') (by unfold sSeq; rw [e]) (h2 c st' hi)
  | exn c fs => intro hx; obtain ⟨s, h⟩ := h1 hx; exact ⟨s, by unfold sSeq; rw [h]⟩
  | stuck => trivial
def KS {σ ρ : Type} (I : σ → DSt → Prop) (R : ρ → Fl → DSt → Prop) (c : σ ⊕ ρ) (fl : Fl) (st : DSt) : Prop := match c with
  | .inl a => fl = .nx ∧ I a st
  | .inr r => R r fl st
def KR (K : γ → Fl → DSt → Prop) (h : ρ → γ) (r : ρ) (fl : Fl) (st : DSt) : Prop := (∃ d, fl = .ret d) ∧ K (h r) fl st
theorem rs_joinF {f : DS} {o1 : M (σ ⊕ ρ)} {o2 : σ → M γ} {h : ρ → γ} {I : σ → DSt → Prop} (h1 : RS X f st o1 (KS I (KR K h))) (h2 : ∀ c st', I c st' → RS X b st' (o2 c) K) : RS X (sSeq f b) st (o1.bind fun r => pK r o2 h) K := by
  cases o1 with
  | ok c =>
    obtain ⟨fl, st', e, hk⟩ := h1
    cases c with
    | inl a =>
      obtain ⟨rfl, hi⟩ := hk
      exact rs_of_eq (st1 := st') (by unfold sSeq; rw [e]) (h2 a st' hi)
    | inr r =>
      obtain ⟨⟨d, rfl⟩, hk⟩ := hk
      exact ⟨_, st', by unfold sSeq; rw [e], hk⟩
  | exn c fs => intro hx; obtain ⟨s, h⟩ := h1 hx; exact ⟨s, by unfold sSeq; rw [h]⟩
  | stuck => trivial
variable {t : Tg} {body : DS} {e : α → D} {I : σ → DSt → Prop} {R : ρ → Fl → DSt → Prop}
theorem rs_fold {f : α → σ → M σ} (hb : ∀ x a st, I a st → ∃ st1, setT t (e x) st = some st1 ∧ RS X body st1 (f x a) (KN I)) : ∀ (xs : List α) (a : σ) (st : DSt), I a st → RS X (loop t body (xs.map e)) st (pfold f xs a) (KN I)
  | [], a, st, h => ⟨_, _, rfl, rfl, h⟩
  | x :: xs, a, st, h => by
    obtain ⟨st1, h1, h2⟩ := hb x a st h
    have ih := rs_fold hb xs
    simp only [pfold]
    cases hf : f x a with
    | ok c =>
      rw [hf] at h2
      obtain ⟨fl, st', e1, rfl, hi⟩ := h2
      exact rs_of_eq (st1 := st') (by simp only [List.map_cons, loop, h1, e1]) (ih c st' hi)
    | exn c fs => rw [hf] at h2; intro hx; obtain ⟨s, h2⟩ := h2 hx; exact ⟨s, by simp only [List.map_cons, loop, h1, h2]⟩
    | stuck => trivial
theorem rs_for {f : α → σ → M (F σ ρ)} (hR : ∀ r fl st, R r fl st → ∃ d, fl = .ret d) (hb : ∀ x a st, I a st → ∃ st1, setT t (e x) st = some st1 ∧ RS X body st1 (f x a) (KF I R)) : ∀ (xs : List α) (a : σ) (st : DSt), I a st → RS X (loop t body (xs.map e)) st (pfor f xs a) (KS I R)
  | [], a, st, h => ⟨_, _, rfl, rfl, h⟩
  | x :: xs, a, st, h => by
    obtain ⟨st1, h1, h2⟩ := hb x a st h
    have ih := rs_for hR hb xs
    simp only [pfor]
    cases hf : f x a with
    | ok c =>
      rw [hf] at h2
      obtain ⟨fl, st', e1, hk⟩ := h2
      cases c with
      | nx a => obtain ⟨rfl, hi⟩ := hk; exact rs_of_eq (st1 := st') (by simp only [List.map_cons, loop, h1, e1]) (ih a st' hi)
      | cnt a => obtain ⟨rfl, hi⟩ := hk; exact rs_of_eq (st1 := st') (by simp only [List.map_cons, loop, h1, e1]) (ih a st' hi)
      | brk a => obtain ⟨rfl, hi⟩ := hk; exact ⟨_, st', by simp only [List.map_cons, loop, h1, e1], rfl, hi⟩
      | ret r => obtain ⟨d, rfl⟩ := hR _ _ _ hk; exact ⟨_, st', by simp only [List.map_cons, loop, h1, e1], hk⟩
    | exn c fs => rw [hf] at h2; intro hx; obtain ⟨s, h2⟩ := h2 hx; exact ⟨s, by simp only [List.map_cons, loop, h1, h2]⟩
    | stuck => trivial
theorem rs_while {test : Den Bool} {tp : σ → M Bool} {f : σ → M σ} (ht : ∀ a st, I a st → RE test st (tp a) (fun b : Bool => b) st) (hb : ∀ a st, I a st → RS X body st (f a) (KN I)) : ∀ (n : Nat) (a : σ) (st : DSt), I a st → RS X (sWhile test body n) st (pwhile tp f n a) (KN I)
  | 0, a, st, h => trivial
  | n + 1, a, st, h => by
    have h0 := ht a st h
    have ih := rs_while ht hb n
    simp only [pwhile]
    cases hp : tp a with
    | ok c =>
      rw [hp] at h0
      have h0 : test st = .ok c st := h0
      cases c with
      | false => exact ⟨_, st, by simp only [sWhile, h0], rfl, h⟩
      | true =>
        have h2 := hb a st h
        simp only [bind_ok, if_true]
        cases hf : f a with
        | ok c =>
          rw [hf] at h2
          obtain ⟨fl, st', e1, rfl, hi⟩ := h2
          exact rs_of_eq (st1 := st') (by simp only [sWhile, h0, e1]) (ih c st' hi)
        | exn c fs => rw [hf] at h2; intro hx; obtain ⟨s, h2⟩ := h2 hx; exact ⟨s, by simp only [sWhile, h0, h2]⟩
        | stuck => trivial
    | exn c fs => rw [hp] at h0; intro _; obtain ⟨s, h0⟩ := h0; exact ⟨s, by simp only [sWhile, h0]⟩
    | stuck => trivial
theorem rs_whileF {test : Den Bool} {tp : σ → M Bool} {f : σ → M (F σ ρ)} (hR : ∀ r fl st, R r fl st → ∃ d, fl = .ret d) (ht : ∀ a st, I a st → RE test st (tp a) (fun b : Bool => b) st) (hb : ∀ a st, I a st → RS X body st (f a) (KF I R)) : ∀ (n : Nat) (a : σ) (st : DSt), I a st → RS X (sWhile test body n) st (pwhileF tp f n a) (KS I R)
  | 0, a, st, h => trivial
  | n + 1, a, st, h => by
    have h0 := ht a st h
    have ih := rs_whileF hR ht hb n
    simp only [pwhileF]
    cases hp : tp a with
    | ok c =>
      rw [hp] at h0
      have h0 : test st = .ok c st := h0
      cases c with
      | false => exact ⟨_, st, by simp only [sWhile, h0], rfl, h⟩
      | true =>
        have h2 := hb a st h
        simp only [bind_ok, if_true]
        cases hf : f a with
        | ok c =>
          rw [hf] at h2
          obtain ⟨fl, st', e1, hk⟩ := h2
          cases c with
          | nx a => obtain ⟨rfl, hi⟩ := hk; exact rs_of_eq (st1 := st') (by simp only [sWhile, h0, e1]) (ih a st' hi)
          | cnt a => obtain ⟨rfl, hi⟩ := hk; exact rs_of_eq (st1 := st') (by simp only [sWhile, h0, e1]) (ih a st' hi)
          | brk a => obtain ⟨rfl, hi⟩ := hk; exact ⟨_, st', by simp only [sWhile, h0, e1], rfl, hi⟩
          | ret r => obtain ⟨d, rfl⟩ := hR _ _ _ hk; exact ⟨_, st', by simp only [sWhile, h0, e1], hk⟩
        | exn c fs => rw [hf] at h2; intro hx; obtain ⟨s, h2⟩ := h2 hx; exact ⟨s, by simp only [sWhile, h0, h2]⟩
        | stuck => trivial
    | exn c fs => rw [hp] at h0; intro _; obtain ⟨s, h0⟩ := h0; exact ⟨s, by simp only [sWhile, h0]⟩
    | stuck => trivial
theorem kr_ret {K : γ → Fl → DSt → Prop} {h : ρ → γ} (r : ρ) (fl : Fl) (st : DSt) (q : KR K h r fl st) : ∃ d, fl = .ret d := q.1
/-- a for statement and what stands behind it -/
theorem rs_for0 {xs : List α} {a : σ} {f : α → σ → M σ} {o2 : σ → M γ} (I : σ → DSt → Prop) (h0 : I a st) (hb : ∀ x a st, I a st → ∃ st1, setT t (e x) st = some st1 ∧ RS X body st1 (f x a) (KN I)) (hk : ∀ c st', I c st' → RS X b st' (o2 c) K) :
    RS X (sSeq (loop t body (xs.map e)) b) st ((pfold f xs a).bind o2) K := rs_join (rs_fold hb xs a st h0) hk
theorem rs_for1 {xs : List α} {a : σ} {f : α → σ → M (F σ ρ)} {o2 : σ → M γ} {h : ρ → γ} (I : σ → DSt → Prop) (h0 : I a st) (hb : ∀ x a st, I a st → ∃ st1, setT t (e x) st = some st1 ∧ RS X body st1 (f x a) (KF I (KR K h))) (hk : ∀ c st', I c st' → RS X b st' (o2 c) K) :
    RS X (sSeq (loop t body (xs.map e)) b) st ((pfor f xs a).bind fun r => pK r o2 h) K := rs_joinF (rs_for kr_ret hb xs a st h0) hk
theorem rs_while0 {n : Nat} {a : σ} {test : Den Bool} {tp : σ → M Bool} {f : σ → M σ} {o2 : σ → M γ} (I : σ → DSt → Prop) (h0 : I a st) (ht : ∀ a st, I a st → RE test st (tp a) (fun b : Bool => b) st) (hb : ∀ a st, I a st → RS X body st (f a) (KN I)) (hk : ∀ c st', I c st' → RS X b st' (o2 c) K) :
    RS X (sSeq (sWhile test body n) b) st ((pwhile tp f n a).bind o2) K := rs_join (rs_while ht hb n a st h0) hk
theorem rs_while1 {n : Nat} {a : σ} {test : Den Bool} {tp : σ → M Bool} {f : σ → M (F σ ρ)} {o2 : σ → M γ} {h : ρ → γ} (I : σ → DSt → Prop) (h0 : I a st) (ht : ∀ a st, I a st → RE test st (tp a) (fun b : Bool => b) st) (hb : ∀ a st, I a st → RS X body st (f a) (KF I (KR K h))) (hk : ∀ c st', I c st' → RS X b st' (o2 c) K) :
    RS X (sSeq (sWhile test body n) b) st ((pwhileF tp f n a).bind fun r => pK r o2 h) K := rs_joinF (rs_whileF kr_ret ht hb n a st h0) hk
/-- the end of a def -/
def Kfn {ρ : Type} (e : ρ → D) (r : ρ) (fl : Fl) (_ : DSt) : Prop := fl = .ret (e r) ∨ (fl = .nx ∧ e r = .non)
def Kby {ρ τ : Type} (e : ρ → D) (eτ : τ → D) (r : ρ × List τ) (fl : Fl) (st : DSt) : Prop := (fl = .ret (e r.1) ∨ (fl = .nx ∧ e r.1 = .non)) ∧ ∃ tl, st = .rf 0 (r.2.map eτ) :: tl
def Kini {ρ : Type} (nd : ρ → List Str × List D) (c : Str) (r : ρ) (fl : Fl) (st : DSt) : Prop := fl = .nx ∧ ∃ tl, st = .oi 0 c (nd r).1 (nd r).2 :: tl
theorem fn_F {m n : Nat} {f : DS} {ds : List D} {o : M ρ} {e : ρ → D} (hl : ds.length = m) (h : RS true f (ds.map Slot.sh ++ List.replicate (n - ds.length) .no) o (Kfn e)) : DM (runF m n f ds) o e := by
  unfold runF
  rw [if_pos hl]
  cases o with
  | ok c =>
    obtain ⟨fl, st', e1, hk⟩ := h
    rw [e1]
    rcases hk with rfl | ⟨rfl, hk⟩
    · rfl
    · show M.ok D.non = .ok (e c); rw [hk]
  | exn c fs => obtain ⟨s, h⟩ := h rfl; rw [h]; rfl
  | stuck => trivial
def DR {ρ τ : Type} (m : M (D × List D)) (o : M (ρ × List τ)) (e : ρ → D) (eτ : τ → D) : Prop := match o with
  | .ok c => m = .ok (e c.1, c.2.map eτ)
  | _ => True
theorem fn_R {m n : Nat} {f : DS} {ds : List D} {xs : List τ} {eτ : τ → D} {o : M (ρ × List τ)} {e : ρ → D} (hl : ds.length + 1 = m) (h : RS false f (.rf 0 (xs.map eτ) :: (ds.map Slot.sh ++ List.replicate (n - ds.length - 1) .no)) o (Kby e eτ)) : DR (runR m n f (xs.map eτ) ds) o e eτ := by
  unfold runR
  rw [if_pos hl]
  cases o with
  | ok c =>
    obtain ⟨fl, st', e1, hk, tl, rfl⟩ := h
    rw [e1]
    rcases hk with rfl | ⟨rfl, hk⟩
    · rfl
    · show M.ok (D.non, _) = .ok (e c.1, _); rw [hk]
  | exn c fs => trivial
  | stuck => trivial
theorem fn_I {m n : Nat} {c : Str} {f : DS} {ds : List D} {o : M ρ} {nd : ρ → List Str × List D} (hl : ds.length + 1 = m) (h : RS true f (.oi 0 c [] [] :: (ds.map Slot.sh ++ List.replicate (n - ds.length - 1) .no)) o (Kini nd c)) : DM (makeM c (runI c m n f) ds) o (fun r => .ins c (nd r).1 (nd r).2) := by
  unfold makeM runI
  rw [if_pos hl]
  cases o with
  | ok r =>
    obtain ⟨fl, st', e1, rfl, tl, rfl⟩ := h
    rw [e1]
    simp only [if_true]
    rfl
  | exn c fs => obtain ⟨s, h⟩ := h rfl; rw [h]; rfl
  | stuck => trivial
/-- .. of a def whose errors nobody asks for -/
def D0 {α : Type} (m : M D) (o : M α) (v : α → D) : Prop := match o with
  | .ok c => m = .ok (v c)
  | _ => True
theorem fn_F0 {m n : Nat} {f : DS} {ds : List D} {o : M ρ} {e : ρ → D} (hl : ds.length = m) (h : RS false f (ds.map Slot.sh ++ List.replicate (n - ds.length) .no) o (Kfn e)) : D0 (runF m n f ds) o e := by
  unfold runF
  rw [if_pos hl]
  cases o with
  | ok c =>
    obtain ⟨fl, st', e1, hk⟩ := h
    rw [e1]
    rcases hk with rfl | ⟨rfl, hk⟩
    · rfl
    · show M.ok D.non = .ok (e c); rw [hk]
  | exn c fs => trivial
  | stuck => trivial
end
end DL

namespace DL
open PySem L2
/-! ### lists that change -/
def pApp {α : Type} (xs : List α) (y : α) : M (List α) := if xs.length < big then .ok (xs ++ [y]) else .stuck
def pPop {α : Type} (xs : List α) : M (α × List α) := match xs[xs.length - 1]? with
  | some y => .ok (y, xs.dropLast)
  | none => .stuck
def pSet {α : Type} (xs : List α) (k : Int) (v : α) : M (List α) := match ixN xs.length k with
  | some j => .ok (xs.set j v)
  | none => .stuck
def pSet2 {α : Type} (xss : List (List α)) (k l : Int) (v : α) : M (List (List α)) := (pAt xss k).bind fun r => (pSet r l v).bind fun r => pSet xss k r
def pPopAt {α : Type} (xs : List α) (k : Int) : M (α × List α) := match seqIndex? k xs.length with
  | some j => match xs[j]? with
    | some y => if k.natAbs ≤ big then .ok (y, xs.eraseIdx j) else .stuck
    | none => .stuck
  | none => .stuck
section
variable {α β γ : Type} {e : α → D} {st st1 : DSt} {i : Nat} {xs : List α} {f : Den D}
theorem x_appP {y : α} (h : st[i]? = some (.ow (xs.map e))) (hf : RV f st (e y) st1) (h1 : st1[i]? = some (.ow (xs.map e))) : RX (sExpr (dAppend i f)) st (pApp xs y) (fun ys => st1.set i (.ow (ys.map e))) := by
  unfold pApp
  by_cases hl : xs.length < big
  · rw [if_pos hl]
    show sExpr (dAppend i f) st = _
    simp only [sExpr, dAppend, bindD, dOw, h, mutD, liftO, setOw, retD]
    rw [show f st = _ from hf]
    simp only [h1, List.length_map, hl, if_true, List.map_append, List.map_cons, List.map_nil]
  · rw [if_neg hl]; trivial
theorem x_appG {o : M α} (h : st[i]? = some (.ow (xs.map e))) (hf : RE f st o e st1) (h1 : st1[i]? = some (.ow (xs.map e))) : RX (sExpr (dAppend i f)) st (o.bind fun y => pApp xs y) (fun ys => st1.set i (.ow (ys.map e))) := by
  cases o with
  | ok y => exact x_appP h hf h1
  | exn c fs => obtain ⟨s, hf⟩ := hf; exact ⟨s, by simp only [sExpr, dAppend, bindD, dOw, h]; rw [hf]⟩
  | stuck => trivial
theorem x_appPr {y : α} {k : Nat} (h : st[i]? = some (.rf k (xs.map e))) (hf : RV f st (e y) st1) (h1 : st1[i]? = some (.rf k (xs.map e))) : RX (sExpr (dAppend i f)) st (pApp xs y) (fun ys => st1.set i (.rf k (ys.map e))) := by
  unfold pApp
  by_cases hl : xs.length < big
  · rw [if_pos hl]
    show sExpr (dAppend i f) st = _
    simp only [sExpr, dAppend, bindD, dOw, h, mutD, liftO, setOw, retD]
    rw [show f st = _ from hf]
    simp only [h1, List.length_map, hl, if_true, List.map_append, List.map_cons, List.map_nil]
  · rw [if_neg hl]; trivial
theorem x_appGr {o : M α} {k : Nat} (h : st[i]? = some (.rf k (xs.map e))) (hf : RE f st o e st1) (h1 : st1[i]? = some (.rf k (xs.map e))) : RX (sExpr (dAppend i f)) st (o.bind fun y => pApp xs y) (fun ys => st1.set i (.rf k (ys.map e))) := by
  cases o with
  | ok y => exact x_appPr h hf h1
  | exn c fs => obtain ⟨s, hf⟩ := hf; exact ⟨s, by simp only [sExpr, dAppend, bindD, dOw, h]; rw [hf]⟩
  | stuck => trivial
theorem dropLast_map {β : Type} (f : α → β) : ∀ xs : List α, (xs.map f).dropLast = xs.dropLast.map f
  | [] => rfl
  | [x] => rfl
  | x :: y :: xs => by simp only [List.map_cons, List.dropLast_cons_cons]; rw [← dropLast_map f (y :: xs)]; rfl
/-- x = xs.pop() -/
theorem x_pop {t : Tg} {S : α × List α → DSt} (h : st[i]? = some (.ow (xs.map e))) (hS : ∀ p : α × List α, setT t (e p.1) (st.set i (.ow (p.2.map e))) = some (S p)) : RX (sAsg t (dPop i)) st (pPop xs) S := by
  unfold pPop
  cases hx : xs[xs.length - 1]? with
  | none => trivial
  | some y =>
    have h2 : (xs.map e)[(xs.map e).length - 1]? = some (e y) := by rw [List.length_map, List.getElem?_map, hx]; rfl
    show sAsg t (dPop i) st = _
    have := hS (y, xs.dropLast)
    simp only [sAsg, dPop, bindD, mutD, dOw, h, liftO, h2, setOw, retD, dropLast_map]
    simp only [this]
theorem x_popN {j : Nat} {S : α × List α → DSt} (h : st[i]? = some (.ow (xs.map e))) (hS : ∀ p : α × List α, slotSet j (.sh (e p.1)) (st.set i (.ow (p.2.map e))) = some (S p)) : RX (sSet j (dPop i)) st (pPop xs) S := by
  unfold pPop
  cases hx : xs[xs.length - 1]? with
  | none => trivial
  | some y =>
    have h2 : (xs.map e)[(xs.map e).length - 1]? = some (e y) := by rw [List.length_map, List.getElem?_map, hx]; rfl
    show sSet j (dPop i) st = _
    have := hS (y, xs.dropLast)
    simp only [sSet, dPop, bindD, mutD, dOw, h, liftO, h2, setOw, retD, dropLast_map, putD]
    simp only [this]
/-- xs[k] = v, behind value and index -/
def storeK (i : Nat) (v : D) (k : D) : DS := match k with
  | .int k => bindD (mutD i fun ds => match ixN ds.length k with | some j => some ((), ds.set j v) | none => none) fun _ => retD .nx
  | _ => fun _ => .stuck
theorem x_setK {k : Int} {v : α} (h : st[i]? = some (.ow (xs.map e))) : RX (storeK i (e v) (eI k)) st (pSet xs k v) (fun ys => st.set i (.ow (ys.map e))) := by
  unfold pSet
  cases hx : ixN xs.length k with
  | none => trivial
  | some j =>
    show storeK i (e v) (eI k) st = _
    simp only [storeK, bindD, mutD, dOw, h, liftO, List.length_map, hx, setOw, retD, List.map_set]
theorem x_setKr {k : Int} {v : α} {n : Nat} (h : st[i]? = some (.rf n (xs.map e))) : RX (storeK i (e v) (eI k)) st (pSet xs k v) (fun ys => st.set i (.rf n (ys.map e))) := by
  unfold pSet
  cases hx : ixN xs.length k with
  | none => trivial
  | some j =>
    show storeK i (e v) (eI k) st = _
    simp only [storeK, bindD, mutD, dOw, h, liftO, List.length_map, hx, setOw, retD, List.map_set]
theorem sStore_K {ix f : Den D} {i : Nat} : sStore i ix f = bindD f fun v => bindD (dRd i) fun _ => bindD ix fun k => storeK i v k := rfl
/-- xs[k][l] = v -/
theorem pAt_j {xs : List α} {k : Int} {r : α} (h : pAt xs k = .ok r) : ∃ j, ixN xs.length k = some j ∧ xs[j]? = some r := by
  unfold pAt oM atI at h
  cases hx : ixN xs.length k with
  | none => rw [hx] at h; cases h
  | some j =>
    rw [hx, Option.bind_some] at h
    cases hy : xs[j]? with
    | none => rw [hy] at h; cases h
    | some y => rw [hy] at h; cases h; exact ⟨j, rfl, hy⟩
theorem x_set2 {xss : List (List α)} {e1 e2 f : Den D} {k l : Int} {v : α} (h : st[i]? = some (.o2 (xss.map (List.map e)))) (hf : RV f st (e v) st) (h1 : RV e1 st (eI k) st) (h2 : RV e2 (st.set i .no) (eI l) (st.set i .no)) :
    RX (sStore2 i e1 e2 f) st (pSet2 xss k l v) (fun ys => st.set i (.o2 (ys.map (List.map e)))) := by
  unfold pSet2
  cases hr : pAt xss k with
  | exn c fs => unfold pAt oM at hr; split at hr <;> cases hr
  | stuck => trivial
  | ok r =>
    obtain ⟨j, hj, hr⟩ := pAt_j hr
    simp only [bind_ok]
    unfold pSet
    cases hl : ixN r.length l with
    | none => trivial
    | some q =>
      simp only [bind_ok, hj]
      have hq := ixN_lt hl
      have hil : i < st.length := by
        rcases Nat.lt_or_ge i st.length with z | z
        · exact z
        · rw [List.getElem?_eq_none z] at h; cases h
      have a1 : rowAt (xss.map (List.map e)) (eI k) = some (j, r.map e) := by simp [rowAt, hj, hr]
      have a2 : rowAt (r.map e) (eI l) = some (q, e (r[q]'hq)) := by simp [rowAt, hl, hq]
      have a3 : (st.set i .no)[i]? = some .no := by rw [List.getElem?_set_self hil]
      show sStore2 i e1 e2 f st = _
      simp only [sStore2, bindD]
      rw [show f st = _ from hf]
      simp only [dO2, h]
      rw [show e1 st = _ from h1]
      simp only [h, liftO, a1, hideD, noX]
      rw [show e2 (st.set i .no) = _ from h2]
      simp only [a2, backO, a3, retD, List.set_set]
      congr 1
      simp [List.map_set]
end
/-! ### what hands a list on that changes -/
/-- f gives a value, and what the list is then -/
def RT {α τ δ : Type} (f : Den δ) (st : DSt) (o : M (α × τ)) (v : α → δ) (S : τ → DSt) : Prop := match o with
  | .ok p => f st = .ok (v p.1) (S p.2)
  | _ => True
section
variable {α β τ δ ε : Type} {st st1 : DSt} {S : τ → DSt} {v : α → δ} {w : β → ε}
theorem rt_bindP {a : Den δ} {x : δ} {k : δ → Den ε} {o : M (β × τ)} (h1 : RV a st x st1) (h2 : RT (k x) st1 o w S) : RT (bindD a k) st o w S := by
  have e : bindD a k st = k x st1 := by unfold bindD; rw [h1]
  cases o with
  | ok c => show bindD a k st = _; rw [e]; exact h2
  | exn c fs => trivial
  | stuck => trivial
theorem rt_bindG {a : Den δ} {o : M α} {k : δ → Den ε} {o2 : α → M (β × τ)} (h1 : RE a st o v st1) (h2 : ∀ c, RT (k (v c)) st1 (o2 c) w S) : RT (bindD a k) st (o.bind o2) w S := by
  cases o with
  | ok c => exact rt_bindP (show RV a st (v c) st1 from h1) (h2 c)
  | exn c fs => trivial
  | stuck => trivial
theorem rt_bindS {a : Den δ} {o : M (α × τ)} {k : δ → Den ε} {o2 : α × τ → M (β × τ)} (h1 : RT a st o v S) (h2 : ∀ p, RT (k (v p.1)) (S p.2) (o2 p) w S) : RT (bindD a k) st (o.bind o2) w S := by
  cases o with
  | ok p => exact rt_bindP (show RV a st (v p.1) (S p.2) from h1) (h2 p)
  | exn c fs => trivial
  | stuck => trivial
theorem rt_assoc {ζ : Type} {a : Den δ} {g : δ → Den ε} {k : ε → Den ζ} {o : M (β × τ)} {w : β → ζ} (h : RT (bindD a fun x => bindD (g x) k) st o w S) : RT (bindD (bindD a g) k) st o w S := by
  have e : bindD (bindD a g) k st = bindD a (fun x => bindD (g x) k) st := by unfold bindD; cases a st <;> rfl
  cases o with
  | ok c => show _ = _; rw [e]; exact h
  | exn c fs => trivial
  | stuck => trivial
theorem rt_rv {f : Den δ} {c : α} {r : τ} (h : RV f st (v c) (S r)) : RT f st (.ok (c, r)) v S := h
theorem rt_re {f : Den δ} {o : M α} {r : τ} (h : RE f st o v (S r)) : RT f st (o.bind fun c => .ok (c, r)) v S := by
  cases o with
  | ok c => exact h
  | exn c fs => trivial
  | stuck => trivial
theorem rt_map {γ : Type} {f : Den δ} {o : M (α × τ)} {g : α → γ} {w : γ → δ} (h : RT f st o v S) (e : ∀ c, v c = w (g c)) : RT f st (o.bind fun p => .ok (g p.1, p.2)) w S := by
  cases o with
  | ok p => show f st = _; rw [← e]; exact h
  | exn c fs => trivial
  | stuck => trivial
theorem rt_co {f : Den δ} {o : M (α × τ)} {w : α → δ} (h : RT f st o v S) (e : ∀ c, v c = w c) : RT f st o w S := by
  cases o with
  | ok p => show f st = _; rw [← e]; exact h
  | exn c fs => trivial
  | stuck => trivial
theorem rt_ite {a b : Den δ} {x : Bool} {o1 o2 : M (α × τ)} (h1 : x = true → RT a st o1 v S) (h2 : x = false → RT b st o2 v S) : RT (if x = true then a else b) st (if x = true then o1 else o2) v S := by
  cases x with
  | true => exact h1 rfl
  | false => exact h2 rfl
/-- a call, behind its arguments -/
def callK (df : List D → List D → M (D × List D)) (i : Nat) (ds : List D) : Den D := bindD (dOw i) fun ss => bindD (liftM' (df ss ds)) fun r => bindD (setOw i r.2) fun _ => retD r.1
theorem rt_callR {df : List D → List D → M (D × List D)} {i k : Nat} {ds : List D} {eτ : α → D} {xs : List α} {o : M (β × List α)} {w : β → D} {S : List α → DSt} (h : st[i]? = some (.rf k (xs.map eτ))) (hS : ∀ ys : List α, st.set i (.rf k (ys.map eτ)) = S ys) (hd : DR (df (xs.map eτ) ds) o w eτ) : RT (callK df i ds) st o w S := by
  cases o with
  | ok p =>
    have hd : df (xs.map eτ) ds = .ok (w p.1, p.2.map eτ) := hd
    show callK df i ds st = _
    simp only [callK, bindD, dOw, h, liftM', hd, setOw, retD, hS]
  | exn c fs => trivial
  | stuck => trivial
theorem rt_callO {df : List D → List D → M (D × List D)} {i : Nat} {ds : List D} {eτ : α → D} {xs : List α} {o : M (β × List α)} {w : β → D} {S : List α → DSt} (h : st[i]? = some (.ow (xs.map eτ))) (hS : ∀ ys : List α, st.set i (.ow (ys.map eτ)) = S ys) (hd : DR (df (xs.map eτ) ds) o w eτ) : RT (callK df i ds) st o w S := by
  cases o with
  | ok p =>
    have hd : df (xs.map eτ) ds = .ok (w p.1, p.2.map eτ) := hd
    show callK df i ds st = _
    simp only [callK, bindD, dOw, h, liftM', hd, setOw, retD, hS]
  | exn c fs => trivial
  | stuck => trivial
/-! comprehensions -/
def mapS {α β τ : Type} (f : α → τ → M (β × τ)) : List α → τ → M (List β × τ)
  | [], r => .ok ([], r)
  | x :: xs, r => (f x r).bind fun p => (mapS f xs p.2).bind fun q => .ok (p.1 :: q.1, q.2)
def pMapS {α β τ : Type} (f : α → τ → M (β × τ)) (xs : List α) (r : τ) : M (List β × τ) := if xs.length ≤ big then mapS f xs r else .stuck
theorem compGo_S1 {vs : List Nat} {t : Tg} {elt : Den D} {e : α → D} {e2 : β → D} {f : α → τ → M (β × τ)} {S0 : τ → DSt} (S1 : α → τ → DSt) (hb : ∀ x r, setT t (e x) (S0 r) = some (S1 x r) ∧ RT elt (S1 x r) (f x r) e2 (S1 x) ∧ wipeD (S1 x r) vs = S0 r) :
    ∀ (xs : List α) (r : τ), match mapS f xs r with | .ok q => compGo vs t dYes elt (xs.map e) (S0 r) = .ok (q.1.map e2) (S0 q.2) | _ => True
  | [], r => rfl
  | x :: xs, r => by
    obtain ⟨h1, h2, h3⟩ := hb x r
    simp only [mapS]
    cases hf : f x r with
    | ok p =>
      rw [hf] at h2
      have h2 : elt (S1 x r) = .ok (e2 p.1) (S1 x p.2) := h2
      have ih := compGo_S1 S1 hb xs p.2
      have hy : dYes (S1 x r) = .ok true (S1 x r) := rfl
      have h4 := (hb x p.2).2.2
      simp only [bind_ok]
      cases hr : mapS f xs p.2 with
      | ok q =>
        rw [hr] at ih
        simp only [] at ih
        simp only [bind_ok, List.map_cons, compGo, h1, hy, h2, h4, ih]
      | exn c fs => trivial
      | stuck => trivial
    | exn c fs => trivial
    | stuck => trivial
theorem rt_comp {vs : List Nat} {t : Tg} {elt : Den D} {e : α → D} {e2 : β → D} {f : α → τ → M (β × τ)} {xs : List α} {r : τ} (S0 : τ → DSt) (S1 : α → τ → DSt) (hw : ∀ r, wipeD (S r) vs = S0 r) (hp : vs.all (plainAt (S r)) = true) (hbk : ∀ r', backD (S r) (S0 r') vs = S r')
    (hb : ∀ x r, setT t (e x) (S0 r) = some (S1 x r) ∧ RT elt (S1 x r) (f x r) e2 (S1 x) ∧ wipeD (S1 x r) vs = S0 r) : RT (compK vs t dYes elt (xs.map e)) (S r) (pMapS f xs r) (List.map e2) S := by
  unfold pMapS
  by_cases hl : xs.length ≤ big
  · rw [if_pos hl]
    have h := compGo_S1 (vs := vs) (t := t) (elt := elt) (e := e) (e2 := e2) (f := f) S1 hb xs r
    cases hr : mapS f xs r with
    | ok q =>
      rw [hr] at h
      simp only [] at h
      show compK vs t dYes elt (xs.map e) (S r) = _
      unfold compK
      rw [if_pos ⟨by rw [List.length_map]; exact hl, hp⟩, hw, h]
      simp only [hbk]
    | exn c fs => trivial
    | stuck => trivial
  · rw [if_neg hl]; trivial
/-- a statement with such an expression -/
theorem rs_bindS {γ : Type} {a : Den δ} {k : δ → DS} {b : DS} {o1 : M (α × τ)} {o2 : α × τ → M γ} {K : γ → Fl → DSt → Prop} (S : τ → DSt) (h1 : RT a st o1 v S) (h2 : ∀ p, RS false (sSeq (k (v p.1)) b) (S p.2) (o2 p) K) : RS false (sSeq (bindD a k) b) st (o1.bind o2) K := by
  cases o1 with
  | ok p => exact rs_bindP (show RV a st (v p.1) (S p.2) from h1) (h2 p)
  | exn c fs => intro z; cases z
  | stuck => trivial
end
end DL

namespace DL
open PySem L2
/-! ### the rules that the printed proofs name -/
/-- a list still changed, or not any more -/
def fz (z : Bool) (ds : List D) : Slot := if z = true then .ow ds else .sh (.lst ds)
section
variable {α β γ δ ε σ ρ τ : Type} {st st1 st2 : DSt} {e : α → D}
theorem rv_fz {i : Nat} {z : Bool} {ds : List D} (h : st[i]? = some (fz z ds)) : RV (dVar i) st (.lst ds) (st.set i (.sh (.lst ds))) := by
  cases z with
  | true => exact rv_frz h
  | false =>
    have e : st.set i (.sh (.lst ds)) = st := by
      apply List.ext_getElem?
      intro j
      by_cases hj : i = j
      · subst hj
        have h : st[i]? = some (.sh (.lst ds)) := h
        rw [List.getElem?_set_self (by
          rcases Nat.lt_or_ge i st.length with q | q
          · exact q
          · rw [List.getElem?_eq_none q] at h; cases h), h]
      · rw [List.getElem?_set_ne hj]
    rw [e]; exact rv_var h
theorem rv_rdF {i : Nat} {z : Bool} {ds : List D} (h : st[i]? = some (fz z ds)) : RV (dRd i) st (.lst ds) st := by
  cases z with
  | true => exact rv_rdO h
  | false => exact rv_rd h
/-! arguments -/
theorem re_consP {a : Den D} {x : D} {r : Den (List D)} {K : List D → Den δ} {o : M α} {w : α → δ} (h1 : RV a st x st1) (h2 : RE (bindD r fun xs => K (x :: xs)) st1 o w st2) : RE (bindD (dCons a r) K) st o w st2 :=
  re_assoc (re_bindP h1 (re_assoc h2))
theorem re_consG {a : Den D} {r : Den (List D)} {K : List D → Den δ} {o : M α} {v : α → D} {o2 : α → M β} {w : β → δ} (h1 : RE a st o v st1) (h2 : ∀ c, RE (bindD r fun xs => K (v c :: xs)) st1 (o2 c) w st2) : RE (bindD (dCons a r) K) st (o.bind o2) w st2 :=
  re_assoc (re_bindG h1 fun c => re_assoc (h2 c))
theorem re_nil {K : List D → Den δ} {o : M α} {w : α → δ} (h : RE (K []) st o w st2) : RE (bindD dNil K) st o w st2 := re_bindP rv_ret h
theorem rv_cons {a : Den D} {x : D} {r : Den (List D)} {K : List D → Den δ} {y : δ} (h1 : RV a st x st1) (h2 : RV (bindD r fun xs => K (x :: xs)) st1 y st2) : RV (bindD (dCons a r) K) st y st2 :=
  rv_assoc (rv_bind h1 (rv_assoc h2))
theorem rv_nil {K : List D → Den δ} {y : δ} (h : RV (K []) st y st2) : RV (bindD dNil K) st y st2 := rv_bind rv_ret h
theorem rt_consP {S : τ → DSt} {a : Den D} {x : D} {r : Den (List D)} {K : List D → Den δ} {o : M (α × τ)} {w : α → δ} (h1 : RV a st x st1) (h2 : RT (bindD r fun xs => K (x :: xs)) st1 o w S) : RT (bindD (dCons a r) K) st o w S :=
  rt_assoc (rt_bindP h1 (rt_assoc h2))
theorem rt_consG {S : τ → DSt} {a : Den D} {r : Den (List D)} {K : List D → Den δ} {o : M α} {v : α → D} {o2 : α → M (β × τ)} {w : β → δ} (h1 : RE a st o v st1) (h2 : ∀ c, RT (bindD r fun xs => K (v c :: xs)) st1 (o2 c) w S) : RT (bindD (dCons a r) K) st (o.bind o2) w S :=
  rt_assoc (rt_bindG h1 fun c => rt_assoc (h2 c))
theorem rt_consS {S : τ → DSt} {a : Den D} {r : Den (List D)} {K : List D → Den δ} {o : M (α × τ)} {v : α → D} {o2 : α × τ → M (β × τ)} {w : β → δ} (h1 : RT a st o v S) (h2 : ∀ p, RT (bindD r fun xs => K (v p.1 :: xs)) (S p.2) (o2 p) w S) : RT (bindD (dCons a r) K) st (o.bind o2) w S :=
  rt_assoc (rt_bindS h1 fun c => rt_assoc (h2 c))
theorem rt_nil {S : τ → DSt} {K : List D → Den δ} {o : M (α × τ)} {w : α → δ} (h : RT (K []) st o w S) : RT (bindD dNil K) st o w S := rt_bindP rv_ret h
theorem re_tail {a : Den δ} {k : δ → Den ε} {o : M α} {v : α → δ} {w : α → ε} (h1 : RE a st o v st1) (h2 : ∀ c, RV (k (v c)) st1 (w c) st2) : RE (bindD a k) st o w st2 := by
  cases o with
  | ok c => exact rv_bind (show RV a st (v c) st1 from h1) (h2 c)
  | exn c fs => obtain ⟨s, h⟩ := h1; exact ⟨s, by unfold bindD; rw [h]⟩
  | stuck => trivial
theorem rt_tail {S : τ → DSt} {a : Den δ} {k : δ → Den ε} {o : M (α × τ)} {v : α → δ} {w : α → ε} (h1 : RT a st o v S) (h2 : ∀ p : α × τ, RV (k (v p.1)) (S p.2) (w p.1) (S p.2)) : RT (bindD a k) st o w S := by
  cases o with
  | ok p => exact rv_bind (show RV a st (v p.1) (S p.2) from h1) (h2 p)
  | exn c fs => trivial
  | stuck => trivial
/-! choices -/
theorem rv_iteE {a b : Den δ} {x : Bool} {u z : α} {e : α → δ} (h1 : x = true → RV a st (e u) st2) (h2 : x = false → RV b st (e z) st2) : RV (if x = true then a else b) st (e (if x = true then u else z)) st2 := by
  cases x with
  | true => exact h1 rfl
  | false => exact h2 rfl
theorem rv_andE {b : Den D} {x y : Bool} (h : x = true → RV b st (eB y) st) : RV (if x = true then b else dC (.bl false)) st (eB (x && y)) st := by
  cases x with
  | true => exact h rfl
  | false => rfl
theorem rv_orE {b : Den D} {x y : Bool} (h : x = false → RV b st (eB y) st) : RV (if x = true then dC (.bl true) else b) st (eB (x || y)) st := by
  cases x with
  | true => rfl
  | false => exact h rfl
theorem rv_chain {op' : D → D → Option D} {p q : Bool} {o : Option D} {c : Den D} {y w : D} (h1 : o = some (eB p)) (hc : RV c st w st) (h2 : op' y w = some (eB q)) :
    RV (bindD (liftO o) fun z => bindD (liftO (asB z)) fun k => if k = true then bindD c fun w => liftO (op' y w) else retD (.bl false)) st (eB (p && q)) st := by
  subst h1
  cases p with
  | false => rfl
  | true =>
    show (bindD c fun w => liftO (op' y w)) st = _
    unfold bindD
    rw [show c st = _ from hc]
    simp only [liftO, h2]; rfl
theorem re_chain {op' : D → D → Option D} {p : Bool} {q : α → Bool} {o : Option D} {c : Den D} {y : D} {oc : M α} {v : α → D} (h1 : o = some (eB p)) (hc : RE c st oc v st) (h2 : ∀ a, op' y (v a) = some (eB (q a))) :
    RE (bindD (liftO o) fun z => bindD (liftO (asB z)) fun k => if k = true then bindD c fun w => liftO (op' y w) else retD (.bl false)) st (if p = true then oc.bind (fun a => .ok (q a)) else .ok false) eB st := by
  subst h1
  cases p with
  | false => exact (rfl : _ = _)
  | true =>
    cases oc with
    | ok a =>
      show (bindD c fun w => liftO (op' y w)) st = _
      unfold bindD
      rw [show c st = _ from hc]
      simp only [liftO, h2]
    | exn c' fs =>
      obtain ⟨s, hc⟩ := hc
      refine ⟨s, ?_⟩
      show (bindD c fun w => liftO (op' y w)) st = _
      unfold bindD
      rw [hc]
    | stuck => trivial
theorem rs_iteN {X : Bool} {K : γ → Fl → DSt → Prop} {x : Bool} {f g : DS} {o1 o2 : M γ} (h1 : x = true → RS X f st o1 K) (h2 : x = false → RS X g st o2 K) : RS X (if x = true then f else g) st (if x = true then o1 else o2) K := by
  cases x with
  | true => exact h1 rfl
  | false => exact h2 rfl
theorem rs_st {X : Bool} {K : γ → Fl → DSt → Prop} {f : DS} {o : M γ} (st2 : DSt) (e : st = st2) (h : RS X f st2 o K) : RS X f st o K := by subst e; exact h
/-! operations on any data -/
def pEq (x y : D) : M Bool := oM (eqD x y)
def pNe (x y : D) : M Bool := match eqD x y with | some b => .ok (!b) | none => .stuck
def pIs (x y : D) : M Bool := oM (isD x y)
def pIsN (x y : D) : M Bool := match isD x y with | some b => .ok (!b) | none => .stuck
def pIn (x y : D) : M Bool := oM (inD x y)
def pNin (x y : D) : M Bool := match inD x y with | some b => .ok (!b) | none => .stuck
def pIsi (T : String) (x : D) : M Bool := oM (isTy T x)
def pIsi2 (T U : String) (x : D) : M Bool := match isTy T x, isTy U x with | some b, some c => .ok (b || c) | _, _ => .stuck
def pIsC (c : Str) (x : D) : M Bool := match opIsC c x with | some (.bl b) => .ok b | _ => .stuck
def pB (x : D) : M Bool := oM (asB x)
def pItems (x : D) : M (List D) := oM (itemsOf x)
def pLenD : D → M Int
  | .lst xs => .ok xs.length
  | .tup xs => .ok xs.length
  | .str z => if z.length ≤ big then .ok z.length else .stuck
  | _ => .stuck
def pStr (i : Int) : M Str := if i.natAbs.log2 < 1920 then .ok (toString i : String) else .stuck
def pAtS (z : Str) (i : Int) : M Str := match opIx (.str z) (.int i) with | some (.str c) => .ok c | _ => .stuck
def pNX {α : Type} : M α → M α
  | .ok a => .ok a
  | _ => .stuck
@[simp] theorem pNX_ok {α : Type} (a : α) : pNX (.ok a) = .ok a := rfl
theorem op_eqD {x y : D} : OP (opEq x y) (pEq x y) eB := by unfold pEq opEq; cases eqD x y <;> simp [OP, oM]
theorem op_neD {x y : D} : OP (opNe x y) (pNe x y) eB := by unfold pNe opNe; cases eqD x y <;> simp [OP]
theorem op_isDD {x y : D} : OP (opIs x y) (pIs x y) eB := by unfold pIs opIs; cases isD x y <;> simp [OP, oM]
theorem op_isNDD {x y : D} : OP (opIsNot x y) (pIsN x y) eB := by unfold pIsN opIsNot; cases isD x y <;> simp [OP]
theorem op_inD {x y : D} : OP (opIn x y) (pIn x y) eB := by unfold pIn opIn; cases inD x y <;> simp [OP, oM]
theorem op_ninD {x y : D} : OP (opNotIn x y) (pNin x y) eB := by unfold pNin opNotIn; cases inD x y <;> simp [OP]
theorem op_isiD {T : String} {x : D} : OP (opIsi T x) (pIsi T x) eB := by unfold pIsi opIsi; cases isTy T x <;> simp [OP, oM]
theorem op_isi2D {T U : String} {x : D} : OP (opIsi2 T U x) (pIsi2 T U x) eB := by unfold pIsi2 opIsi2; cases isTy T x <;> cases isTy U x <;> simp [OP]
theorem op_isCD {c : Str} {x : D} : OP (opIsC c x) (pIsC c x) eB := by
  unfold pIsC
  split
  · rename_i b h; exact h
  · trivial
theorem op_asB {x : D} : OP (asB x) (pB x) (fun b : Bool => b) := by unfold pB; cases asB x <;> simp [OP, oM]
theorem op_itemsD {x : D} : OP (itemsOf x) (pItems x) (List.map eD) := by
  unfold pItems
  cases itemsOf x with
  | none => trivial
  | some xs => show some xs = some (xs.map eD); rw [show xs.map eD = xs from List.map_id' xs]
theorem op_lD {x : Option (List D)} : OP x (oM x) (List.map eD) := by
  cases x with
  | none => trivial
  | some xs => show some xs = some (xs.map eD); rw [show xs.map eD = xs from List.map_id' xs]
theorem op_lenD {x : D} : OP (opLen x) (pLenD x) eI := by
  cases x with
  | str z => exact op_lenS (z := z)
  | lst xs => rfl
  | tup xs => rfl
  | _ => trivial
theorem op_str {i : Int} : OP (opStr (eI i)) (pStr i) eS := by
  unfold pStr
  by_cases h : i.natAbs.log2 < 1920
  · rw [if_pos h]; simp only [OP, opStr, h, if_true]
  · rw [if_neg h]; trivial
theorem op_atS {z : Str} {i : Int} : OP (opIx (eS z) (eI i)) (pAtS z i) eS := by
  unfold pAtS
  split
  · rename_i c h; exact h
  · trivial
theorem op_repT {xs : List α} {k : Int} : OP (opMul (eT e xs) (eI k)) (pRep xs k) (eT e) ∨ True := .inr trivial
theorem op_nCatD {x y : D} {xs ys : List D} (hx : x = .lst xs) (hy : y = .lst ys) : OP (nAdd x y) (pCat xs ys) (List.map eD) := by
  subst hx hy
  unfold pCat
  by_cases h : xs.length + ys.length ≤ big
  · rw [if_pos h]; simp only [OP, nAdd, h, if_true]; rw [show (xs ++ ys).map eD = xs ++ ys from List.map_id' _]
  · rw [if_neg h]; trivial
theorem op_slScr {ns : List Int} {lo hi : Option Int} : opSl (.scr ns) lo hi = some (eL eI (cutD ns lo hi)) := by simp only [opSl, eL, ← cutD_map]
theorem is_O {x : Option α} (h : ∀ a, isD (e a) .non = some false) : opIs (eO e x) .non = some (eB x.isNone) := by
  cases x with
  | none => rfl
  | some a => simp only [opIs, eO, h]; rfl
theorem isnot_O {x : Option α} (h : ∀ a, isD (e a) .non = some false) : opIsNot (eO e x) .non = some (eB x.isSome) := by
  cases x with
  | none => rfl
  | some a => simp only [opIsNot, eO, h]; rfl
/-! methods -/
def methK (df : List D → M D) (x : D) (ys : List D) : Den D := fun st => match df (x :: ys) with
  | .ok d => .ok d st
  | _ => .stuck
theorem meth_eq {c m : Str} {ns : List Str} {ds : List D} {df : List D → M D} {a : Den D} {fa : Den (List D)} (ha : RV a st (.ins c ns ds) st1) (hm : getN ns ds m = none) (hl : ns.length = ds.length) : dMeth c m df a fa st = bindD fa (methK df (.ins c ns ds)) st1 := by
  simp only [dMeth, bindD]
  rw [show a st = _ from ha]
  simp only [hm, hl, Option.isNone_none, and_self, if_true]
  rfl
theorem re_meth {c m : Str} {ns : List Str} {ds : List D} {df : List D → M D} {a : Den D} {fa : Den (List D)} {o : M α} {w : α → D} (ha : RV a st (.ins c ns ds) st1) (hm : getN ns ds m = none) (hl : ns.length = ds.length) (h : RE (bindD fa (methK df (.ins c ns ds))) st1 o w st2) : RE (dMeth c m df a fa) st o w st2 := by
  have e := meth_eq (fa := fa) (df := df) ha hm hl
  cases o with
  | ok c => show _ = _; rw [e]; exact h
  | exn c fs => obtain ⟨s, h⟩ := h; exact ⟨s, by rw [e]; exact h⟩
  | stuck => trivial
theorem rt_meth {S : τ → DSt} {c m : Str} {ns : List Str} {ds : List D} {df : List D → M D} {a : Den D} {fa : Den (List D)} {o : M (α × τ)} {w : α → D} (ha : RV a st (.ins c ns ds) st1) (hm : getN ns ds m = none) (hl : ns.length = ds.length) (h : RT (bindD fa (methK df (.ins c ns ds))) st1 o w S) : RT (dMeth c m df a fa) st o w S := by
  have e := meth_eq (fa := fa) (df := df) ha hm hl
  cases o with
  | ok c => show _ = _; rw [e]; exact h
  | exn c fs => trivial
  | stuck => trivial
theorem re_methK {df : List D → M D} {x : D} {ys : List D} {o : M α} {w : α → D} (h : DM (df (x :: ys)) o w) : RE (methK df x ys) st (pNX o) w st := by
  cases o with
  | ok c => show methK df x ys st = _; unfold methK; rw [show df _ = _ from h]
  | exn c fs => trivial
  | stuck => trivial
/-! two-level lists -/
theorem rv_ixxS {i : Nat} {e1 e2 : Den D} {d y : D} (h : st[i]? = some (.sh d)) (q : RV (dOp2 opIx (dOp2n opIx i e1) e2) st y st2) : RV (dIxx i e1 e2) st y st2 := by
  unfold RV dIxx; rw [h]; exact q
theorem re_ixxS {i : Nat} {e1 e2 : Den D} {d : D} {o : M α} {w : α → D} (h : st[i]? = some (.sh d)) (q : RE (dOp2 opIx (dOp2n opIx i e1) e2) st o w st2) : RE (dIxx i e1 e2) st o w st2 := by
  have e : dIxx i e1 e2 st = dOp2 opIx (dOp2n opIx i e1) e2 st := by unfold dIxx; rw [h]
  cases o with
  | ok c => show _ = _; rw [e]; exact q
  | exn c fs => obtain ⟨s, q⟩ := q; exact ⟨s, by rw [e]; exact q⟩
  | stuck => trivial
theorem rt_ixxS {S : τ → DSt} {i : Nat} {e1 e2 : Den D} {d : D} {o : M (α × τ)} {w : α → D} (h : st[i]? = some (.sh d)) (q : RT (dOp2 opIx (dOp2n opIx i e1) e2) st o w S) : RT (dIxx i e1 e2) st o w S := by
  have e : dIxx i e1 e2 st = dOp2 opIx (dOp2n opIx i e1) e2 st := by unfold dIxx; rw [h]
  cases o with
  | ok c => show _ = _; rw [e]; exact q
  | exn c fs => trivial
  | stuck => trivial
theorem re_ixx2 {i : Nat} {e1 e2 : Den D} {xss : List (List α)} {k l : Int} {st' : DSt} (h : st[i]? = some (.o2 (xss.map (List.map e)))) (h1 : RV e1 st (eI k) st) (h2 : RV e2 (st.map frzS) (eI l) st') : RE (dIxx i e1 e2) st ((pAt xss k).bind fun r => pAt r l) e st := by
  cases hr : pAt xss k with
  | exn c fs => unfold pAt oM at hr; split at hr <;> cases hr
  | stuck => trivial
  | ok r =>
    obtain ⟨j, hj, hr⟩ := pAt_j hr
    simp only [bind_ok]
    unfold pAt atI
    cases hl : ixN r.length l with
    | none => trivial
    | some q =>
      have hq := ixN_lt hl
      have a1 : rowAt (xss.map (List.map e)) (eI k) = some (j, r.map e) := by simp [rowAt, hj, hr]
      have a2 : rowAt (r.map e) (eI l) = some (q, e (r[q]'hq)) := by simp [rowAt, hl, hq]
      have a3 : oM (match (some q : Option Nat) with | some j => r[j]? | none => none) = .ok (r[q]'hq) := by simp [hq, oM]
      show RE _ st (oM ((some q).bind fun j => r[j]?)) e st
      rw [Option.bind_some, List.getElem?_eq_getElem hq]
      show dIxx i e1 e2 st = _
      unfold dIxx
      rw [h]
      simp only [bindD, dO2, h]
      rw [show e1 st = _ from h1]
      simp only [h, liftO, a1, dPeek]
      rw [show e2 (st.map frzS) = _ from h2]
      simp only [eI, nol, if_true]
      have a2' : rowAt (r.map e) (.int l) = some (q, e (r[q]'hq)) := a2
      rw [a2']
/-! looking only -/
theorem rv_peek {f : Den D} {y : D} {st' : DSt} (h : RV f (st.map frzS) y st') (hn : nol y = true) : RV (dPeek f) st y st := by
  unfold RV dPeek
  rw [show f _ = _ from h]
  simp only [hn, if_true]
theorem re_peek {f : Den D} {o : M α} {w : α → D} {st' : DSt} (h : RE f (st.map frzS) o w st') (hn : ∀ a, nol (w a) = true) : RE (dPeek f) st (pNX o) w st := by
  cases o with
  | ok c => exact rv_peek h (hn c)
  | exn c fs => trivial
  | stuck => trivial
theorem nols_map {f : α → D} (h : ∀ x, nol (f x) = true) : ∀ xs : List α, nols (xs.map f) = true
  | [] => by simp [nols]
  | x :: xs => by simp [nols, h, nols_map h xs]
theorem nol_T (h : ∀ x, nol (e x) = true) (xs : List α) : nol (eT e xs) = true := by unfold eT; rw [nol]; exact nols_map h xs
theorem nol_P2 {f : β → D} (h : ∀ x, nol (e x) = true) (h2 : ∀ x, nol (f x) = true) (x : α × β) : nol (eP2 e f x) = true := by simp [eP2, nol, nols, h, h2]
theorem nol_O (h : ∀ x, nol (e x) = true) (x : Option α) : nol (eO e x) = true := by cases x <;> simp [eO, nol, h]
/-! new lists out of a def -/
def DO {α : Type} (m : Option (List D)) (o : M (List α)) (e : α → D) : Prop := match o with
  | .ok xs => m = some (xs.map e)
  | _ => True
/-- statements, then a new list -/
def RO {α : Type} (a : DS) (r : Den (List D)) (st : DSt) (o : M α) (w : α → List D) : Prop := RS false a st o (fun c fl st' => fl = .nx ∧ ∃ s, r st' = .ok (w c) s)
theorem fn_O {m n : Nat} {a : DS} {r : Den (List D)} {ds : List D} {o : M (List α)} (hl : ds.length = m) (h : RO a r (ds.map Slot.sh ++ List.replicate (n - ds.length) .no) o (List.map e)) : DO (runO m n a r ds) o e := by
  unfold runO
  rw [if_pos hl]
  cases o with
  | ok c =>
    obtain ⟨fl, st', e1, rfl, s, e2⟩ := h
    rw [e1]
    simp only [e2]
    rfl
  | exn c fs => trivial
  | stuck => trivial
theorem rs_endO {r : Den (List D)} {o : M α} {w : α → List D} (h : RE r st o w st2) : RS false sPass st o (fun c fl st' => fl = .nx ∧ ∃ s, r st' = .ok (w c) s) := by
  cases o with
  | ok c => exact ⟨_, _, rfl, rfl, _, h⟩
  | exn c fs => intro z; cases z
  | stuck => trivial
theorem re_liftO {x : Option (List D)} {o : M (List α)} (h : DO x o e) : RE (liftO x) st (pNX o) (List.map e) st := by
  cases o with
  | ok c => show liftO x st = _; rw [show x = _ from h]; rfl
  | exn c fs => trivial
  | stuck => trivial
/-! lists that change, more -/
theorem x_set2G {i : Nat} {xss : List (List α)} {e1 e2 f : Den D} {ov : M α} {ok ol : M Int} (h : st[i]? = some (.o2 (xss.map (List.map e)))) (hf : RE f st ov e st) (h1 : RE e1 st ok eI st) (h2 : RE e2 (st.set i .no) ol eI (st.set i .no)) :
    RX (sStore2 i e1 e2 f) st (pNX (ov.bind fun v => ok.bind fun k => ol.bind fun l => pSet2 xss k l v)) (fun ys => st.set i (.o2 (ys.map (List.map e)))) := by
  cases ov with
  | ok v => cases ok with
    | ok k => cases ol with
      | ok l =>
        have := x_set2 (e := e) (k := k) (l := l) (v := v) h hf h1 h2
        simp only [bind_ok]
        cases hp : pSet2 xss k l v with
        | ok c => rw [hp] at this; exact this
        | exn c fs => trivial
        | stuck => trivial
      | exn c fs => trivial
      | stuck => trivial
    | exn c fs => trivial
    | stuck => trivial
  | exn c fs => trivial
  | stuck => trivial
/-- xs.append(f), f changes another list -/
theorem rs_appS {K : γ → Fl → DSt → Prop} {i : Nat} {xs : List α} {f : Den D} {o : M (α × τ)} {o2 : α × τ → List α → M γ} {b : DS} (S : τ → DSt) (h : st[i]? = some (.ow (xs.map e))) (hf : RT f st o e S) (h1 : ∀ r, (S r)[i]? = some (.ow (xs.map e)))
    (hk : ∀ p ys, RS false b ((S p.2).set i (.ow (ys.map e))) (o2 p ys) K) : RS false (sSeq (sExpr (dAppend i f)) b) st (o.bind fun p => (pApp xs p.1).bind fun ys => o2 p ys) K := by
  cases o with
  | ok p =>
    have hx := x_appP (e := e) (xs := xs) (y := p.1) (f := fun _ => f st) (st := S p.2) (st1 := S p.2) (i := i) (h1 p.2) (show f st = _ from hf) (h1 p.2)
    have e1 : sExpr (dAppend i f) st = sExpr (dAppend i fun _ => f st) (S p.2) := by
      simp only [sExpr, dAppend, bindD, dOw, h, h1]
    have := rs_x (X := false) (b := b) (K := K) hx (fun ys => hk p ys)
    exact rs_of_eq (by unfold sSeq; rw [e1]) this
  | exn c fs => intro z; cases z
  | stuck => trivial
theorem erase_map {β : Type} (f : α → β) : ∀ (xs : List α) (q : Nat), (xs.map f).eraseIdx q = (xs.eraseIdx q).map f
  | [], _ => rfl
  | x :: xs, 0 => rfl
  | x :: xs, q + 1 => by
    show f x :: (xs.map f).eraseIdx q = f x :: (xs.eraseIdx q).map f
    rw [erase_map f xs q]
/-- xs.append(ys.pop(f)), f changes another list -/
theorem rs_appPop {K : γ → Fl → DSt → Prop} {i j : Nat} {xs ys : List α} {f : Den D} {o : M (Int × τ)} {o2 : Int × τ → α × List α → List α → M γ} {b : DS} (S : τ → DSt) (h : st[i]? = some (.ow (ys.map e))) (hj : st[j]? = some (.ow (xs.map e))) (hf : RT f st o eI S) (h1 : ∀ r, (S r)[i]? = some (.ow (ys.map e))) (h2 : ∀ r, (S r)[j]? = some (.ow (xs.map e))) (hn : i ≠ j)
    (hk : ∀ p q zs, RS false b (((S p.2).set j (.ow (q.2.map e))).set i (.ow (zs.map e))) (o2 p q zs) K) : RS false (sSeq (sExpr (dAppend i (dPopAt j f))) b) st (o.bind fun p => (pPopAt xs p.1).bind fun q => (pApp ys q.1).bind fun zs => o2 p q zs) K := by
  cases o with
  | ok p =>
    have hf : f st = .ok (eI p.1) (S p.2) := hf
    simp only [bind_ok]
    unfold pPopAt
    cases hs : seqIndex? p.1 xs.length with
    | none => trivial
    | some q =>
      simp only []
      cases hq : xs[q]? with
      | none => trivial
      | some y =>
        simp only []
        by_cases hb : p.1.natAbs ≤ big
        · rw [if_pos hb]
          simp only [bind_ok]
          have h3 : ((S p.2).set j (.ow ((xs.eraseIdx q).map e)))[i]? = some (.ow (ys.map e)) := by rw [List.getElem?_set_ne (Ne.symm hn)]; exact h1 p.2
          have hx := x_appP (e := e) (xs := ys) (y := y) (f := fun st => .ok (e y) st) (st := (S p.2).set j (.ow ((xs.eraseIdx q).map e))) (i := i) h3 rfl h3
          have ee : (xs.map e).eraseIdx q = (xs.eraseIdx q).map e := by
            clear hs hq hj h2
            exact erase_map e xs q
          have e1 : sExpr (dAppend i (dPopAt j f)) st = sExpr (dAppend i fun st => .ok (e y) st) ((S p.2).set j (.ow ((xs.eraseIdx q).map e))) := by
            simp only [sExpr, dAppend, dPopAt, bindD, dOw, h, hj, hf, eI, mutD, h2, liftO, popAt, List.length_map, hs, List.getElem?_map, hq, Option.map_some, hb, if_true, setOw, retD, ee, h3]
          have := rs_x (X := false) (b := b) (K := K) hx (fun zs => hk p (y, xs.eraseIdx q) zs)
          exact rs_of_eq (by unfold sSeq; rw [e1]) this
        · rw [if_neg hb]; trivial
  | exn c fs => intro z; cases z
  | stuck => trivial
end
/-! comprehensions of new lists -/
section
variable {α β : Type} {vs : List Nat} {t : Tg} {elt : Den (List D)} {e : α → D} {e2 : β → D} {st st0 : DSt}
def compK2 (vs : List Nat) (t : Tg) (elt : Den (List D)) (ds : List D) : Den (List (List D)) := fun st =>
  if ds.length ≤ big ∧ vs.all (plainAt st) = true then
    match compGo2 vs t elt ds (wipeD st vs) with
    | .ok ys st' => .ok ys (backD st st' vs)
    | _ => .stuck
  else .stuck
theorem compGo2_typed {f : α → M (List β)} (hb : ∀ x, ∃ st1 st3, setT t (e x) st0 = some st1 ∧ RE elt st1 (f x) (List.map e2) st3 ∧ wipeD st3 vs = st0) :
    ∀ xs : List α, match mapGo f xs with | .ok ys => compGo2 vs t elt (xs.map e) st0 = .ok (ys.map (List.map e2)) st0 | _ => True
  | [] => rfl
  | x :: xs => by
    obtain ⟨st1, st3, h1, h2, h3⟩ := hb x
    have ih := compGo2_typed hb xs
    simp only [mapGo]
    cases hf : f x with
    | ok y =>
      rw [hf] at h2
      cases hr : mapGo f xs with
      | ok ys =>
        rw [hr] at ih
        simp only [] at ih ⊢
        simp only [List.map_cons, compGo2, h1]
        rw [show elt st1 = _ from h2]
        simp only [h3, ih]
      | exn c fs => trivial
      | stuck => trivial
    | exn c fs => trivial
    | stuck => trivial
theorem re_comp2 {xs : List α} {f : α → M (List β)} (st0 : DSt) (hw : wipeD st vs = st0) (hp : vs.all (plainAt st) = true) (hbk : backD st st0 vs = st)
    (hb : ∀ x, ∃ st1 st3, setT t (e x) st0 = some st1 ∧ RE elt st1 (f x) (List.map e2) st3 ∧ wipeD st1 vs = st0 ∧ wipeD st3 vs = st0) : RE (compK2 vs t elt (xs.map e)) st (pMap f xs) (List.map (List.map e2)) st := by
  unfold pMap
  by_cases hl : xs.length ≤ big
  · rw [if_pos hl]
    have h := compGo2_typed (vs := vs) (t := t) (elt := elt) (e := e) (e2 := e2) (f := f) (st0 := st0) (fun x => by
      obtain ⟨st1, st3, h1, h2, h3, h4⟩ := hb x
      exact ⟨st1, st3, h1, h2, h4⟩) xs
    cases hr : mapGo f xs with
    | ok ys =>
      rw [hr] at h
      simp only [] at h
      show compK2 vs t elt (xs.map e) st = _
      unfold compK2
      rw [if_pos ⟨by rw [List.length_map]; exact hl, hp⟩, hw, h]
      simp only [hbk]
    | exn c fs => rw [mapGo_fil] at hr; exact absurd hr (filGo_exn xs)
    | stuck => trivial
  · rw [if_neg hl]; trivial
end
end DL

namespace DL
open PySem L2
/-! ### plain laws about the typed functions -/
def ix {α : Type} [Inhabited α] (xs : List α) (i : Int) : α := xs.getD i.toNat default
section
variable {α β σ ρ : Type}
theorem pAt_ok [Inhabited α] {xs : List α} {i : Int} (h0 : 0 ≤ i) (h1 : i < xs.length) : pAt xs i = .ok (ix xs i) := by
  obtain ⟨k, rfl⟩ := Int.eq_ofNat_of_zero_le h0
  have hk : k < xs.length := by omega
  unfold pAt ix
  rw [atI_nat, List.getElem?_eq_getElem hk, List.getD_eq_getElem?_getD]
  simp [hk]
theorem ix_mem [Inhabited α] {xs : List α} {i : Int} (h0 : 0 ≤ i) (h1 : i < xs.length) : ix xs i ∈ xs := by
  unfold ix
  have hk : i.toNat < xs.length := by omega
  rw [List.getD_eq_getElem?_getD, List.getElem?_eq_getElem hk]
  simp
theorem mem_ix [Inhabited α] {xs : List α} {x : α} (h : x ∈ xs) : ∃ i : Int, 0 ≤ i ∧ i < xs.length ∧ ix xs i = x := by
  obtain ⟨k, hk, rfl⟩ := List.getElem_of_mem h
  refine ⟨(k : Int), by omega, by omega, ?_⟩
  simp [ix, hk]
theorem ix_ext [Inhabited α] {xs ys : List α} (hl : xs.length = ys.length) (h : ∀ i : Int, 0 ≤ i → i < xs.length → ix xs i = ix ys i) : xs = ys := by
  apply List.ext_getElem hl
  intro k h1 h2
  have := h k (by omega) (by omega)
  simpa [ix, h1, h2] using this
theorem ix_app1 [Inhabited α] {xs ys : List α} {i : Int} (h0 : 0 ≤ i) (h : i < xs.length) : ix (xs ++ ys) i = ix xs i := by
  unfold ix
  have hk : i.toNat < xs.length := by omega
  rw [List.getD_eq_getElem?_getD, List.getD_eq_getElem?_getD, List.getElem?_append_left hk]
theorem ix_app2 [Inhabited α] {xs ys : List α} {i : Int} (h : (xs.length : Int) ≤ i) : ix (xs ++ ys) i = ix ys (i - xs.length) := by
  unfold ix
  have hk : xs.length ≤ i.toNat := by omega
  rw [List.getD_eq_getElem?_getD, List.getD_eq_getElem?_getD, List.getElem?_append_right hk]
  congr 2; omega
@[simp] theorem ix_cons0 [Inhabited α] {x : α} {xs : List α} : ix (x :: xs) 0 = x := rfl
theorem ix_cons [Inhabited α] {x : α} {xs : List α} {i : Int} (h : 0 < i) : ix (x :: xs) i = ix xs (i - 1) := by
  unfold ix
  obtain ⟨k, hk⟩ : ∃ k : Nat, i = k + 1 := ⟨(i - 1).toNat, by omega⟩
  subst hk
  have : ((k : Int) + 1).toNat = k + 1 := by omega
  rw [this]
  simp
theorem ix_map [Inhabited α] [Inhabited β] {f : α → β} {xs : List α} {i : Int} (h0 : 0 ≤ i) (h : i < xs.length) : ix (xs.map f) i = f (ix xs i) := by
  unfold ix
  have hk : i.toNat < xs.length := by omega
  simp [hk]
/-! numbers below n -/
@[simp] theorem mem_rng {n x : Int} : x ∈ rng n ↔ 0 ≤ x ∧ x < n := by
  unfold rng
  rw [List.mem_map]
  constructor
  · rintro ⟨k, hk, rfl⟩
    rw [List.mem_range] at hk
    omega
  · intro ⟨h0, h1⟩
    exact ⟨x.toNat, by rw [List.mem_range]; omega, by omega⟩
theorem mem_rng2 {m n x : Int} : x ∈ rng2 m n ↔ m ≤ x ∧ x < n := by
  unfold rng2
  rw [List.mem_map]
  constructor
  · rintro ⟨k, hk, rfl⟩
    rw [List.mem_range] at hk
    omega
  · intro ⟨h0, h1⟩
    exact ⟨(x - m).toNat, by rw [List.mem_range]; omega, by omega⟩
@[simp] theorem len_rng {n : Int} : (rng n).length = n.toNat := by simp [rng]
@[simp] theorem len_rng2 {m n : Int} : (rng2 m n).length = (n - m).toNat := by simp [rng2]
theorem rng_nodup {n : Int} : (rng n).Nodup := by
  unfold rng
  exact List.nodup_range.map _ (fun a b h => by omega) |> id
theorem ix_rng {n i : Int} (h0 : 0 ≤ i) (h : i < n) : ix (rng n) i = i := by
  unfold ix rng
  have hk : i.toNat < n.toNat := by omega
  simp [hk]; omega
theorem ix_map_rng [Inhabited β] {f : Int → β} {n i : Int} (h0 : 0 ≤ i) (h : i < n) : ix ((rng n).map f) i = f i := by
  rw [ix_map h0 (by rw [len_rng]; omega), ix_rng h0 h]
theorem list_rng [Inhabited α] {xs : List α} {n : Int} (h : (xs.length : Int) = n) : xs = (rng n).map (ix xs) := by
  apply ix_ext
  · simp; omega
  · intro i h0 h1
    rw [ix_map_rng h0 (by omega)]
theorem rng_succ {n : Int} (h : 0 ≤ n) : rng (n + 1) = rng n ++ [n] := by
  unfold rng
  have : (n + 1).toNat = n.toNat + 1 := by omega
  rw [this, List.range_succ, List.map_append]
  simp; omega
@[simp] theorem rng_zero : rng 0 = [] := rfl
theorem pRng_ok {n : Int} (h0 : 0 ≤ n) (h : n ≤ 16777216) : pRng n = .ok (rng n) := by
  unfold pRng
  rw [if_pos (by have : big = 16777216 := rfl; omega)]
theorem pRng2_ok {m n : Int} (h0 : 0 ≤ m) (h1 : m ≤ 16777216) (h2 : 0 ≤ n) (h : n ≤ 16777216) : pRng2 m n = .ok (rng2 m n) := by
  unfold pRng2
  rw [if_pos (by have : big = 16777216 := rfl; omega)]
theorem pApp_ok {xs : List α} {y : α} (h : xs.length < 16777216) : pApp xs y = .ok (xs ++ [y]) := by
  unfold pApp
  rw [if_pos (by have : big = 16777216 := rfl; omega)]
theorem pCat_ok {xs ys : List α} (h : xs.length + ys.length ≤ 16777216) : pCat xs ys = .ok (xs ++ ys) := by
  unfold pCat
  rw [if_pos (by have : big = 16777216 := rfl; omega)]
theorem pMul_ok {a b : Int} (h : a.natAbs < 18446744073709551616) : pMul a b = .ok (a * b) := by
  unfold pMul smallI
  simp [h]
theorem pMul_ok2 {a b : Int} (h : b.natAbs < 18446744073709551616) : pMul a b = .ok (a * b) := by
  unfold pMul smallI
  simp [h]
theorem pDiv_ok {a b : Int} (h : 0 < b) (h2 : b < 1073741824) : pDiv a b = .ok (a / b) := by
  unfold pDiv
  rw [if_pos (by omega), Int.fdiv_eq_ediv_of_nonneg _ (by omega)]
theorem pMod_ok {a b : Int} (h : 0 < b) : pMod a b = .ok (a % b) := by
  unfold pMod
  rw [if_pos (by omega), Int.fmod_eq_emod_of_nonneg _ (by omega)]
theorem pSet_ok {xs : List α} {k : Int} {v : α} (h0 : 0 ≤ k) (h : k < xs.length) : pSet xs k v = .ok (xs.set k.toNat v) := by
  obtain ⟨j, rfl⟩ := Int.eq_ofNat_of_zero_le h0
  unfold pSet
  rw [ixN_nat, if_pos (by omega)]
  simp
/-- the first place -/
def idx [DecidableEq α] (xs : List α) (x : α) : Int := (xs.idxOf x : Int)
theorem pIndex_ok [DecidableEq α] {xs : List α} {x : α} (h : x ∈ xs) : pIndex xs x = .ok (idx xs x) := by unfold pIndex idx; rw [if_pos h]
theorem ix_set [Inhabited α] {xs : List α} {k i : Int} {v : α} (h0 : 0 ≤ k) (h : k < xs.length) (h2 : 0 ≤ i) : ix (xs.set k.toNat v) i = if i = k then v else ix xs i := by
  unfold ix
  have hk : k.toNat < xs.length := by omega
  by_cases e : i = k
  · subst e; simp [hk]
  · rw [if_neg e, List.getD_eq_getElem?_getD, List.getElem?_set_ne (by omega), ← List.getD_eq_getElem?_getD]
theorem ix_idx [DecidableEq α] [Inhabited α] {xs : List α} {x : α} (h : x ∈ xs) : ix xs (idx xs x) = x := by
  have := List.idxOf_lt_length_of_mem h
  unfold ix idx
  simp [this]
theorem idx_lt [DecidableEq α] {xs : List α} {x : α} (h : x ∈ xs) : 0 ≤ idx xs x ∧ idx xs x < xs.length := by
  have := List.idxOf_lt_length_of_mem h
  unfold idx
  omega
/-- nothing ahead of it is the same -/
theorem idx_first [DecidableEq α] [Inhabited α] {xs : List α} {x : α} {i : Int} (h0 : 0 ≤ i) (h : i < idx xs x) : ix xs i ≠ x := by
  unfold idx at h
  unfold ix
  have hl : i.toNat < xs.idxOf x := by omega
  have := List.not_of_lt_findIdx (p := (· == x)) (xs := xs) (i := i.toNat) hl
  intro e
  have hk : i.toNat < xs.length := Nat.lt_of_lt_of_le hl List.idxOf_le_length
  rw [List.getD_eq_getElem?_getD, List.getElem?_eq_getElem hk] at e
  simp only [Option.getD_some] at e
  rw [e] at this
  simp at this
theorem idx_eq [DecidableEq α] [Inhabited α] {xs : List α} {x : α} {i : Int} (h0 : 0 ≤ i) (h : i < xs.length) (e : ix xs i = x) (hf : ∀ j, 0 ≤ j → j < i → ix xs j ≠ x) : idx xs x = i := by
  have hm : x ∈ xs := by rw [← e]; exact ix_mem h0 h
  have h1 := idx_lt hm
  rcases Int.lt_trichotomy (idx xs x) i with q | q | q
  · exact absurd (ix_idx hm) (hf _ h1.1 q)
  · exact q
  · exact absurd e (idx_first h0 q)
theorem map_rng [Inhabited α] (f : α → β) (xs : List α) : xs.map f = (rng xs.length).map fun i => f (ix xs i) := by
  have h := list_rng (xs := xs) rfl
  conv => lhs; rw [h]
  rw [List.map_map]; rfl/-! parts of a list -/
theorem sIx_nn {n d : Nat} {k : Int} (h : 0 ≤ k) : HT.sIx n d (some k) = min k.toNat n := by
  unfold HT.sIx
  simp only
  split <;> omega
theorem cutD_to {xs : List α} {k : Int} (h : 0 ≤ k) : cutD xs none (some k) = xs.take k.toNat := by
  unfold cutD
  rw [sIx_nn h]
  show List.take _ (List.drop 0 xs) = _
  rw [List.drop_zero, show HT.sIx xs.length 0 none = 0 from rfl, Nat.sub_zero]
  rcases Nat.le_total k.toNat xs.length with q | q
  · rw [Nat.min_eq_left q]
  · rw [Nat.min_eq_right q, List.take_of_length_le q, List.take_of_length_le (Nat.le_refl _)]
theorem cutD_from {xs : List α} {k : Int} (h : 0 ≤ k) : cutD xs (some k) none = xs.drop k.toNat := by
  unfold cutD
  rw [sIx_nn h, show HT.sIx xs.length xs.length none = xs.length from rfl]
  rcases Nat.le_total k.toNat xs.length with q | q
  · rw [Nat.min_eq_left q, List.take_of_length_le (by simp)]
  · rw [Nat.min_eq_right q, List.drop_of_length_le q]; simp
theorem ix_take [Inhabited α] {xs : List α} {k i : Int} (h0 : 0 ≤ i) (h : i < k) : ix (xs.take k.toNat) i = ix xs i := by
  unfold ix
  rw [List.getD_eq_getElem?_getD, List.getElem?_take_of_lt (by omega), ← List.getD_eq_getElem?_getD]
theorem ix_drop [Inhabited α] {xs : List α} {k i : Int} (h0 : 0 ≤ i) (h : 0 ≤ k) : ix (xs.drop k.toNat) i = ix xs (k + i) := by
  unfold ix
  rw [List.getD_eq_getElem?_getD, List.getElem?_drop, ← List.getD_eq_getElem?_getD]
  congr 1; omega
/-! loops -/
theorem pfold_inv {F : α → σ → M σ} (I : List α → σ → Prop) : ∀ (xs pre : List α) (a : σ), I pre a → (∀ p x q a, pre ++ xs = p ++ x :: q → I p a → ∃ b, F x a = .ok b ∧ I (p ++ [x]) b) → ∃ b, pfold F xs a = .ok b ∧ I (pre ++ xs) b
  | [], pre, a, h, _ => ⟨a, rfl, by simpa using h⟩
  | x :: xs, pre, a, h, hs => by
    obtain ⟨b, h1, h2⟩ := hs pre x xs a rfl h
    obtain ⟨c, h3, h4⟩ := pfold_inv I xs (pre ++ [x]) b h2 (fun p y q a e => hs p y q a (by rw [← e]; simp))
    exact ⟨c, by simp only [pfold, h1, bind_ok, h3], by simpa using h4⟩
theorem pfold_ok {F : α → σ → M σ} {g : σ → α → σ} : ∀ {xs : List α} {a : σ}, (∀ x ∈ xs, ∀ a, F x a = .ok (g a x)) → pfold F xs a = .ok (xs.foldl g a)
  | [], a, _ => rfl
  | x :: xs, a, h => by
    simp only [pfold, h x List.mem_cons_self, bind_ok, List.foldl_cons]
    exact pfold_ok fun y hy => h y (List.mem_cons_of_mem _ hy)
theorem pfold_const {F : α → σ → M σ} {a : σ} : ∀ {xs : List α}, (∀ x ∈ xs, F x a = .ok a) → pfold F xs a = .ok a
  | [], _ => rfl
  | x :: xs, h => by
    simp only [pfold, h x List.mem_cons_self, bind_ok]
    exact pfold_const fun y hy => h y (List.mem_cons_of_mem _ hy)
/-- a loop that appends -/
theorem pfold_app {F : α → List β → M (List β)} (g : α → β) : ∀ (xs : List α) (a : List β), a.length + xs.length ≤ 16777216 → (∀ x ∈ xs, ∀ a : List β, a.length < 16777216 → F x a = .ok (a ++ [g x])) → pfold F xs a = .ok (a ++ xs.map g)
  | [], a, _, _ => by simp [pfold]
  | x :: xs, a, hl, h => by
    simp only [List.length_cons] at hl
    simp only [pfold, h x List.mem_cons_self a (by omega), bind_ok]
    rw [pfold_app g xs (a ++ [g x]) (by simp; omega) fun y hy => h y (List.mem_cons_of_mem _ hy)]
    simp
theorem rng_split {n x : Int} {p q : List Int} (e : rng n = p ++ x :: q) : p = rng x ∧ 0 ≤ x ∧ x < n := by
  have hx : x ∈ rng n := by rw [e]; simp
  have hx := mem_rng.mp hx
  have hlen : (p.length : Int) = x := by
    have h1 : ix (rng n) (p.length : Int) = x := by
      rw [e, ix_app2 (Int.le_refl _)]; simp
    have hl : p.length < (rng n).length := by rw [e]; simp
    rw [len_rng] at hl
    rwa [ix_rng (by omega) (by omega)] at h1
  refine ⟨?_, hx⟩
  have h2 : p = (rng n).take p.length := by rw [e]; simp
  rw [h2]
  apply ix_ext
  · simp; omega
  · intro i h0 h1
    simp at h1
    rw [ix_rng h0 (by omega)]
    unfold ix
    rw [List.getD_eq_getElem?_getD, List.getElem?_take_of_lt (by omega), ← List.getD_eq_getElem?_getD]
    exact ix_rng (n := n) h0 (by omega)
theorem pfold_rng {F : Int → σ → M σ} (I : Int → σ → Prop) {n : Int} {a : σ} (hn : 0 ≤ n) (h0 : I 0 a) (hs : ∀ k a, 0 ≤ k → k < n → I k a → ∃ b, F k a = .ok b ∧ I (k + 1) b) : ∃ b, pfold F (rng n) a = .ok b ∧ I n b := by
  obtain ⟨b, h1, h2⟩ := pfold_inv (F := F) (fun p a => I p.length a) (rng n) [] a (by simpa using h0) (fun p x q a e hi => by
    simp only [List.nil_append] at e
    obtain ⟨rfl, h1, h2⟩ := rng_split e
    obtain ⟨b, h3, h4⟩ := hs x a h1 h2 (by rw [len_rng] at hi; rwa [Int.toNat_of_nonneg h1] at hi)
    refine ⟨b, h3, ?_⟩
    rw [List.length_append, len_rng]
    simpa [Int.toNat_of_nonneg h1] using h4)
  refine ⟨b, h1, ?_⟩
  simpa [Int.toNat_of_nonneg hn] using h2
/-- loops that may leave -/
theorem pfor_all {F : α → σ → M (DL.F σ ρ)} {a : σ} : ∀ {xs : List α}, (∀ x ∈ xs, F x a = .ok (.nx a)) → pfor F xs a = .ok (.inl a)
  | [], _ => rfl
  | x :: xs, h => by
    simp only [pfor, h x List.mem_cons_self, bind_ok]
    exact pfor_all fun y hy => h y (List.mem_cons_of_mem _ hy)
theorem pfor_test {F : α → σ → M (DL.F σ ρ)} {a : σ} {p : α → Bool} {r : ρ} : ∀ {xs : List α}, (∀ x ∈ xs, F x a = .ok (if p x = true then .nx a else .ret r)) → pfor F xs a = .ok (if xs.all p = true then .inl a else .inr r)
  | [], _ => rfl
  | x :: xs, h => by
    have h1 := h x List.mem_cons_self
    by_cases hp : p x = true
    · rw [if_pos hp] at h1
      simp only [pfor, h1, bind_ok]
      rw [pfor_test (p := p) (r := r) fun y hy => h y (List.mem_cons_of_mem _ hy)]
      simp [hp]
    · rw [if_neg hp] at h1
      simp only [pfor, h1, bind_ok]
      simp [hp]
/-- .. with the first one that is told -/
theorem pfor_find {F : α → σ → M (DL.F σ ρ)} {a : σ} {p : α → Bool} {r : α → ρ} : ∀ {xs : List α}, (∀ x ∈ xs, F x a = .ok (if p x = true then .ret (r x) else .nx a)) → pfor F xs a = .ok (match xs.find? p with | some x => .inr (r x) | none => .inl a)
  | [], _ => rfl
  | x :: xs, h => by
    have h1 := h x List.mem_cons_self
    by_cases hp : p x = true
    · rw [if_pos hp] at h1
      simp only [pfor, h1, bind_ok]
      simp [hp]
    · rw [if_neg hp] at h1
      simp only [pfor, h1, bind_ok]
      rw [pfor_find (p := p) (r := r) fun y hy => h y (List.mem_cons_of_mem _ hy)]
      simp [hp]
theorem pfor_inv {F : α → σ → M (DL.F σ ρ)} (I : List α → σ → Prop) (R : ρ → Prop) : ∀ (xs pre : List α) (a : σ), I pre a → (∀ p x q a, pre ++ xs = p ++ x :: q → I p a → (∃ b, F x a = .ok (.nx b) ∧ I (p ++ [x]) b) ∨ ∃ r, F x a = .ok (.ret r) ∧ R r) → (∃ b, pfor F xs a = .ok (.inl b) ∧ I (pre ++ xs) b) ∨ ∃ r, pfor F xs a = .ok (.inr r) ∧ R r
  | [], pre, a, h, _ => .inl ⟨a, rfl, by simpa using h⟩
  | x :: xs, pre, a, h, hs => by
    rcases hs pre x xs a rfl h with ⟨b, h1, h2⟩ | ⟨r, h1, h2⟩
    · rcases pfor_inv I R xs (pre ++ [x]) b h2 (fun p y q a e => hs p y q a (by rw [← e]; simp)) with ⟨c, h3, h4⟩ | ⟨r, h3, h4⟩
      · exact .inl ⟨c, by simp only [pfor, h1, bind_ok, h3], by simpa using h4⟩
      · exact .inr ⟨r, by simp only [pfor, h1, bind_ok, h3], h4⟩
    · exact .inr ⟨r, by simp only [pfor, h1, bind_ok], h2⟩
end
/-! ### tables of numbers -/
def mul (T : List (List Int)) (x y : Int) : Int := ix (ix T x) y
def tab (n : Int) (f : Int → Int → Int) : List (List Int) := (rng n).map fun x => (rng n).map fun y => f x y
structure VT (n : Int) (T : List (List Int)) : Prop where
  len : (T.length : Int) = n
  row : ∀ r ∈ T, (r.length : Int) = n
  ent : ∀ r ∈ T, ∀ x ∈ r, 0 ≤ x ∧ x < n
def Asc (n : Int) (f : Int → Int → Int) : Prop := ∀ x y z, 0 ≤ x → x < n → 0 ≤ y → y < n → 0 ≤ z → z < n → f (f x y) z = f x (f y z)
section
variable {n : Int} {T : List (List Int)} {f : Int → Int → Int} {x y : Int}
theorem VT.n0 (V : VT n T) : 0 ≤ n := by have := V.len; omega
theorem VT.rowAt (V : VT n T) (h0 : 0 ≤ x) (h1 : x < n) : ix T x ∈ T := ix_mem h0 (by rw [V.len]; exact h1)
theorem VT.rlen (V : VT n T) (h0 : 0 ≤ x) (h1 : x < n) : ((ix T x).length : Int) = n := V.row _ (V.rowAt h0 h1)
theorem VT.lt (V : VT n T) (h0 : 0 ≤ x) (h1 : x < n) (h2 : 0 ≤ y) (h3 : y < n) : 0 ≤ mul T x y ∧ mul T x y < n := V.ent _ (V.rowAt h0 h1) _ (ix_mem h2 (by rw [V.rlen h0 h1]; exact h3))
theorem VT.at1 (V : VT n T) (h0 : 0 ≤ x) (h1 : x < n) : pAt T x = .ok (ix T x) := pAt_ok h0 (by rw [V.len]; exact h1)
theorem VT.at2 (V : VT n T) (h0 : 0 ≤ x) (h1 : x < n) (h2 : 0 ≤ y) (h3 : y < n) : pAt (ix T x) y = .ok (mul T x y) := pAt_ok h2 (by rw [V.rlen h0 h1]; exact h3)
theorem mul_tab (h0 : 0 ≤ x) (h1 : x < n) (h2 : 0 ≤ y) (h3 : y < n) : mul (tab n f) x y = f x y := by
  unfold mul tab
  rw [ix_map_rng h0 h1, ix_map_rng h2 h3]
theorem VT_tab (hn : 0 ≤ n) (h : ∀ x y, 0 ≤ x → x < n → 0 ≤ y → y < n → 0 ≤ f x y ∧ f x y < n) : VT n (tab n f) := by
  refine ⟨by simp [tab]; omega, fun r hr => ?_, fun r hr y hy => ?_⟩
  · obtain ⟨x, _, rfl⟩ := List.mem_map.mp hr
    simp; omega
  · obtain ⟨x, hx, rfl⟩ := List.mem_map.mp hr
    obtain ⟨y', hy2, rfl⟩ := List.mem_map.mp hy
    rw [mem_rng] at hx hy2
    exact h x y' hx.1 hx.2 hy2.1 hy2.2
theorem row_rng (V : VT n T) (h0 : 0 ≤ x) (h1 : x < n) : ix T x = (rng n).map (mul T x) := list_rng (V.rlen h0 h1)
theorem eq_tab (V : VT n T) : T = tab n (mul T) := by
  rw [show T = _ from list_rng V.len]
  unfold tab
  apply List.map_congr_left
  intro x hx
  rw [mem_rng] at hx
  rw [← list_rng V.len]
  exact row_rng V hx.1 hx.2
theorem VT_ext {S : List (List Int)} (V : VT n T) (W : VT n S) (h : ∀ x y, 0 ≤ x → x < n → 0 ≤ y → y < n → mul T x y = mul S x y) : T = S := by
  rw [eq_tab V, eq_tab W]
  unfold tab
  apply List.map_congr_left
  intro x hx
  apply List.map_congr_left
  intro y hy
  rw [mem_rng] at hx hy
  exact h x y hx.1 hx.2 hy.1 hy.2
theorem tab_congr {g : Int → Int → Int} (h : ∀ x y, 0 ≤ x → x < n → 0 ≤ y → y < n → f x y = g x y) : tab n f = tab n g := by
  unfold tab
  apply List.map_congr_left
  intro x hx
  apply List.map_congr_left
  intro y hy
  rw [mem_rng] at hx hy
  exact h x y hx.1 hx.2 hy.1 hy.2
theorem Asc_tab (h : Asc n f) (hc : ∀ x y, 0 ≤ x → x < n → 0 ≤ y → y < n → 0 ≤ f x y ∧ f x y < n) : Asc n (mul (tab n f)) := by
  intro x y z hx hx' hy hy' hz hz'
  have h1 := hc x y hx hx' hy hy'
  have h2 := hc y z hy hy' hz hz'
  rw [mul_tab hx hx' hy hy', mul_tab hy hy' hz hz', mul_tab h1.1 h1.2 hz hz', mul_tab hx hx' h2.1 h2.2]
  exact h x y z hx hx' hy hy' hz hz'
end
/-- a table made by two blocks, one in the other -/
theorem pMap_tab {n : Int} {F : Int → Int → M Int} {f : Int → Int → Int} (h0 : 0 ≤ n) (hn : n ≤ 16777216) (h : ∀ x y, 0 ≤ x → x < n → 0 ≤ y → y < n → F x y = .ok (f x y)) : pMap (fun x => pMap (F x) (rng n)) (rng n) = .ok (tab n f) := by
  refine pMap_ok (fun x => (rng n).map (f x)) (by rw [len_rng]; have : big = 16777216 := rfl; omega) fun x hx => ?_
  rw [mem_rng] at hx
  refine pMap_ok (f x) (by rw [len_rng]; have : big = 16777216 := rfl; omega) fun y hy => ?_
  rw [mem_rng] at hy
  exact h x y hx.1 hx.2 hy.1 hy.2
/-! ### it ends well -/
def Ok {α : Type} (o : M α) (Q : α → Prop) : Prop := ∃ a, o = .ok a ∧ Q a
section
variable {α β σ ρ : Type}
theorem Ok.of {o : M α} {a : α} {Q : α → Prop} (e : o = .ok a) (q : Q a) : Ok o Q := ⟨a, e, q⟩
theorem Ok.pure {a : α} {Q : α → Prop} (q : Q a) : Ok (.ok a) Q := ⟨a, rfl, q⟩
theorem Ok.bind {o : M α} {k : α → M β} {P : α → Prop} {Q : β → Prop} (h : Ok o P) (hk : ∀ a, P a → Ok (k a) Q) : Ok (o.bind k) Q := by
  obtain ⟨a, rfl, p⟩ := h
  exact hk a p
theorem Ok.bind_eq {o : M α} {k : α → M β} {a : α} {Q : β → Prop} (h : o = .ok a) (hk : Ok (k a) Q) : Ok (o.bind k) Q := by subst h; exact hk
theorem Ok.imp {o : M α} {P Q : α → Prop} (h : Ok o P) (i : ∀ a, P a → Q a) : Ok o Q := let ⟨a, e, p⟩ := h; ⟨a, e, i a p⟩
theorem Ok.ite {x : Bool} {o1 o2 : M α} {Q : α → Prop} (h1 : x = true → Ok o1 Q) (h2 : x = false → Ok o2 Q) : Ok (if x = true then o1 else o2) Q := by
  cases x with
  | true => exact h1 rfl
  | false => exact h2 rfl
theorem Ok.eq {o : M α} {a : α} (h : Ok o (fun b => b = a)) : o = .ok a := by obtain ⟨b, e, rfl⟩ := h; exact e
theorem Ok.mk {o : M α} {a : α} (h : o = .ok a) : Ok o (fun b => b = a) := ⟨a, h, rfl⟩
theorem Ok.nx {o : M α} {Q : α → Prop} (h : Ok o Q) : Ok (pNX o) Q := by obtain ⟨a, rfl, q⟩ := h; exact ⟨a, rfl, q⟩
theorem Ok.fold {F : α → σ → M σ} {xs : List α} {a : σ} {Q : σ → Prop} (I : List α → σ → Prop) (h0 : I [] a) (hs : ∀ p x q a, xs = p ++ x :: q → I p a → Ok (F x a) (I (p ++ [x]))) (hq : ∀ b, I xs b → Q b) : Ok (pfold F xs a) Q := by
  obtain ⟨b, e, h⟩ := pfold_inv I xs [] a h0 hs
  exact ⟨b, e, hq b h⟩
theorem Ok.fold_rng {F : Int → σ → M σ} {n : Int} {a : σ} {Q : σ → Prop} (I : Int → σ → Prop) (hn : 0 ≤ n) (h0 : I 0 a) (hs : ∀ k a, 0 ≤ k → k < n → I k a → Ok (F k a) (I (k + 1))) (hq : ∀ b, I n b → Q b) : Ok (pfold F (rng n) a) Q := by
  obtain ⟨b, e, h⟩ := pfold_rng I hn h0 hs
  exact ⟨b, e, hq b h⟩
/-- an invariant that holds at each turn -/
theorem Ok.fold_all {F : α → σ → M σ} {xs : List α} {a : σ} (I : σ → Prop) (h0 : I a) (hs : ∀ x ∈ xs, ∀ a, I a → Ok (F x a) I) : Ok (pfold F xs a) I :=
  Ok.fold (fun _ => I) h0 (fun p x q a e h => hs x (by rw [e]; simp) a h) fun _ h => h
theorem Ok.map {f : α → M β} {xs : List α} {Q : β → Prop} (hl : xs.length ≤ 16777216) (h : ∀ x ∈ xs, Ok (f x) Q) : Ok (pMap f xs) (fun ys => ys.length = xs.length ∧ ∀ y ∈ ys, Q y) := by
  unfold pMap
  rw [if_pos (by have : big = 16777216 := rfl; omega)]
  clear hl
  induction xs with
  | nil => exact ⟨[], rfl, rfl, fun _ h => by cases h⟩
  | cons x xs ih =>
    obtain ⟨y, e, q⟩ := h x List.mem_cons_self
    obtain ⟨ys, e2, hl, q2⟩ := ih fun z hz => h z (List.mem_cons_of_mem _ hz)
    refine ⟨y :: ys, by simp only [mapGo, e, e2], by simp [hl], fun z hz => ?_⟩
    rcases List.mem_cons.mp hz with rfl | hz
    · exact q
    · exact q2 z hz
end
/-! ### draws -/
structure Good (s t : Int) : Prop where
  s0 : 0 ≤ s
  t0 : 0 ≤ t
  t1 : t < 2147483647
def StOk (r : List Int) : Prop := ∃ s t, r = [s, t] ∧ Good s t
/-- from any state a value with Q comes, and a state -/
def Draw {α : Type} (f : List Int → M (α × List Int)) (Q : α → Prop) : Prop := ∀ r, StOk r → Ok (f r) (fun p => Q p.1 ∧ StOk p.2)
theorem Draw.imp {α : Type} {f : List Int → M (α × List Int)} {Q R : α → Prop} (h : Draw f Q) (i : ∀ a, Q a → R a) : Draw f R := fun r g => (h r g).imp fun _ q => ⟨i _ q.1, q.2⟩
theorem mapS_draw {α β : Type} {F : α → List Int → M (β × List Int)} {Q : β → Prop} : ∀ {xs : List α}, (∀ x ∈ xs, Draw (F x) Q) → Draw (mapS F xs) (fun ys => ys.length = xs.length ∧ ∀ y ∈ ys, Q y)
  | [], _ => fun r g => ⟨_, rfl, ⟨rfl, fun _ h => by cases h⟩, g⟩
  | x :: xs, h => fun r g =>
    (h x List.mem_cons_self r g).bind fun y hy => (mapS_draw (Q := Q) (F := F) (xs := xs) (fun y hy => h y (List.mem_cons_of_mem _ hy)) y.2 hy.2).bind fun ys hys => ⟨_, rfl, ⟨by simp [hys.1.1], fun z hz => by
      rcases List.mem_cons.mp hz with rfl | hz
      · exact hy.1
      · exact hys.1.2 z hz⟩, hys.2⟩
theorem pMapS_draw {α β : Type} {F : α → List Int → M (β × List Int)} {Q : β → Prop} {xs : List α} (hl : xs.length ≤ 16777216) (h : ∀ x ∈ xs, Draw (F x) Q) : Draw (pMapS F xs) (fun ys => ys.length = xs.length ∧ ∀ y ∈ ys, Q y) := by
  intro r g
  unfold pMapS
  rw [if_pos (by have : big = 16777216 := rfl; omega)]
  exact mapS_draw h r g
end DL

namespace DL
open PySem L2
/-! ### try -/
def tryM {α γ : Type} (o : M α) (k : α → M γ) (h : Str → List (Str × D) → M γ) : M γ := match o with
  | .ok a => k a
  | .exn c fs => h c fs
  | .stuck => .stuck
def pMt {γ : Type} (mt : List (Str × Str × Bool)) (c x : Str) (o1 o2 : M γ) : M γ := match mtB mt c x with
  | some true => o1
  | some false => o2
  | none => .stuck
def pXf (c : Str) (fs : List (Str × D)) (c0 f : Str) : M D := match fs with
  | [(nm, x)] => if c = c0 ∧ nm = f then .ok x else .stuck
  | _ => .stuck
section
variable {α γ δ : Type} {X : Bool} {st st1 st2 : DSt} {K : γ → Fl → DSt → Prop} {o : M α} {b : DS} {w : α → D} {mt : List (Str × Str × Bool)} {hs r : List HdD} {k : α → M γ} {h : Str → List (Str × D) → M γ}
theorem rv_consL {a : Den D} {r : Den (List D)} {x : D} {xs : List D} (h1 : RV a st x st1) (h2 : RV r st1 xs st2) : RV (dCons a r) st (x :: xs) st2 := rv_bind h1 (rv_bind h2 rv_ret)
theorem rs_tryE {df : List D → M D} {fa : Den (List D)} {ds : List D} (ha : RV fa st ds st1) (hd : DM (df ds) o w) (h1 : ∀ c, RS X b st1 (k c) K) (h2 : ∀ c fs, RS X (sSeq (runH mt c fs hs) b) st1 (h c fs) K) :
    RS X (sSeq (sTry mt (sExpr (dCall df fa)) hs) b) st (tryM o k h) K := by
  have ha : fa st = .ok ds st1 := ha
  cases o with
  | ok c => exact rs_of_eq (st1 := st1) (g := b) (by unfold sSeq sTry sExpr dCall; simp only [bindD, ha, liftM']; rw [show df ds = _ from hd]; rfl) (h1 c)
  | exn c fs => exact rs_of_eq (st1 := st1) (g := sSeq (runH mt c fs hs) b) (by unfold sSeq sTry sExpr dCall; simp only [bindD, ha, liftM']; rw [show df ds = _ from hd]) (h2 c fs)
  | stuck => trivial
theorem rs_tryR {df : List D → M D} {fa : Den (List D)} {ds : List D} {g : α → γ} (ha : RV fa st ds st1) (hd : DM (df ds) o w) (h1 : ∀ c, K (g c) (.ret (w c)) st1) (h2 : ∀ c fs, RS X (sSeq (runH mt c fs hs) b) st1 (h c fs) K) :
    RS X (sSeq (sTry mt (sRet (dCall df fa)) hs) b) st (tryM o (fun c => .ok (g c)) h) K := by
  have ha : fa st = .ok ds st1 := ha
  cases o with
  | ok c => exact ⟨.ret (w c), st1, by unfold sSeq sTry sRet dCall; simp only [bindD, ha, liftM']; rw [show df ds = _ from hd]; rfl, h1 c⟩
  | exn c fs => exact rs_of_eq (st1 := st1) (g := sSeq (runH mt c fs hs) b) (by unfold sSeq sTry sRet dCall; simp only [bindD, ha, liftM']; rw [show df ds = _ from hd]) (h2 c fs)
  | stuck => trivial
theorem rs_runN {c : Str} {fs : List (Str × D)} : RS X (sSeq (runH mt c fs []) b) st (.exn c fs : M γ) K := fun _ => ⟨st, rfl⟩
theorem rs_runU {c x : Str} {fs : List (Str × D)} {den : DS} {o1 o2 : M γ} (h1 : RS X (sSeq (noX den) b) st o1 K) (h2 : RS X (sSeq (runH mt c fs r) b) st o2 K) : RS X (sSeq (runH mt c fs (⟨x, none, den⟩ :: r)) b) st (pMt mt c x o1 o2) K := by
  unfold pMt
  cases hm : mtB mt c x with
  | none => trivial
  | some q => cases q with
    | true => exact rs_of_eq (st1 := st) (g := sSeq (noX den) b) (by unfold sSeq; simp only [runH, hm]) h1
    | false => exact rs_of_eq (st1 := st) (g := sSeq (runH mt c fs r) b) (by unfold sSeq; simp only [runH, hm]) h2
/-- a named clause that gives something back -/
theorem rs_runNR {c x : Str} {fs : List (Str × D)} {i : Nat} {f : Den D} {o1 : M α} {v : α → D} {g : α → γ} {o2 : M γ} (hn : noXc st = true) (hi : i < st.length) (hn2 : noXc (st.set i .no) = true) (hf : RE f (st.set i (xcSlot c fs)) o1 v (st.set i (xcSlot c fs))) (hK : ∀ a, K (g a) (.ret (v a)) (st.set i .no))
    (h2 : RS X (sSeq (runH mt c fs r) b) st o2 K) : RS X (sSeq (runH mt c fs (⟨x, some i, sRet f⟩ :: r)) b) st (pMt mt c x (pNX (o1.bind fun a => .ok (g a))) o2) K := by
  unfold pMt
  cases hm : mtB mt c x with
  | none => trivial
  | some q => cases q with
    | true =>
      cases o1 with
      | ok a =>
        refine ⟨.ret (v a), st.set i .no, ?_, hK a⟩
        have hf : f (st.set i (xcSlot c fs)) = .ok (v a) (st.set i (xcSlot c fs)) := hf
        unfold sSeq
        simp only [runH, hm]
        rw [if_pos ⟨hn, hi⟩]
        simp only [clrS, sRet, bindD, hf, retD, List.set_set, hn2, if_true]
      | exn c fs => trivial
      | stuck => trivial
    | false => exact rs_of_eq (st1 := st) (g := sSeq (runH mt c fs r) b) (by unfold sSeq; simp only [runH, hm]) h2
theorem rs_hretP {f : Den D} {d : D} {c : γ} (hf : RV f st d st1) (hK : K c (.ret d) st1) : RS X (sSeq (noX (sRet f)) b) st (.ok c) K :=
  ⟨.ret d, st1, by unfold sSeq noX sRet; simp only [bindD]; rw [show f st = _ from hf]; rfl, hK⟩
theorem rs_hsetP {f : Den D} {d : D} {i : Nat} {o : M γ} (st2 : DSt) (hf : RV f st d st1) (hs : slotSet i (.sh d) st1 = some st2) (h : RS X b st2 o K) : RS X (sSeq (noX (sSet i f)) b) st o K :=
  rs_of_eq (st1 := st2) (g := b) (by unfold sSeq noX sSet putD; simp only [bindD]; rw [show f st = _ from hf]; simp only [hs]) h
theorem rs_hpass {o : M γ} (h : RS X b st o K) : RS X (sSeq (noX sPass) b) st o K := h
theorem re_xf {i : Nat} {c c0 f : Str} {fs : List (Str × D)} (h : st[i]? = some (xcSlot c fs)) : RE (dXf i c0 f) st (pXf c fs c0 f) eD st := by
  unfold pXf
  split
  · rename_i nm x
    by_cases q : c = c0 ∧ nm = f
    · rw [if_pos q]
      show dXf i c0 f st = _
      unfold dXf
      rw [h]
      simp only [xcSlot, q, and_self, if_true]
    · rw [if_neg q]; trivial
  · trivial
/-- any body, where the clauses only tell a constant -/
theorem rs_tryB {body : DS} {σ ρ : Type} {ob : M (σ ⊕ ρ)} {I : σ → DSt → Prop} {hf : ρ → γ} {o2 : σ → M γ} {hh : Str → List (Str × D) → M ρ} (h1 : RS true body st ob (KS I (KR K hf))) (h3 : ∀ c st', I c st' → RS X b st' (o2 c) K)
    (h2 : ∀ c fs st', RS X (runH mt c fs hs) st' (hh c fs) (KR K hf)) (hx : X = false) : RS X (sSeq (sTry mt body hs) b) st (tryM ob (fun r => pK r o2 hf) (fun c fs => (hh c fs).bind fun r => .ok (hf r))) K := by
  subst hx
  cases ob with
  | ok r =>
    obtain ⟨fl, st', e, hk⟩ := h1
    cases r with
    | inl a =>
      obtain ⟨rfl, hi⟩ := hk
      exact rs_of_eq (st1 := st') (by unfold sSeq sTry; rw [e]) (h3 a st' hi)
    | inr r =>
      obtain ⟨⟨d, rfl⟩, hk⟩ := hk
      exact ⟨.ret d, st', by unfold sSeq sTry; rw [e], hk⟩
  | exn c fs =>
    obtain ⟨s, e⟩ := h1 rfl
    have h2 := h2 c fs s
    simp only [tryM]
    cases hq : hh c fs with
    | ok r =>
      rw [hq] at h2
      obtain ⟨fl, st', e2, ⟨d, rfl⟩, hk⟩ := h2
      exact ⟨.ret d, st', by unfold sSeq sTry; rw [e]; simp only [e2], hk⟩
    | exn c' fs' => intro z; cases z
    | stuck => trivial
  | stuck => trivial
theorem rs_runU' {σ : Type} {K : σ → Fl → DSt → Prop} {c x : Str} {fs : List (Str × D)} {den : DS} {o1 o2 : M σ} (h1 : RS X (noX den) st o1 K) (h2 : RS X (runH mt c fs r) st o2 K) : RS X (runH mt c fs (⟨x, none, den⟩ :: r)) st (pMt mt c x o1 o2) K := by
  unfold pMt
  cases hm : mtB mt c x with
  | none => trivial
  | some q => cases q with
    | true => exact rs_of_eq (st1 := st) (g := noX den) (by simp only [runH, hm]) h1
    | false => exact rs_of_eq (st1 := st) (g := runH mt c fs r) (by simp only [runH, hm]) h2
theorem rs_runN' {σ : Type} {K : σ → Fl → DSt → Prop} {c : Str} {fs : List (Str × D)} : RS false (runH mt c fs []) st (.stuck : M σ) K := trivial
theorem rs_hconst {σ : Type} {K : σ → Fl → DSt → Prop} {d : D} {c : σ} (hK : ∀ st, K c (.ret d) st) : RS X (noX (sRet (dC d))) st (.ok c) K := ⟨.ret d, st, rfl, hK st⟩
end
theorem noXc_jk (j : Option D) : (!isXc (jk j)) = true := by cases j <;> rfl
theorem noXc_fz (z : Bool) (ds : List D) : (!isXc (fz z ds)) = true := by cases z <;> rfl
/-! ### tests of a block that change a list -/
def filS {α β τ : Type} (p : α → τ → M (Bool × τ)) (f : α → τ → M (β × τ)) : List α → τ → M (List β × τ)
  | [], r => .ok ([], r)
  | x :: xs, r => (p x r).bind fun q => if q.1 = true then (f x q.2).bind fun y => (filS p f xs y.2).bind fun ys => .ok (y.1 :: ys.1, ys.2) else filS p f xs q.2
def pFilS {α β τ : Type} (p : α → τ → M (Bool × τ)) (f : α → τ → M (β × τ)) (xs : List α) (r : τ) : M (List β × τ) := if xs.length ≤ big then filS p f xs r else .stuck
section
variable {α β τ : Type} {vs : List Nat} {t : Tg} {test : Den Bool} {elt : Den D} {e : α → D} {e2 : β → D} {S : τ → DSt}
theorem compGo_FS {f : α → τ → M (β × τ)} {p : α → τ → M (Bool × τ)} {S0 : τ → DSt} (S1 : α → τ → DSt) (hb : ∀ x r, setT t (e x) (S0 r) = some (S1 x r) ∧ RT test (S1 x r) (p x r) (fun b : Bool => b) (S1 x) ∧ RT elt (S1 x r) (f x r) e2 (S1 x) ∧ wipeD (S1 x r) vs = S0 r) :
    ∀ (xs : List α) (r : τ), match filS p f xs r with | .ok q => compGo vs t test elt (xs.map e) (S0 r) = .ok (q.1.map e2) (S0 q.2) | _ => True
  | [], r => rfl
  | x :: xs, r => by
    obtain ⟨h1, ht, _, _⟩ := hb x r
    simp only [filS]
    cases hp : p x r with
    | ok q =>
      rw [hp] at ht
      have ht : test (S1 x r) = .ok q.1 (S1 x q.2) := ht
      simp only [bind_ok]
      obtain ⟨b, r1⟩ := q
      cases b with
      | true =>
        obtain ⟨_, _, h2, _⟩ := hb x r1
        simp only [if_true]
        cases hf : f x r1 with
        | ok y =>
          rw [hf] at h2
          have h2 : elt (S1 x r1) = .ok (e2 y.1) (S1 x y.2) := h2
          have ih := compGo_FS S1 hb xs y.2
          have h4 := (hb x y.2).2.2.2
          simp only [bind_ok]
          cases hr : filS p f xs y.2 with
          | ok ys =>
            rw [hr] at ih
            simp only [] at ih
            simp only [bind_ok, List.map_cons, compGo, h1, ht, h2, h4, ih]
          | exn c fs => trivial
          | stuck => trivial
        | exn c fs => trivial
        | stuck => trivial
      | false =>
        have ih := compGo_FS S1 hb xs r1
        have h4 := (hb x r1).2.2.2
        simp only [Bool.false_eq_true, if_false]
        cases hr : filS p f xs r1 with
        | ok ys =>
          rw [hr] at ih
          simp only [] at ih
          simp only [List.map_cons, compGo, h1, ht, h4, ih]
        | exn c fs => trivial
        | stuck => trivial
    | exn c fs => trivial
    | stuck => trivial
theorem rt_compF {f : α → τ → M (β × τ)} {p : α → τ → M (Bool × τ)} {xs : List α} {r : τ} (S0 : τ → DSt) (S1 : α → τ → DSt) (hw : ∀ r, wipeD (S r) vs = S0 r) (hp : vs.all (plainAt (S r)) = true) (hbk : ∀ r', backD (S r) (S0 r') vs = S r')
    (hb : ∀ x r, setT t (e x) (S0 r) = some (S1 x r) ∧ RT test (S1 x r) (p x r) (fun b : Bool => b) (S1 x) ∧ RT elt (S1 x r) (f x r) e2 (S1 x) ∧ wipeD (S1 x r) vs = S0 r) : RT (compK vs t test elt (xs.map e)) (S r) (pFilS p f xs r) (List.map e2) S := by
  unfold pFilS
  by_cases hl : xs.length ≤ big
  · rw [if_pos hl]
    have h := compGo_FS (vs := vs) (t := t) (test := test) (elt := elt) (e := e) (e2 := e2) (f := f) (p := p) S1 hb xs r
    cases hr : filS p f xs r with
    | ok q =>
      rw [hr] at h
      simp only [] at h
      show compK vs t test elt (xs.map e) (S r) = _
      unfold compK
      rw [if_pos ⟨by rw [List.length_map]; exact hl, hp⟩, hw, h]
      simp only [hbk]
    | exn c fs => trivial
    | stuck => trivial
  · rw [if_neg hl]; trivial
end
/-! ### two clauses -/
section
variable {α β γ : Type} {vs vs1 : List Nat} {t t1 : Tg} {fi1 : Den (List D)} {test test1 : Den Bool} {elt : Den D} {e : α → D} {e1 : β → D} {e2 : γ → D} {st : DSt}
def compKB (vs vs1 : List Nat) (t : Tg) (test : Den Bool) (t1 : Tg) (fi1 : Den (List D)) (test1 : Den Bool) (elt : Den D) (ds : List D) : Den (List D) := fun st =>
  if vs.all (plainAt st) = true then
    match goB vs vs1 t test t1 fi1 test1 elt ds (wipeD st vs) with
    | .ok ys st' => if ys.length ≤ big then .ok ys (backD st st' vs) else .stuck
    | _ => .stuck
  else .stuck
theorem goB_typed {p : α → M Bool} {g : α → M (List β)} {q : α → β → M Bool} {f : α → β → M γ} {st0 : DSt}
    (hb : ∀ x, ∃ sa sb sc sd, setT t (e x) st0 = some sa ∧ RE test sa (p x) (fun b : Bool => b) sb ∧ RE fi1 sb (g x) (List.map e1) sc ∧ wipeD sc vs1 = sd ∧ wipeD sd vs = st0 ∧ wipeD sb vs = st0 ∧
      ∀ y, ∃ s1 s2 s3, setT t1 (e1 y) sd = some s1 ∧ RE test1 s1 (q x y) (fun b : Bool => b) s2 ∧ RE elt s2 (f x y) e2 s3 ∧ wipeD s2 vs1 = sd ∧ wipeD s3 vs1 = sd) :
    ∀ xs : List α, match goP p g q f xs with | .ok ys => goB vs vs1 t test t1 fi1 test1 elt (xs.map e) st0 = .ok (ys.map e2) st0 | _ => True
  | [] => rfl
  | x :: xs => by
    obtain ⟨sa, sb, sc, sd, h1, h2, h3, h4, h5, h5', h6⟩ := hb x
    have ih := goB_typed hb xs
    simp only [goP]
    cases hp : p x with
    | ok c =>
      rw [hp] at h2
      have h2 : test sa = .ok c sb := h2
      cases c with
      | true =>
        simp only []
        cases hg : g x with
        | ok ys =>
          rw [hg] at h3
          have h3 : fi1 sb = .ok (ys.map e1) sc := h3
          simp only []
          have hin := compGo_typed (vs := vs1) (t := t1) (test := test1) (elt := elt) (e := e1) (e2 := e2) (p := q x) (f := f x) (st0 := sd) h6 ys
          cases hr : filGo (q x) (f x) ys with
          | ok zs =>
            rw [hr] at hin
            simp only [] at hin ⊢
            cases hq : goP p g q f xs with
            | ok ws =>
              rw [hq] at ih
              simp only [] at ih ⊢
              simp only [List.map_cons, goB, h1, h2, h3, h4, hin, h5, ih, List.map_append]
            | exn c fs => trivial
            | stuck => trivial
          | exn c fs => trivial
          | stuck => trivial
        | exn c fs => trivial
        | stuck => trivial
      | false =>
        simp only []
        cases hq : goP p g q f xs with
        | ok ws =>
          rw [hq] at ih
          simp only [] at ih ⊢
          simp only [List.map_cons, goB, h1, h2, h5', ih]
        | exn c fs => trivial
        | stuck => trivial
    | exn c fs => trivial
    | stuck => trivial
theorem re_compB {xs : List α} {p : α → M Bool} {g : α → M (List β)} {q : α → β → M Bool} {f : α → β → M γ} (st0 : DSt) (hw : wipeD st vs = st0) (hp : vs.all (plainAt st) = true) (hbk : backD st st0 vs = st)
    (hb : ∀ x, ∃ sa sb sc sd, setT t (e x) st0 = some sa ∧ RE test sa (p x) (fun b : Bool => b) sb ∧ RE fi1 sb (g x) (List.map e1) sc ∧ wipeD sc vs1 = sd ∧ wipeD sd vs = st0 ∧ wipeD sb vs = st0 ∧
      ∀ y, ∃ s1 s2 s3, setT t1 (e1 y) sd = some s1 ∧ RE test1 s1 (q x y) (fun b : Bool => b) s2 ∧ RE elt s2 (f x y) e2 s3 ∧ wipeD s2 vs1 = sd ∧ wipeD s3 vs1 = sd) :
    RE (compKB vs vs1 t test t1 fi1 test1 elt (xs.map e)) st (pFilB p g q f xs) (List.map e2) st := by
  unfold pFilB
  have h := goB_typed (vs := vs) (vs1 := vs1) (t := t) (t1 := t1) (fi1 := fi1) (test := test) (test1 := test1) (elt := elt) (e := e) (e1 := e1) (e2 := e2) hb xs
  cases hr : goP p g q f xs with
  | ok ys =>
    rw [hr] at h
    simp only [] at h ⊢
    by_cases hl : ys.length ≤ big
    · rw [if_pos hl]
      show compKB vs vs1 t test t1 fi1 test1 elt (xs.map e) st = _
      unfold compKB
      rw [if_pos hp, hw, h]
      simp only [List.length_map, hl, if_true, hbk]
    · rw [if_neg hl]; trivial
  | exn c fs => trivial
  | stuck => trivial
end
/-! ### stores of a changing expression -/
def store2K (i : Nat) (e1 e2 : Den D) (v : D) : DS := bindD (dO2 i) fun _ => bindD e1 fun k1 => bindD (dO2 i) fun dss => bindD (liftO (rowAt dss k1)) fun r => bindD (hideD i) fun _ => bindD (noX e2) fun k2 =>
  bindD (liftO (rowAt r.2 k2)) fun q => bindD (backO i (dss.set r.1 (r.2.set q.1 v))) fun _ => retD .nx
section
variable {α : Type} {e : α → D} {st : DSt} {i : Nat}
theorem x_set2K {xss : List (List α)} {e1 e2 : Den D} {k l : Int} {v : α} (h : st[i]? = some (.o2 (xss.map (List.map e)))) (h1 : RV e1 st (eI k) st) (h2 : RV e2 (st.set i .no) (eI l) (st.set i .no)) :
    RX (store2K i e1 e2 (e v)) st (pSet2 xss k l v) (fun ys => st.set i (.o2 (ys.map (List.map e)))) := by
  have := x_set2 (f := dC (e v)) (v := v) h rfl h1 h2
  cases hp : pSet2 xss k l v with
  | ok c => rw [hp] at this; exact this
  | exn c fs => rw [hp] at this; exact this
  | stuck => trivial
end
/-! peeks at objects -/
section
variable {α β γ δ : Type} {a : α → D} {b : β → D} {c : γ → D} {d : δ → D}
theorem nol_C2 {n n1 n2 : Str} (h : ∀ x, nol (a x) = true) (h2 : ∀ x, nol (b x) = true) (x : α × β) : nol (eC2 n n1 n2 a b x) = true := by simp [eC2, nol, nols, h, h2]
theorem nol_C3 {n n1 n2 n3 : Str} (h : ∀ x, nol (a x) = true) (h2 : ∀ x, nol (b x) = true) (h3 : ∀ x, nol (c x) = true) (x : α × β × γ) : nol (eC3 n n1 n2 n3 a b c x) = true := by simp [eC3, nol, nols, h, h2, h3]
theorem nol_P3 (h : ∀ x, nol (a x) = true) (h2 : ∀ x, nol (b x) = true) (h3 : ∀ x, nol (c x) = true) (x : α × β × γ) : nol (eP3 a b c x) = true := by simp [eP3, nol, nols, h, h2, h3]
end
end DL

namespace DL
open PySem L2
/-! ### a new list as a value, a value as a test -/
section
variable {α τ : Type} {st st1 : DSt} {e : α → D}
theorem o2_eL {xss : List (List α)} : D.lst ((xss.map (List.map e)).map D.lst) = eL (eL e) xss := by simp [eL, List.map_map, Function.comp_def]
theorem rv_frzN {a : Den (List D)} {ds : List D} {d : D} (h : RV a st ds st1) (hd : .lst ds = d) : RV (dFrz a) st d st1 := by subst hd; exact rv_bind h rv_ret
theorem re_frzN {a : Den (List D)} {o : M (List α)} (h : RE a st o (List.map e) st1) : RE (dFrz a) st o (eL e) st1 := re_tail h fun _ => rv_ret
theorem rt_frzN {a : Den (List D)} {o : M (List α × τ)} {S : τ → DSt} (h : RT a st o (List.map e) S) : RT (dFrz a) st o (eL e) S := rt_tail h fun _ => rv_ret
theorem rv_tst {a : Den D} {x : Bool} (h : RV a st (eB x) st1) : RV (dTst a) st x st1 := rv_bind h (rv_lift rfl)
theorem re_tst {a : Den D} {o : M Bool} (h : RE a st o eB st1) : RE (dTst a) st o (fun b : Bool => b) st1 := re_tail h fun _ => rv_lift rfl
theorem rt_tst {a : Den D} {o : M (Bool × τ)} {S : τ → DSt} (h : RT a st o eB S) : RT (dTst a) st o (fun b : Bool => b) S := rt_tail h fun _ => rv_lift rfl
end
/-! ### comparisons of any data, chains -/
def pCmp (p : Int → Int → Bool) : D → D → M Bool
  | .int i, .int j => .ok (p i j)
  | _, _ => .stuck
def pLtD : D → D → M Bool := pCmp fun i j => decide (i < j)
def pLeD : D → D → M Bool := pCmp fun i j => decide (i ≤ j)
def pGtD : D → D → M Bool := pCmp fun i j => decide (j < i)
def pGeD : D → D → M Bool := pCmp fun i j => decide (j ≤ i)
theorem op_cmpD {p : Int → Int → Bool} {x y : D} : OP (cmpI p x y) (pCmp p x y) eB := by
  cases x <;> try trivial
  cases y <;> trivial
theorem op_ltD {x y : D} : OP (opLt x y) (pLtD x y) eB := op_cmpD
theorem op_leD {x y : D} : OP (opLe x y) (pLeD x y) eB := op_cmpD
theorem op_gtD {x y : D} : OP (opGt x y) (pGtD x y) eB := op_cmpD
theorem op_geD {x y : D} : OP (opGe x y) (pGeD x y) eB := op_cmpD
section
variable {α γ δ : Type} {X : Bool} {st st1 st2 : DSt} {K : γ → Fl → DSt → Prop} {b b' : DS} {mt : List (Str × Str × Bool)} {hs : List HdD}
theorem re_chainG {op' : D → D → Option D} {o1 o2 : M Bool} {o : Option D} {c : Den D} {y w : D} (h1 : OP o o1 eB) (hc : RV c st w st) (h2 : OP (op' y w) o2 eB) :
    RE (bindD (liftO o) fun z => bindD (liftO (asB z)) fun k => if k = true then bindD c fun w => liftO (op' y w) else retD (.bl false)) st (o1.bind fun p => if p = true then o2 else .ok false) eB st := by
  cases o1 with
  | ok p =>
    have h1 : o = some (eB p) := h1
    subst h1
    cases p with
    | false => exact (rfl : _ = _)
    | true =>
      show RE (bindD c fun w => liftO (op' y w)) st o2 eB st
      exact re_bindP hc (re_lift h2)
  | exn c fs => exact h1.elim
  | stuck => trivial
/-! ### a body under try, piece by piece -/
theorem rs_tIte {t : Den Bool} {x : Bool} {A B : DS} {o1 o2 : M γ} (ht : RV t st x st1) (h1 : x = true → RS X (sSeq (sTry mt (sSeq A b') hs) b) st1 o1 K) (h2 : x = false → RS X (sSeq (sTry mt (sSeq B b') hs) b) st1 o2 K) :
    RS X (sSeq (sTry mt (sSeq (sIf t A B) b') hs) b) st (if x = true then o1 else o2) K := by
  have ht : t st = .ok x st1 := ht
  cases x with
  | true => exact rs_of_eq (st1 := st1) (g := sSeq (sTry mt (sSeq A b') hs) b) (by unfold sSeq sTry sIf; simp only [bindD, ht, if_true]) (h1 rfl)
  | false => exact rs_of_eq (st1 := st1) (g := sSeq (sTry mt (sSeq B b') hs) b) (by unfold sSeq sTry sIf; simp only [bindD, ht]; rfl) (h2 rfl)
theorem rs_tCall {df : List D → M D} {fa : Den (List D)} {ds : List D} {o : M α} {w : α → D} {k : α → M γ} {h : Str → List (Str × D) → M γ} (ha : RV fa st ds st1) (hd : DM (df ds) o w) (h1 : ∀ c, RS X (sSeq (sTry mt b' hs) b) st1 (k c) K) (h2 : ∀ c fs, RS X (sSeq (runH mt c fs hs) b) st1 (h c fs) K) :
    RS X (sSeq (sTry mt (sSeq (sExpr (dCall df fa)) b') hs) b) st (tryM o k h) K := by
  have ha : fa st = .ok ds st1 := ha
  cases o with
  | ok c =>
    have e : sExpr (dCall df fa) st = .ok .nx st1 := by unfold sExpr dCall; simp only [bindD, ha, liftM']; rw [show df ds = _ from hd]; rfl
    exact rs_of_eq (st1 := st1) (g := sSeq (sTry mt b' hs) b) (by unfold sTry sSeq; simp only [e]) (h1 c)
  | exn c fs =>
    have e : sExpr (dCall df fa) st = .exn c fs st1 := by unfold sExpr dCall; simp only [bindD, ha, liftM']; rw [show df ds = _ from hd]
    exact rs_of_eq (st1 := st1) (g := sSeq (runH mt c fs hs) b) (by unfold sTry sSeq; simp only [e]) (h2 c fs)
  | stuck => trivial
theorem rs_tRet {df : List D → M D} {fa : Den (List D)} {ds : List D} {o : M α} {w : α → D} {g : α → γ} {h : Str → List (Str × D) → M γ} (ha : RV fa st ds st1) (hd : DM (df ds) o w) (h1 : ∀ c, K (g c) (.ret (w c)) st1) (h2 : ∀ c fs, RS X (sSeq (runH mt c fs hs) b) st1 (h c fs) K) :
    RS X (sSeq (sTry mt (sSeq (sRet (dCall df fa)) b') hs) b) st (tryM o (fun c => .ok (g c)) h) K := by
  have ha : fa st = .ok ds st1 := ha
  cases o with
  | ok c =>
    have e : sRet (dCall df fa) st = .ok (.ret (w c)) st1 := by unfold sRet dCall; simp only [bindD, ha, liftM']; rw [show df ds = _ from hd]; rfl
    exact ⟨.ret (w c), st1, by unfold sTry sSeq; simp only [e], h1 c⟩
  | exn c fs =>
    have e : sRet (dCall df fa) st = .exn c fs st1 := by unfold sRet dCall; simp only [bindD, ha, liftM']; rw [show df ds = _ from hd]
    exact rs_of_eq (st1 := st1) (g := sSeq (runH mt c fs hs) b) (by unfold sTry sSeq; simp only [e]) (h2 c fs)
  | stuck => trivial
theorem rs_tRetP {f : Den D} {d : D} {c : γ} (hf : RV f st d st1) (h1 : K c (.ret d) st1) : RS X (sSeq (sTry mt (sSeq (sRet f) b') hs) b) st (.ok c) K :=
  ⟨.ret d, st1, by have hf : f st = .ok d st1 := hf; unfold sTry sSeq sRet; simp only [bindD, hf, retD], h1⟩
theorem rs_tSet {df : List D → M D} {fa : Den (List D)} {ds : List D} {o : M α} {w : α → D} {k : α → M γ} {h : Str → List (Str × D) → M γ} {i : Nat} (S : α → DSt) (ha : RV fa st ds st1) (hd : DM (df ds) o w) (hs1 : ∀ c, slotSet i (.sh (w c)) st1 = some (S c)) (h1 : ∀ c, RS X (sSeq (sTry mt b' hs) b) (S c) (k c) K) (h2 : ∀ c fs, RS X (sSeq (runH mt c fs hs) b) st1 (h c fs) K) :
    RS X (sSeq (sTry mt (sSeq (sSet i (dCall df fa)) b') hs) b) st (tryM o k h) K := by
  have ha : fa st = .ok ds st1 := ha
  cases o with
  | ok c =>
    have e : sSet i (dCall df fa) st = .ok .nx (S c) := by unfold sSet dCall putD; simp only [bindD, ha, liftM']; rw [show df ds = _ from hd]; simp only [hs1]
    exact rs_of_eq (st1 := S c) (g := sSeq (sTry mt b' hs) b) (by unfold sTry sSeq; simp only [e]) (h1 c)
  | exn c fs =>
    have e : sSet i (dCall df fa) st = .exn c fs st1 := by unfold sSet dCall; simp only [bindD, ha, liftM']; rw [show df ds = _ from hd]
    exact rs_of_eq (st1 := st1) (g := sSeq (runH mt c fs hs) b) (by unfold sTry sSeq; simp only [e]) (h2 c fs)
  | stuck => trivial
theorem rs_tPass {o : M γ} (h : RS X (sSeq (sTry mt b' hs) b) st o K) : RS X (sSeq (sTry mt (sSeq sPass b') hs) b) st o K := h
theorem rs_tAssoc {f g : DS} {o : M γ} (h : RS X (sSeq (sTry mt (sSeq f (sSeq g b')) hs) b) st o K) : RS X (sSeq (sTry mt (sSeq (sSeq f g) b') hs) b) st o K := by
  refine rs_of_eq (st1 := st) ?_ h
  have : sSeq (sSeq f g) b' st = sSeq f (sSeq g b') st := by
    unfold sSeq
    cases f st with
    | ok fl s => cases fl <;> rfl
    | exn c fs s => rfl
    | stuck => rfl
  show (match sTry mt (sSeq (sSeq f g) b') hs st with | .ok .nx st' => b st' | r => r) = (match sTry mt (sSeq f (sSeq g b')) hs st with | .ok .nx st' => b st' | r => r)
  unfold sTry
  rw [this]
theorem seq_pass (f : DS) : sSeq f sPass = f := by
  funext st
  unfold sSeq
  cases f st with
  | ok fl st' => cases fl <;> rfl
  | exn c fs s => rfl
  | stuck => rfl
theorem rs_tLast {f : DS} {o : M γ} (h : RS X (sSeq (sTry mt (sSeq f sPass) hs) b) st o K) : RS X (sSeq (sTry mt f hs) b) st o K := by rw [seq_pass] at h; exact h
theorem rs_tEnd {o : M γ} (h : RS X b st o K) : RS X (sSeq (sTry mt sPass hs) b) st o K := h
end
/-! ### draws in odd places -/
section
variable {α β γ τ : Type} {e : α → D} {st : DSt}
/-- y = xs.pop(f), f changes another list -/
theorem rs_popAt {K : γ → Fl → DSt → Prop} {i j : Nat} {xs : List α} {f : Den D} {o : M (Int × τ)} {o2 : Int × τ → α × List α → M γ} {b : DS} (S : τ → DSt) (T : Int × τ → α × List α → DSt) (hj : st[j]? = some (.ow (xs.map e))) (hf : RT f st o eI S) (h2 : ∀ r, (S r)[j]? = some (.ow (xs.map e)))
    (hT : ∀ p q, slotSet i (.sh (e q.1)) ((S p.2).set j (.ow (q.2.map e))) = some (T p q)) (hk : ∀ p q, RS false b (T p q) (o2 p q) K) : RS false (sSeq (sSet i (dPopAt j f)) b) st (o.bind fun p => (pPopAt xs p.1).bind fun q => o2 p q) K := by
  cases o with
  | ok p =>
    have hf : f st = .ok (eI p.1) (S p.2) := hf
    simp only [bind_ok]
    unfold pPopAt
    cases hs : seqIndex? p.1 xs.length with
    | none => trivial
    | some q =>
      simp only []
      cases hq : xs[q]? with
      | none => trivial
      | some y =>
        simp only []
        by_cases hb : p.1.natAbs ≤ big
        · rw [if_pos hb]
          simp only [bind_ok]
          have ee : (xs.map e).eraseIdx q = (xs.eraseIdx q).map e := erase_map e xs q
          have hT := hT p (y, xs.eraseIdx q)
          have e1 : sSet i (dPopAt j f) st = .ok .nx (T p (y, xs.eraseIdx q)) := by
            simp only [sSet, dPopAt, bindD, dOw, hj, hf, eI, mutD, h2, liftO, popAt, List.length_map, hs, List.getElem?_map, hq, Option.map_some, hb, if_true, setOw, retD, ee, putD]
            simp only [hT]
          exact rs_exec e1 (hk p (y, xs.eraseIdx q))
        · rw [if_neg hb]; trivial
  | exn c fs => intro z; cases z
  | stuck => trivial
/-- xss[f1][f2] = f, all of them change another list -/
theorem rs_set2S {K : γ → Fl → DSt → Prop} {i : Nat} {xss : List (List α)} {e1 e2 f : Den D} {ov : M (α × τ)} {o1 o2 : τ → M (Int × τ)} {k : List (List α) → τ → M γ} {b : DS} (S : τ → DSt) (hf : RT f st ov e S) (h : ∀ r, (S r)[i]? = some (.o2 (xss.map (List.map e)))) (h1 : ∀ r, RT e1 (S r) (o1 r) eI S) (h2 : ∀ r, RT e2 ((S r).set i .no) (o2 r) eI (fun r => (S r).set i .no))
    (hk : ∀ ys r, RS false b ((S r).set i (.o2 (ys.map (List.map e)))) (k ys r) K) : RS false (sSeq (sStore2 i e1 e2 f) b) st (ov.bind fun p => (o1 p.2).bind fun q => (o2 q.2).bind fun u => (pSet2 xss q.1 u.1 p.1).bind fun ys => k ys u.2) K := by
  cases ov with
  | exn c fs => intro z; cases z
  | stuck => trivial
  | ok p =>
    have hf : f st = .ok (e p.1) (S p.2) := hf
    have g1 := h1 p.2
    simp only [bind_ok]
    cases hq : o1 p.2 with
    | exn c fs => intro z; cases z
    | stuck => trivial
    | ok q =>
      rw [hq] at g1
      have g1 : e1 (S p.2) = .ok (eI q.1) (S q.2) := g1
      have g2 := h2 q.2
      simp only [bind_ok]
      cases hu : o2 q.2 with
      | exn c fs => intro z; cases z
      | stuck => trivial
      | ok u =>
        rw [hu] at g2
        have g2 : e2 ((S q.2).set i .no) = .ok (eI u.1) ((S u.2).set i .no) := g2
        simp only [bind_ok]
        unfold pSet2
        cases hr : pAt xss q.1 with
        | exn c fs => intro z; cases z
        | stuck => trivial
        | ok r =>
          obtain ⟨j, hj, hr⟩ := pAt_j hr
          simp only [bind_ok]
          unfold pSet
          cases hl : ixN r.length u.1 with
          | none => trivial
          | some m =>
            have hm := ixN_lt hl
            have hil : i < (S u.2).length := by
              have := h u.2
              rcases Nat.lt_or_ge i (S u.2).length with z | z
              · exact z
              · rw [List.getElem?_eq_none z] at this; cases this
            have a1 : rowAt (xss.map (List.map e)) (eI q.1) = some (j, r.map e) := by simp [rowAt, hj, hr]
            have a2 : rowAt (r.map e) (eI u.1) = some (m, e (r[m]'hm)) := by simp [rowAt, hl, hm]
            have a3 : ((S u.2).set i .no)[i]? = some .no := by rw [List.getElem?_set_self hil]
            simp only [bind_ok, hj]
            refine rs_exec (st1 := (S u.2).set i (.o2 ((xss.set j (r.set m p.1)).map (List.map e)))) ?_ (hk _ _)
            simp only [sStore2, bindD, hf, dO2, h, g1, liftO, a1, hideD, noX, g2, a2, backO, a3, retD, List.set_set]
            congr 1
            simp [List.map_set]
end
end DL

namespace DL
open PySem L2
/-! ### each piece by its head -/
section
variable {α β γ τ : Type} {st st' : DSt} {S : τ → DSt} {X : Bool} {K : γ → Fl → DSt → Prop} {c : DS} {o : M γ}
theorem rv_dOp1 {op : D → Option D} {a : Den D} {y : D} (hh : RV (bindD a fun x => liftO (op x)) st y st') : RV (dOp1 op a) st y st' := hh
theorem re_dOp1 {op : D → Option D} {a : Den D} {o : M α} {v : α → D} (hh : RE (bindD a fun x => liftO (op x)) st o v st') : RE (dOp1 op a) st o v st' := hh
theorem rt_dOp1 {op : D → Option D} {a : Den D} {o : M (α × τ)} {v : α → D} (hh : RT (bindD a fun x => liftO (op x)) st o v S) : RT (dOp1 op a) st o v S := hh
theorem rv_dOp2 {op : D → D → Option D} {a b : Den D} {y : D} (hh : RV (bindD a fun x => bindD b fun y => liftO (op x y)) st y st') : RV (dOp2 op a b) st y st' := hh
theorem re_dOp2 {op : D → D → Option D} {a b : Den D} {o : M α} {v : α → D} (hh : RE (bindD a fun x => bindD b fun y => liftO (op x y)) st o v st') : RE (dOp2 op a b) st o v st' := hh
theorem rt_dOp2 {op : D → D → Option D} {a b : Den D} {o : M (α × τ)} {v : α → D} (hh : RT (bindD a fun x => bindD b fun y => liftO (op x y)) st o v S) : RT (dOp2 op a b) st o v S := hh
theorem rv_dOp2n {op : D → D → Option D} {i : Nat} {b : Den D} {y : D} (hh : RV (bindD (dRd i) fun _ => bindD b fun y => bindD (dRd i) fun x => liftO (op x y)) st y st') : RV (dOp2n op i b) st y st' := hh
theorem re_dOp2n {op : D → D → Option D} {i : Nat} {b : Den D} {o : M α} {v : α → D} (hh : RE (bindD (dRd i) fun _ => bindD b fun y => bindD (dRd i) fun x => liftO (op x y)) st o v st') : RE (dOp2n op i b) st o v st' := hh
theorem rt_dOp2n {op : D → D → Option D} {i : Nat} {b : Den D} {o : M (α × τ)} {v : α → D} (hh : RT (bindD (dRd i) fun _ => bindD b fun y => bindD (dRd i) fun x => liftO (op x y)) st o v S) : RT (dOp2n op i b) st o v S := hh
theorem rv_dOp2m {op : D → D → Option D} {a : Den D} {j : Nat} {y : D} (hh : RV (bindD a fun x => bindD (dRd j) fun y => liftO (op x y)) st y st') : RV (dOp2m op a j) st y st' := hh
theorem re_dOp2m {op : D → D → Option D} {a : Den D} {j : Nat} {o : M α} {v : α → D} (hh : RE (bindD a fun x => bindD (dRd j) fun y => liftO (op x y)) st o v st') : RE (dOp2m op a j) st o v st' := hh
theorem rt_dOp2m {op : D → D → Option D} {a : Den D} {j : Nat} {o : M (α × τ)} {v : α → D} (hh : RT (bindD a fun x => bindD (dRd j) fun y => liftO (op x y)) st o v S) : RT (dOp2m op a j) st o v S := hh
theorem rv_dOp1n {op : D → Option D} {i : Nat} {y : D} (hh : RV (bindD (dRd i) fun x => liftO (op x)) st y st') : RV (dOp1n op i) st y st' := hh
theorem re_dOp1n {op : D → Option D} {i : Nat} {o : M α} {v : α → D} (hh : RE (bindD (dRd i) fun x => liftO (op x)) st o v st') : RE (dOp1n op i) st o v st' := hh
theorem rt_dOp1n {op : D → Option D} {i : Nat} {o : M (α × τ)} {v : α → D} (hh : RT (bindD (dRd i) fun x => liftO (op x)) st o v S) : RT (dOp1n op i) st o v S := hh
theorem rv_dN1n {op : D → Option (List D)} {i : Nat} {y : (List D)} (hh : RV (bindD (dRd i) fun x => liftO (op x)) st y st') : RV (dN1n op i) st y st' := hh
theorem re_dN1n {op : D → Option (List D)} {i : Nat} {o : M α} {v : α → (List D)} (hh : RE (bindD (dRd i) fun x => liftO (op x)) st o v st') : RE (dN1n op i) st o v st' := hh
theorem rt_dN1n {op : D → Option (List D)} {i : Nat} {o : M (α × τ)} {v : α → (List D)} (hh : RT (bindD (dRd i) fun x => liftO (op x)) st o v S) : RT (dN1n op i) st o v S := hh
theorem rv_dN1 {op : D → Option (List D)} {a : Den D} {y : (List D)} (hh : RV (bindD a fun x => liftO (op x)) st y st') : RV (dN1 op a) st y st' := hh
theorem re_dN1 {op : D → Option (List D)} {a : Den D} {o : M α} {v : α → (List D)} (hh : RE (bindD a fun x => liftO (op x)) st o v st') : RE (dN1 op a) st o v st' := hh
theorem rt_dN1 {op : D → Option (List D)} {a : Den D} {o : M (α × τ)} {v : α → (List D)} (hh : RT (bindD a fun x => liftO (op x)) st o v S) : RT (dN1 op a) st o v S := hh
theorem rv_dN2 {op : D → D → Option (List D)} {a b : Den D} {y : (List D)} (hh : RV (bindD a fun x => bindD b fun y => liftO (op x y)) st y st') : RV (dN2 op a b) st y st' := hh
theorem re_dN2 {op : D → D → Option (List D)} {a b : Den D} {o : M α} {v : α → (List D)} (hh : RE (bindD a fun x => bindD b fun y => liftO (op x y)) st o v st') : RE (dN2 op a b) st o v st' := hh
theorem rt_dN2 {op : D → D → Option (List D)} {a b : Den D} {o : M (α × τ)} {v : α → (List D)} (hh : RT (bindD a fun x => bindD b fun y => liftO (op x y)) st o v S) : RT (dN2 op a b) st o v S := hh
theorem rv_dTup {a : Den (List D)} {y : D} (hh : RV (bindD a fun ds => liftO (if ds.length ≤ big then some (.tup ds) else none)) st y st') : RV (dTup a) st y st' := hh
theorem re_dTup {a : Den (List D)} {o : M α} {v : α → D} (hh : RE (bindD a fun ds => liftO (if ds.length ≤ big then some (.tup ds) else none)) st o v st') : RE (dTup a) st o v st' := hh
theorem rt_dTup {a : Den (List D)} {o : M (α × τ)} {v : α → D} (hh : RT (bindD a fun ds => liftO (if ds.length ≤ big then some (.tup ds) else none)) st o v S) : RT (dTup a) st o v S := hh
theorem rv_dLst {a : Den (List D)} {y : (List D)} (hh : RV (bindD a fun ds => liftO (if ds.length ≤ big then some ds else none)) st y st') : RV (dLst a) st y st' := hh
theorem re_dLst {a : Den (List D)} {o : M α} {v : α → (List D)} (hh : RE (bindD a fun ds => liftO (if ds.length ≤ big then some ds else none)) st o v st') : RE (dLst a) st o v st' := hh
theorem rt_dLst {a : Den (List D)} {o : M (α × τ)} {v : α → (List D)} (hh : RT (bindD a fun ds => liftO (if ds.length ≤ big then some ds else none)) st o v S) : RT (dLst a) st o v S := hh
theorem rv_dTst {a : Den D} {y : Bool} (hh : RV (bindD a fun x => liftO (asB x)) st y st') : RV (dTst a) st y st' := hh
theorem re_dTst {a : Den D} {o : M α} {v : α → Bool} (hh : RE (bindD a fun x => liftO (asB x)) st o v st') : RE (dTst a) st o v st' := hh
theorem rt_dTst {a : Den D} {o : M (α × τ)} {v : α → Bool} (hh : RT (bindD a fun x => liftO (asB x)) st o v S) : RT (dTst a) st o v S := hh
theorem rv_dVal {a : Den Bool} {y : D} (hh : RV (bindD a fun b => retD (.bl b)) st y st') : RV (dVal a) st y st' := hh
theorem re_dVal {a : Den Bool} {o : M α} {v : α → D} (hh : RE (bindD a fun b => retD (.bl b)) st o v st') : RE (dVal a) st o v st' := hh
theorem rt_dVal {a : Den Bool} {o : M (α × τ)} {v : α → D} (hh : RT (bindD a fun b => retD (.bl b)) st o v S) : RT (dVal a) st o v S := hh
theorem rv_dAnd {a b : Den Bool} {y : Bool} (hh : RV (bindD a fun x => if x = true then b else retD false) st y st') : RV (dAnd a b) st y st' := hh
theorem re_dAnd {a b : Den Bool} {o : M α} {v : α → Bool} (hh : RE (bindD a fun x => if x = true then b else retD false) st o v st') : RE (dAnd a b) st o v st' := hh
theorem rt_dAnd {a b : Den Bool} {o : M (α × τ)} {v : α → Bool} (hh : RT (bindD a fun x => if x = true then b else retD false) st o v S) : RT (dAnd a b) st o v S := hh
theorem rv_dOr {a b : Den Bool} {y : Bool} (hh : RV (bindD a fun x => if x = true then retD true else b) st y st') : RV (dOr a b) st y st' := hh
theorem re_dOr {a b : Den Bool} {o : M α} {v : α → Bool} (hh : RE (bindD a fun x => if x = true then retD true else b) st o v st') : RE (dOr a b) st o v st' := hh
theorem rt_dOr {a b : Den Bool} {o : M (α × τ)} {v : α → Bool} (hh : RT (bindD a fun x => if x = true then retD true else b) st o v S) : RT (dOr a b) st o v S := hh
theorem rv_dNot {a : Den Bool} {y : Bool} (hh : RV (bindD a fun x => retD (!x)) st y st') : RV (dNot a) st y st' := hh
theorem re_dNot {a : Den Bool} {o : M α} {v : α → Bool} (hh : RE (bindD a fun x => retD (!x)) st o v st') : RE (dNot a) st o v st' := hh
theorem rt_dNot {a : Den Bool} {o : M (α × τ)} {v : α → Bool} (hh : RT (bindD a fun x => retD (!x)) st o v S) : RT (dNot a) st o v S := hh
theorem rv_dChain {op op' : D → D → Option D} {a b c : Den D} {y : D} (hh : RV (bindD a fun x => bindD b fun y => bindD (liftO (op x y)) fun z => bindD (liftO (asB z)) fun k => if k = true then bindD c fun w => liftO (op' y w) else retD (.bl false)) st y st') : RV (dChain op op' a b c) st y st' := hh
theorem re_dChain {op op' : D → D → Option D} {a b c : Den D} {o : M α} {v : α → D} (hh : RE (bindD a fun x => bindD b fun y => bindD (liftO (op x y)) fun z => bindD (liftO (asB z)) fun k => if k = true then bindD c fun w => liftO (op' y w) else retD (.bl false)) st o v st') : RE (dChain op op' a b c) st o v st' := hh
theorem rt_dChain {op op' : D → D → Option D} {a b c : Den D} {o : M (α × τ)} {v : α → D} (hh : RT (bindD a fun x => bindD b fun y => bindD (liftO (op x y)) fun z => bindD (liftO (asB z)) fun k => if k = true then bindD c fun w => liftO (op' y w) else retD (.bl false)) st o v S) : RT (dChain op op' a b c) st o v S := hh
theorem rv_dItems {f : Den D} {y : (List D)} (hh : RV (bindD f fun d => liftO (itemsOf d)) st y st') : RV (dItems f) st y st' := hh
theorem re_dItems {f : Den D} {o : M α} {v : α → (List D)} (hh : RE (bindD f fun d => liftO (itemsOf d)) st o v st') : RE (dItems f) st o v st' := hh
theorem rt_dItems {f : Den D} {o : M (α × τ)} {v : α → (List D)} (hh : RT (bindD f fun d => liftO (itemsOf d)) st o v S) : RT (dItems f) st o v S := hh
theorem rv_dRng {f : Den D} {y : (List D)} (hh : RV (bindD f fun d => liftO (rngD d)) st y st') : RV (dRng f) st y st' := hh
theorem re_dRng {f : Den D} {o : M α} {v : α → (List D)} (hh : RE (bindD f fun d => liftO (rngD d)) st o v st') : RE (dRng f) st o v st' := hh
theorem rt_dRng {f : Den D} {o : M (α × τ)} {v : α → (List D)} (hh : RT (bindD f fun d => liftO (rngD d)) st o v S) : RT (dRng f) st o v S := hh
theorem rv_dRng2 {f h : Den D} {y : (List D)} (hh : RV (bindD f fun d => bindD h fun d2 => liftO (rngD2 d d2)) st y st') : RV (dRng2 f h) st y st' := hh
theorem re_dRng2 {f h : Den D} {o : M α} {v : α → (List D)} (hh : RE (bindD f fun d => bindD h fun d2 => liftO (rngD2 d d2)) st o v st') : RE (dRng2 f h) st o v st' := hh
theorem rt_dRng2 {f h : Den D} {o : M (α × τ)} {v : α → (List D)} (hh : RT (bindD f fun d => bindD h fun d2 => liftO (rngD2 d d2)) st o v S) : RT (dRng2 f h) st o v S := hh
theorem rv_dPart {f : Den D} {y : (Option Int)} (hh : RV (bindD f fun d => liftO (match asI d with | some i => some (some i) | none => none)) st y st') : RV (dPart f) st y st' := hh
theorem re_dPart {f : Den D} {o : M α} {v : α → (Option Int)} (hh : RE (bindD f fun d => liftO (match asI d with | some i => some (some i) | none => none)) st o v st') : RE (dPart f) st o v st' := hh
theorem rt_dPart {f : Den D} {o : M (α × τ)} {v : α → (Option Int)} (hh : RT (bindD f fun d => liftO (match asI d with | some i => some (some i) | none => none)) st o v S) : RT (dPart f) st o v S := hh
theorem rv_dSl {a : Den D} {lo hi : Den (Option Int)} {y : D} (hh : RV (bindD a fun x => bindD lo fun l => bindD hi fun u => liftO (opSl x l u)) st y st') : RV (dSl a lo hi) st y st' := hh
theorem re_dSl {a : Den D} {lo hi : Den (Option Int)} {o : M α} {v : α → D} (hh : RE (bindD a fun x => bindD lo fun l => bindD hi fun u => liftO (opSl x l u)) st o v st') : RE (dSl a lo hi) st o v st' := hh
theorem rt_dSl {a : Den D} {lo hi : Den (Option Int)} {o : M (α × τ)} {v : α → D} (hh : RT (bindD a fun x => bindD lo fun l => bindD hi fun u => liftO (opSl x l u)) st o v S) : RT (dSl a lo hi) st o v S := hh
theorem rv_dSln {i : Nat} {lo hi : Den (Option Int)} {y : D} (hh : RV (bindD (dRd i) fun _ => bindD lo fun l => bindD hi fun u => bindD (dRd i) fun x => liftO (opSl x l u)) st y st') : RV (dSln i lo hi) st y st' := hh
theorem re_dSln {i : Nat} {lo hi : Den (Option Int)} {o : M α} {v : α → D} (hh : RE (bindD (dRd i) fun _ => bindD lo fun l => bindD hi fun u => bindD (dRd i) fun x => liftO (opSl x l u)) st o v st') : RE (dSln i lo hi) st o v st' := hh
theorem rt_dSln {i : Nat} {lo hi : Den (Option Int)} {o : M (α × τ)} {v : α → D} (hh : RT (bindD (dRd i) fun _ => bindD lo fun l => bindD hi fun u => bindD (dRd i) fun x => liftO (opSl x l u)) st o v S) : RT (dSln i lo hi) st o v S := hh
theorem rv_dIndex {f h : Den D} {y : D} (hh : RV (bindD f fun x => bindD (liftO (isL x)) fun _ => bindD h fun y => liftO (opIndex x y)) st y st') : RV (dIndex f h) st y st' := hh
theorem re_dIndex {f h : Den D} {o : M α} {v : α → D} (hh : RE (bindD f fun x => bindD (liftO (isL x)) fun _ => bindD h fun y => liftO (opIndex x y)) st o v st') : RE (dIndex f h) st o v st' := hh
theorem rt_dIndex {f h : Den D} {o : M (α × τ)} {v : α → D} (hh : RT (bindD f fun x => bindD (liftO (isL x)) fun _ => bindD h fun y => liftO (opIndex x y)) st o v S) : RT (dIndex f h) st o v S := hh
theorem rv_dIndexN {i : Nat} {h : Den D} {y : D} (hh : RV (bindD (dRd i) fun x => bindD (liftO (isL x)) fun _ => bindD h fun y => bindD (dRd i) fun x => liftO (opIndex x y)) st y st') : RV (dIndexN i h) st y st' := hh
theorem re_dIndexN {i : Nat} {h : Den D} {o : M α} {v : α → D} (hh : RE (bindD (dRd i) fun x => bindD (liftO (isL x)) fun _ => bindD h fun y => bindD (dRd i) fun x => liftO (opIndex x y)) st o v st') : RE (dIndexN i h) st o v st' := hh
theorem rt_dIndexN {i : Nat} {h : Den D} {o : M (α × τ)} {v : α → D} (hh : RT (bindD (dRd i) fun x => bindD (liftO (isL x)) fun _ => bindD h fun y => bindD (dRd i) fun x => liftO (opIndex x y)) st o v S) : RT (dIndexN i h) st o v S := hh
theorem rv_dCall {df : List D → M D} {fa : Den (List D)} {y : D} (hh : RV (bindD fa fun ds => liftM' (df ds)) st y st') : RV (dCall df fa) st y st' := hh
theorem re_dCall {df : List D → M D} {fa : Den (List D)} {o : M α} {v : α → D} (hh : RE (bindD fa fun ds => liftM' (df ds)) st o v st') : RE (dCall df fa) st o v st' := hh
theorem rt_dCall {df : List D → M D} {fa : Den (List D)} {o : M (α × τ)} {v : α → D} (hh : RT (bindD fa fun ds => liftM' (df ds)) st o v S) : RT (dCall df fa) st o v S := hh
theorem rv_dCallO {df : List D → Option (List D)} {fa : Den (List D)} {y : (List D)} (hh : RV (bindD fa fun ds => liftO (df ds)) st y st') : RV (dCallO df fa) st y st' := hh
theorem re_dCallO {df : List D → Option (List D)} {fa : Den (List D)} {o : M α} {v : α → (List D)} (hh : RE (bindD fa fun ds => liftO (df ds)) st o v st') : RE (dCallO df fa) st o v st' := hh
theorem rt_dCallO {df : List D → Option (List D)} {fa : Den (List D)} {o : M (α × τ)} {v : α → (List D)} (hh : RT (bindD fa fun ds => liftO (df ds)) st o v S) : RT (dCallO df fa) st o v S := hh
theorem rv_dCallR {df : List D → List D → M (D × List D)} {i : Nat} {fa : Den (List D)} {y : D} (hh : RV (bindD (dOw i) fun _ => bindD fa fun ds => callK df i ds) st y st') : RV (dCallR df i fa) st y st' := hh
theorem re_dCallR {df : List D → List D → M (D × List D)} {i : Nat} {fa : Den (List D)} {o : M α} {v : α → D} (hh : RE (bindD (dOw i) fun _ => bindD fa fun ds => callK df i ds) st o v st') : RE (dCallR df i fa) st o v st' := hh
theorem rt_dCallR {df : List D → List D → M (D × List D)} {i : Nat} {fa : Den (List D)} {o : M (α × τ)} {v : α → D} (hh : RT (bindD (dOw i) fun _ => bindD fa fun ds => callK df i ds) st o v S) : RT (dCallR df i fa) st o v S := hh
theorem rv_dIf {δ : Type} {t : Den Bool} {a b : Den δ} {y : δ} (hh : RV (bindD t fun x => if x = true then a else b) st y st') : RV (dIf t a b) st y st' := hh
theorem re_dIf {δ : Type} {t : Den Bool} {a b : Den δ} {o : M α} {v : α → δ} (hh : RE (bindD t fun x => if x = true then a else b) st o v st') : RE (dIf t a b) st o v st' := hh
theorem rt_dIf {δ : Type} {t : Den Bool} {a b : Den δ} {o : M (α × τ)} {v : α → δ} (hh : RT (bindD t fun x => if x = true then a else b) st o v S) : RT (dIf t a b) st o v S := hh
theorem rs_sExpr {f : Den D} (hh : RS X (sSeq (bindD f fun _ => retD .nx) c) st o K) : RS X (sSeq (sExpr f) c) st o K := hh
theorem rs_sRet {f : Den D} (hh : RS X (sSeq (bindD f fun d => retD (.ret d)) c) st o K) : RS X (sSeq (sRet f) c) st o K := hh
theorem rs_sSet {i : Nat} {f : Den D} (hh : RS X (sSeq (bindD f fun d => putD i (.sh d)) c) st o K) : RS X (sSeq (sSet i f) c) st o K := hh
theorem rs_sOwn {i : Nat} {f : Den (List D)} (hh : RS X (sSeq (bindD f fun ds => putD i (.ow ds)) c) st o K) : RS X (sSeq (sOwn i f) c) st o K := hh
theorem rs_sOwn2 {i : Nat} {f : Den (List (List D))} (hh : RS X (sSeq (bindD f fun dss => putD2 i dss) c) st o K) : RS X (sSeq (sOwn2 i f) c) st o K := hh
theorem rs_sIf {t : Den Bool} {a c : DS} (hh : RS X (sSeq (bindD t fun x => if x = true then a else c) c) st o K) : RS X (sSeq (sIf t a c) c) st o K := hh
theorem rs_sFor {t : Tg} {fi : Den (List D)} {body : DS} (hh : RS X (sSeq (bindD fi fun ds => loop t body ds) c) st o K) : RS X (sSeq (sFor t fi body) c) st o K := hh
theorem rs_sAsg {t : Tg} {f : Den D} (hh : RS X (sSeq (bindD f fun d => fun st => match setT t d st with | some st' => .ok .nx st' | none => .stuck) c) st o K) : RS X (sSeq (sAsg t f) c) st o K := hh
theorem rs_sRaise1 {cl f : Str} {h : Den D} (hh : RS X (sSeq (bindD h fun d => fun st => .exn cl [(f, d)] st) c) st o K) : RS X (sSeq (sRaise1 cl f h) c) st o K := hh
theorem rs_sStore {i : Nat} {ix f : Den D} (hh : RS X (sSeq (bindD f fun v => bindD (dRd i) fun _ => bindD ix fun k => storeK i v k) c) st o K) : RS X (sSeq (sStore i ix f) c) st o K := hh
end
end DL

namespace DL
open PySem L2
/-! ### any data where a kind is wanted -/
def pI : D → M Int
  | .int i => .ok i
  | _ => .stuck
def pTup2 : D → M (D × D)
  | .tup [a, b] => .ok (a, b)
  | _ => .stuck
def pPairs : List D → M (List (D × D))
  | [] => .ok []
  | .tup [a, b] :: r => match pPairs r with
    | .ok q => .ok ((a, b) :: q)
    | _ => .stuck
  | _ :: _ => .stuck
section
variable {α τ : Type} {st st1 st2 st' : DSt} {e : α → D}
theorem re_int {f : Den D} {d : D} (h : RV f st d st1) : RE f st (pI d) eI st1 := by
  cases d <;> first | exact h | trivial
theorem re_intG {f : Den D} {o : M D} (h : RE f st o eD st1) : RE f st (o.bind pI) eI st1 := by
  cases o with
  | ok d => exact re_int h
  | exn c fs => exact h
  | stuck => trivial
theorem re_tup2 {f : Den D} {d : D} (h : RV f st d st1) : RE f st (pTup2 d) (eP2 eD eD) st1 := by
  unfold pTup2
  split
  · exact h
  · trivial
theorem re_tup2G {f : Den D} {o : M D} (h : RE f st o eD st1) : RE f st (o.bind pTup2) (eP2 eD eD) st1 := by
  cases o with
  | ok d => exact re_tup2 h
  | exn c fs => exact h
  | stuck => trivial
theorem pPairs_eq : ∀ {ds : List D} {q : List (D × D)}, pPairs ds = .ok q → ds = q.map (eP2 eD eD)
  | [], q, h => by cases h; rfl
  | d :: r, q, h => by
    unfold pPairs at h
    split at h
    · rename_i h0; cases h0
    · rename_i a b r' h0
      cases h0
      split at h
      · rename_i q' hq
        cases h
        rw [pPairs_eq hq]; rfl
      · cases h
    · cases h
theorem re_pairs {f : Den (List D)} {o : M (List D)} (h : RE f st o (List.map eD) st1) : RE f st (o.bind fun ds => pNX (pPairs ds)) (List.map (eP2 eD eD)) st1 := by
  cases o with
  | ok d =>
    cases hp : pPairs d with
    | ok q =>
      have h : f st = .ok (d.map eD) st1 := h
      rw [show d.map eD = d from List.map_id' d] at h
      simp only [bind_ok, hp, pNX_ok]
      show f st = .ok (q.map (eP2 eD eD)) st1
      rw [← pPairs_eq hp]
      exact h
    | exn c fs => simp only [bind_ok, hp]; trivial
    | stuck => simp only [bind_ok, hp]; trivial
  | exn c fs => exact h
  | stuck => trivial
/-- x, y = xs.pop() -/
theorem x_popD {i j k : Nat} {xs : List D} {S : (D × D) × List D → DSt} (h : st[k]? = some (.ow (xs.map eD))) (hS : ∀ p : (D × D) × List D, setT (.nms [i, j]) (eP2 eD eD p.1) (st.set k (.ow (p.2.map eD))) = some (S p)) : RX (sAsg (.nms [i, j]) (dPop k)) st ((pPop xs).bind fun p => (pTup2 p.1).bind fun q => .ok (q, p.2)) S := by
  unfold pPop
  cases hx : xs[xs.length - 1]? with
  | none => trivial
  | some y =>
    simp only [bind_ok]
    cases hp : pTup2 y with
    | stuck => trivial
    | exn c fs => unfold pTup2 at hp; split at hp <;> cases hp
    | ok q =>
      have hy : y = eP2 eD eD q := by
        unfold pTup2 at hp
        split at hp
        · cases hp; rfl
        · cases hp
      simp only [bind_ok]
      have h2 : (xs.map eD)[(xs.map eD).length - 1]? = some y := by rw [List.length_map, List.getElem?_map, hx]; rfl
      show sAsg (.nms [i, j]) (dPop k) st = _
      have := hS (q, xs.dropLast)
      simp only [sAsg, dPop, bindD, mutD, dOw, h, liftO, h2, setOw, retD, dropLast_map, hy]
      simp only [this]
/-- x[i][j] of a list of lists that is changed -/
theorem re_ixx2G {i : Nat} {e1 e2 : Den D} {xss : List (List α)} {o1 o2 : M Int} {st' : DSt} (h : st[i]? = some (.o2 (xss.map (List.map e)))) (h1 : RE e1 st o1 eI st) (h2 : RE e2 (st.map frzS) o2 eI st') : RE (dIxx i e1 e2) st (o1.bind fun k => (pAt xss k).bind fun r => (pNX o2).bind fun l => pAt r l) e st := by
  cases o1 with
  | ok k =>
    cases o2 with
    | ok l => exact re_ixx2 h h1 h2
    | exn c fs =>
      have : ((pAt xss k).bind fun r => ((pNX (.exn c fs : M Int))).bind fun l => pAt r l) = .stuck := by
        unfold pAt oM
        cases atI xss k <;> rfl
      simp only [bind_ok, this]; trivial
    | stuck =>
      have : ((pAt xss k).bind fun r => ((pNX (.stuck : M Int))).bind fun l => pAt r l) = .stuck := by
        unfold pAt oM
        cases atI xss k <;> rfl
      simp only [bind_ok, this]; trivial
  | exn c fs =>
    obtain ⟨s, h1⟩ := h1
    refine ⟨s, ?_⟩
    unfold dIxx
    rw [h]
    simp only [bindD, dO2, h]
    rw [h1]
  | stuck => trivial
end
end DL

namespace DL
open PySem PySem.Spec PyProof.Rows L2
/-! ### sorted lists of tuples of numbers, of any length -/
section
variable {prog : Program} {w : World} {A : Around} {E : Value → Shared → Prop} {s : Shared}
def ltTup (h : Heap) (B : Int) (u v : Value) : Bool := decide (TS.code B (TS.intsOf h u) < TS.code B (TS.intsOf h v))
theorem swo_tup (h : Heap) (B : Int) : SrtO.Swo (ltTup h B) := by
  refine ⟨fun x y q => ?_, fun x y z q r => ?_⟩
  · unfold ltTup at *
    simp only [decide_eq_true_eq, decide_eq_false_iff_not] at *
    omega
  · unfold ltTup at *
    simp only [decide_eq_false_iff_not] at *
    omega
theorem tups_sortable {a : Addr} {h₁ : Heap} {vs : List Value} {d : Nat} {B : Int} (hd : 1 ≤ d) (h2 : 2 ≤ vs.length) (x : TS.TupsOk s.heap d B vs) (keep : ∀ b o, s.heap.get? b = some o → b ≠ a ∧ h₁.get? b = some o) : SrtO.SortableO prog w A { s with heap := h₁ } a vs (ltTup s.heap B) := by
  intro h' hk
  have x' : TS.TupsOk h' d B vs := x.keeps fun b o e _ => hk b o (keep b o e).1 (keep b o e).2
  obtain ⟨fs, k, hl, hi⟩ := TS.firsts_of hd vs x'
  refine ⟨_, fun Q E hq => PySem.W.kat_kind (s := { s with heap := h' }) (T := Value.type "int") k (by omega) (fun f hf => ?_) rfl hq, ?_⟩
  · obtain ⟨n, t, rfl⟩ := hi f hf
    exact PySem.W.Looks.of_pure rfl
  · intro p q hp hq
    have hp : p.1 ∈ vs := hp
    have hq : q.1 ∈ vs := hq
    obtain ⟨ns, tp, lp, bp⟩ := x' _ hp
    obtain ⟨ms, tq, lq, bq⟩ := x' _ hq
    obtain ⟨ns0, tp0, _, _⟩ := x _ hp
    obtain ⟨ms0, tq0, _, _⟩ := x _ hq
    have e1 : TS.intsOf s.heap p.1 = ns := by rw [tp0.ints, ← (tp0.keeps (h' := h') fun b o e _ => hk b o (keep b o e).1 (keep b o e).2).ints, tp.ints]
    have e2 : TS.intsOf s.heap q.1 = ms := by rw [tq0.ints, ← (tq0.keeps (h' := h') fun b o e _ => hk b o (keep b o e).1 (keep b o e).2).ints, tq.ints]
    have eq : SrtO.lt2 (ltTup s.heap B) p q = decide (TS.code B ns < TS.code B ms) := by
      show ltTup s.heap B p.1 q.1 = _
      unfold ltTup; rw [e1, e2]
    obtain ⟨a', xs, f1, ⟨o, ho, hc, n, hdt⟩, i⟩ := tp
    obtain ⟨a'', ys, f2, ⟨o', ho', hc', n', hdt'⟩, i'⟩ := tq
    rw [f1, f2, eq]
    refine PySem.W.kat_lt ho hdt ho' hdt' ?_
    have sz : decide (xs.size < ys.size) = false := by
      have l1 := i.length
      have l2 := i'.length
      rw [Array.length_toList] at l1 l2
      exact decide_eq_false (by omega)
    rw [sz]
    exact TS.lex_ints 0 i i' (by omega) bp bq ⟨rfl, rfl⟩
end
/-- sorted(xs), xs a list of tuples of d ints in [0, B) -/
def rSortX (K : PySem.W.Frag) : List V → Hp → VK → Prop := fun vs H Q => ∃ (d : Nat) (B : Int) (a : Addr) (xs : List V), 1 ≤ d ∧ vs = [V.ref a] ∧ SqL K H a xs ∧ (∀ x ∈ xs, ∃ ns, L2.TupI K H x ns ∧ ns.length = d ∧ TS.Bd B ns) ∧
  ∀ (ys : List V) (p : Addr), ys.Perm xs → ys.Pairwise (fun x y => ∀ n m, L2.TupI K H x n → L2.TupI K H y m → TS.code B n ≤ TS.code B m) → H p = none → Q (.ref p) (upd H p (.lst ys))
section
variable {X : Cx}
theorem cr_sortX : CallR X (.builtin "sorted") (rSortX X.K) := by
  intro pins s σ H vs us Q I r h
  obtain ⟨d, B, a, xs, hd, rfl, hs, hx, q⟩ := h
  obtain ⟨its, rv, hl, hz⟩ := I.list hs
  rw [Vals.ref1 r]
  obtain ⟨e1, e2⟩ := L2.bkV_refs rv fun x m => by
    obtain ⟨ns, ⟨t, e, _⟩, _⟩ := hx x m
    exact ⟨t, e⟩
  have tok : TS.TupsOk s.heap d B its := fun v hv => by
    obtain ⟨t, rfl⟩ := e2 v hv
    have hm : V.ref t ∈ xs := by
      rw [e1]
      exact List.mem_map.mpr ⟨_, hv, rfl⟩
    obtain ⟨ns, ⟨t', e, ht⟩, hn, hb⟩ := hx _ hm
    cases e
    exact ⟨ns, L2.tupI_raw I ht, hn, hb⟩
  refine SrtO.sorted_ord (swo_tup s.heap B) hl.isList (by rw [← rv.length]; exact hz) (fun h2 h₁ a' _ keep => tups_sortable hd h2 tok keep) fun out h1 h2 => ?_
  obtain ⟨ep, he'⟩ := PyProof.Rows.sortedAll_at s.heap its out.toArray
  have h3 : ∀ u ∈ out, ∃ a, u = Value.ref a := fun u hu => e2 u (h2.perm.mem_iff.mp hu)
  have hp : (out.map L2.bkV).Perm xs := by
    rw [e1]
    exact h2.perm.map L2.bkV
  have hlen : (out.map L2.bkV).length ≤ sizeLine := by
    rw [hp.length_eq]
    exact hz
  refine ⟨.ref _, upd H (s.heap.objs.size + 1) (.lst (out.map L2.bkV)), I.laid (t' := s.toks) (fun _ _ => PyProof.Rows.sortedAll_old) (Nat.le_succ _) ⟨hlen, out, ep, L2.bkV_vals h3, he'⟩, rfl, q _ _ hp ?_ (I.hok.fresh (Nat.le_succ _))⟩
  rw [List.pairwise_map]
  refine List.Pairwise.imp (fun {u v} huv n m hn hm => ?_) h1
  obtain ⟨t, et, ht⟩ := hn
  obtain ⟨t', et', ht'⟩ := hm
  have eu := L2.bkV_ref et
  have ev := L2.bkV_ref et'
  have i1 : TS.intsOf s.heap u = n := by
    rw [eu]
    exact (L2.tupI_raw I ht).ints
  have i2 : TS.intsOf s.heap v = m := by
    rw [ev]
    exact (L2.tupI_raw I ht').ints
  rw [← i1, ← i2]
  have huv : ltTup s.heap B v u = false := huv
  unfold ltTup at huv
  simp only [decide_eq_false_iff_not] at huv
  omega
end
end DL

namespace DL
open PySem PySem.Spec PyProof.Rows L2
/-! ### sorted(a tuple of numbers) -/
section
variable {prog : Program} {w : World} {A : Around} {E : Value → Shared → Prop} {s : Shared}
theorem collect_tup {l : Addr} {vs : List Value} {Q : List Value → Shared → Prop} (hl : s.heap.IsTuple l vs.toArray)
    (h : Q vs { s with heap := (s.heap.push (seqObj "list" #[] 0)).update s.heap.objs.size (Obj.mapSeq (· ++ vs.toArray)) }) (hsz : vs.length ≤ sizeLine) :
    wpAny (model prog w) A (collect (.ref l)) Q E s := by
  obtain ⟨o, ho, hc, n, hd⟩ := id hl
  unfold collect
  refine wpAny_bind (wpAny_runValue (codeAny_builtin entry_proto_collect' ?_))
  show wpAny _ _ (do again (.builtin "list.__iadd__" ⟨[← newList [], .ref l], []⟩)) _ _ s
  refine wpAny_bind (wpAny_newList (wpAny_pure ⟨Code.quiet_builtin _ (by decide +kernel), codeAny_builtin entry_list_iadd' ?_⟩))
  show wpAny _ _ (Builtin.List.listExtendWith (.ref s.heap.objs.size) (.ref l) (.ref s.heap.objs.size)) _ _ { s with heap := s.heap.push (seqObj "list" #[] 0) }
  unfold Builtin.List.listExtendWith
  have ho' : (s.heap.push (seqObj "list" #[] 0)).get? l = some o := Heap.get?_push_of_some _ ho
  refine wpAny_bind (wpAny_typeOf (T := "tuple") ⟨o, ho', hc⟩ ?_)
  have ht : (Value.type "tuple" == Value.type "tuple") = true := by rfl
  rw [if_pos (by rw [ht]; simp)]
  refine wpAny_bind (listItems_at ho' hd ?_)
  refine wpAny_bind (listItems_at (xs := #[]) (n := 0) (Heap.get?_push_size _ rfl) rfl ?_)
  rw [if_neg (by simp)]
  refine wpAny_bind (listUpdate_at (xs := #[]) (n := 0) (Heap.get?_push_size _ rfl) rfl ?_ (Nat.zero_le _) (by show (#[] ++ vs.toArray).size ≤ sizeLine + 1; simp only [Array.size_append, List.size_toArray, List.length_nil]; omega))
  refine wpAny_pure ?_
  show wpAny (model prog w) A (do
      let o ← load s.heap.objs.size
      match o.data with
      | .seq xs _ => pure xs.toList
      | _ => unsupported "internal:collect") Q E { s with heap := (s.heap.push (seqObj "list" #[] 0)).update s.heap.objs.size (Obj.mapSeq (· ++ vs.toArray)) }
  refine wpAny_bind (wpAny_load (get?_update_seq (Heap.get?_push_size _ rfl) _) ?_)
  show wpAny _ _ (pure ((#[] : Array Value) ++ vs.toArray).toList) Q E _
  rw [show ((#[] : Array Value) ++ vs.toArray).toList = vs by simp]
  exact wpAny_pure h
theorem sorted_tupO {l : Addr} {vs : List Value} {ltv : Value → Value → Bool} {Q : Value → Shared → Prop} (O : SrtO.Swo ltv) (hl : s.heap.IsTuple l vs.toArray) (hz : vs.length ≤ sizeLine)
    (hS : 2 ≤ vs.length → ∀ (h₁ : Heap) (a : Addr), h₁.get? a = some (seqObj "list" vs.toArray 0) → (∀ b o, s.heap.get? b = some o → b ≠ a ∧ h₁.get? b = some o) → SrtO.SortableO prog w A.in1.in1 { s with heap := h₁ } a vs ltv)
    (h : ∀ out : List Value, SrtO.Srtd ltv out → SrtO.Stb ltv out vs → Q (.ref (s.heap.objs.size + 1)) { s with heap := sortedAll s.heap vs out.toArray }) :
    wpAny (model prog w) A (call (.builtin "sorted") [.ref l]) Q E s := by
  refine Calls.call_function_entry kind_sorted plain_sorted entry_sorted (args_sorted1 _) ?_
  unfold Builtin.«sorted»
  refine wpAny_bind (m := checkCount "sorted" 1 1 _) (wpAny_pure ?_)
  refine wpAny_bind (collect_tup hl ?_ hz)
  refine wpAny_bind (wpAny_newList ?_ hz)
  have hsz : ((s.heap.push (seqObj "list" #[] 0)).update s.heap.objs.size (Obj.mapSeq (· ++ vs.toArray))).objs.size = s.heap.objs.size + 1 := by
    rw [Heap.size_update, size_push']
  have hoL : (((s.heap.push (seqObj "list" #[] 0)).update s.heap.objs.size (Obj.mapSeq (· ++ vs.toArray))).push (seqObj "list" vs.toArray 0)).get? (s.heap.objs.size + 1) = some (seqObj "list" vs.toArray 0) := by
    rw [← hsz]; exact Heap.get?_push_size _ rfl
  have keep : ∀ b o, s.heap.get? b = some o → b ≠ s.heap.objs.size + 1 ∧ (((s.heap.push (seqObj "list" #[] 0)).update s.heap.objs.size (Obj.mapSeq (· ++ vs.toArray))).push (seqObj "list" vs.toArray 0)).get? b = some o := fun b o q => by
    have hlt : b < s.heap.objs.size := Heap.lt_size q
    refine ⟨Nat.ne_of_lt (Nat.lt_succ_of_lt hlt), Heap.get?_push_of_some _ ?_⟩
    rw [Heap.get?_update_ne _ _ _ _ (Nat.ne_of_lt hlt)]
    exact Heap.get?_push_of_some _ q
  show wpAny _ _ _ _ _ { s with heap := ((s.heap.push (seqObj "list" #[] 0)).update s.heap.objs.size (Obj.mapSeq (· ++ vs.toArray))).push (seqObj "list" vs.toArray 0) }
  rw [hsz]
  refine wpAny_bind (wpAny_holding (wpAny_call_entry slot_list_sort ⟨_, hoL, rfl⟩ entry_list_sort (SrtO.list_sort_ord O hoL hz (fun h2 => hS h2 _ _ hoL keep) fun out hs hb => ⟨_, rfl, ?_⟩) (args_list_sort _)))
  exact wpAny_pure ⟨_, rfl, h out hs hb⟩
end
def rSortedTu (K : PySem.W.Frag) : List V → Hp → VK → Prop := fun vs H Q => ∃ (a : Addr) (ns : List Int), vs = [V.ref a] ∧ SqT K H a (ns.map V.int) ∧ ns.length ≤ sizeLine ∧
  ∀ (ns' : List Int) (p : Addr), ns'.Perm ns → ns'.Pairwise (· ≤ ·) → H p = none → Q (.ref p) (upd H p (.lst (ns'.map V.int)))
theorem cr_sortedTu {X : Cx} : CallR X (.builtin "sorted") (rSortedTu X.K) := by
  intro pins s σ H vs us Q I r h
  obtain ⟨a, ns, rfl, hs, hz, q⟩ := h
  obtain ⟨its, rv, hT, _⟩ := I.tuple hs
  rw [Vals.ref1 r]
  have hi := rv.ints
  have hlen0 : its.length = ns.length := by rw [← rv.length, List.length_map]
  refine sorted_tupO SrtO.swo_int hT (by rw [hlen0]; exact hz) (fun h2 h₁ a' _ _ => SrtO.ints_sortable hi h2) fun out h1 h2 => ?_
  obtain ⟨k1, k2, k3⟩ := SrtO.ints_out hi h1 h2
  obtain ⟨ep, he'⟩ := PyProof.Rows.sortedAll_at s.heap its out.toArray
  have hlen : ((out.map SrtO.iv).map V.int).length ≤ sizeLine := by
    rw [List.length_map, k2.length_eq]
    exact hz
  exact ⟨.ref _, upd H (s.heap.objs.size + 1) (.lst ((out.map SrtO.iv).map V.int)), I.laid (t' := s.toks) (fun _ _ => PyProof.Rows.sortedAll_old) (Nat.le_succ _) ⟨hlen, out, ep, vals_of_ints k1, he'⟩, rfl, q _ _ k2 k3 (I.hok.fresh (Nat.le_succ _))⟩
/-! ### over data -/
def tupsOf : List D → Option (List (List Int))
  | [] => some []
  | .tup ds :: r => match intsOf ds, tupsOf r with | some x, some xs => some (x :: xs) | _, _ => none
  | _ :: _ => none
def encT (r : List Int) : D := .tup (r.map D.int)
theorem tupsOf_eq : ∀ {ds : List D} {rows : List (List Int)}, tupsOf ds = some rows → ds = rows.map encT
  | [], _, h => by cases h; rfl
  | .tup d :: r, rows, h => by
    unfold tupsOf at h
    split at h
    · rename_i x xs h1 h2
      cases h
      rw [List.map_cons, ← tupsOf_eq h2, intsOf_eq h1]; rfl
    · cases h
  | .non :: _, _, h => by cases h
  | .bl _ :: _, _, h => by cases h
  | .int _ :: _, _, h => by cases h
  | .str _ :: _, _, h => by cases h
  | .lst _ :: _, _, h => by cases h
  | .ins _ _ _ :: _, _, h => by cases h
  | .scr _ :: _, _, h => by cases h
def lexLe : List Int → List Int → Bool
  | [], _ => true
  | _ :: _, [] => false
  | x :: xs, y :: ys => if x = y then lexLe xs ys else decide (x < y)
def insT (x : List Int) : List (List Int) → List (List Int)
  | [] => [x]
  | y :: r => if lexLe x y = true then x :: y :: r else y :: insT x r
def sortT : List (List Int) → List (List Int)
  | [] => []
  | x :: r => insT x (sortT r)
theorem lexLe_total : ∀ x y : List Int, lexLe x y = true ∨ lexLe y x = true
  | [], _ => .inl (by simp [lexLe])
  | _ :: _, [] => .inr (by simp [lexLe])
  | x :: xs, y :: ys => by
    by_cases e : x = y
    · subst e; simpa [lexLe] using lexLe_total xs ys
    · have : ¬ y = x := fun z => e z.symm
      simp [lexLe, e, this]; omega
theorem lexLe_trans : ∀ {x y z : List Int}, lexLe x y = true → lexLe y z = true → lexLe x z = true
  | [], _, _, _, _ => by simp [lexLe]
  | x :: xs, [], _, h, _ => by simp [lexLe] at h
  | x :: xs, y :: ys, [], _, h => by simp [lexLe] at h
  | x :: xs, y :: ys, z :: zs, h1, h2 => by
    unfold lexLe at *
    by_cases e1 : x = y
    · subst e1
      by_cases e2 : x = z
      · subst e2
        simp only [if_true] at *
        exact lexLe_trans h1 h2
      · simp only [e2, if_false] at *; exact h2
    · by_cases e2 : y = z
      · subst e2
        simp only [e1, if_false] at *; exact h1
      · simp only [e1, e2, if_false, decide_eq_true_eq] at *
        have : ¬ x = z := by omega
        simp only [this, if_false, decide_eq_true_eq]; omega
theorem lexLe_anti : ∀ {x y : List Int}, lexLe x y = true → lexLe y x = true → x = y
  | [], [], _, _ => rfl
  | [], _ :: _, _, h => by simp [lexLe] at h
  | _ :: _, [], h, _ => by simp [lexLe] at h
  | x :: xs, y :: ys, h1, h2 => by
    unfold lexLe at *
    by_cases e : x = y
    · subst e
      simp only [if_true] at *
      rw [lexLe_anti h1 h2]
    · have e' : ¬ y = x := fun z => e z.symm
      simp only [e, e', if_false, decide_eq_true_eq] at *
      omega
theorem insT_perm (x : List Int) : ∀ l, (insT x l).Perm (x :: l)
  | [] => .refl _
  | y :: r => by
    unfold insT
    split
    · exact .refl _
    · exact ((insT_perm x r).cons y).trans (.swap _ _ _)
theorem sortT_perm : ∀ l, (sortT l).Perm l
  | [] => .refl _
  | x :: r => (insT_perm x _).trans ((sortT_perm r).cons x)
theorem insT_sorted (x : List Int) : ∀ l : List (List Int), l.Pairwise (fun a b => lexLe a b = true) → (insT x l).Pairwise (fun a b => lexLe a b = true)
  | [], _ => List.pairwise_singleton _ _
  | y :: r, h => by
    obtain ⟨h1, h2⟩ := List.pairwise_cons.mp h
    unfold insT
    split
    · rename_i hx
      exact List.pairwise_cons.mpr ⟨fun z hz => by
        rcases List.mem_cons.mp hz with rfl | hz
        · exact hx
        · exact lexLe_trans hx (h1 z hz), h⟩
    · rename_i hx
      refine List.pairwise_cons.mpr ⟨fun z hz => ?_, insT_sorted x r h2⟩
      rcases List.mem_cons.mp ((insT_perm x r).mem_iff.mp hz) with rfl | hz
      · rcases lexLe_total z y with q | q
        · exact absurd q hx
        · exact q
      · exact h1 z hz
theorem sortT_sorted : ∀ l, (sortT l).Pairwise (fun a b => lexLe a b = true)
  | [] => .nil
  | x :: r => insT_sorted x _ (sortT_sorted r)
theorem sortT_unique : ∀ {l m : List (List Int)}, l.Perm m → l.Pairwise (fun a b => lexLe a b = true) → m.Pairwise (fun a b => lexLe a b = true) → l = m
  | [], m, p, _, _ => (List.nil_perm.mp p).symm
  | x :: l, m, p, h1, h2 => by
    cases m with
    | nil => exact absurd p.symm (by simp)
    | cons y m =>
      obtain ⟨a1, a2⟩ := List.pairwise_cons.mp h1
      obtain ⟨b1, b2⟩ := List.pairwise_cons.mp h2
      have hxy : x = y := by
        have hx : x ∈ y :: m := p.mem_iff.mp List.mem_cons_self
        have hy : y ∈ x :: l := p.mem_iff.mpr List.mem_cons_self
        rcases List.mem_cons.mp hx with e | hx
        · exact e
        · rcases List.mem_cons.mp hy with e | hy
          · exact e.symm
          · exact lexLe_anti (a1 y hy) (b1 x hx)
      subst hxy
      rw [sortT_unique (List.Perm.cons_inv p) a2 b2]
theorem code_lexLe {B : Int} : ∀ {n m : List Int}, n.length = m.length → TS.Bd B n → TS.Bd B m → TS.code B n ≤ TS.code B m → lexLe n m = true
  | [], _, _, _, _, _ => by simp [lexLe]
  | _ :: _, [], h, _, _, _ => by simp at h
  | x :: xs, y :: ys, hl, h1, h2, h => by
    have hl' : xs.length = ys.length := by simpa using hl
    unfold lexLe
    by_cases e : x = y
    · subst e
      simp only [if_true]
      refine code_lexLe hl' h1.tail h2.tail ?_
      apply Int.not_lt.mp
      intro q
      have := (TS.code_same (d := x) (r := ys) (q := xs) hl'.symm).mpr q
      omega
    · simp only [e, if_false, decide_eq_true_eq]
      rcases Int.lt_trichotomy x y with q | q | q
      · exact q
      · exact absurd q e
      · have := TS.code_lt hl'.symm h2.tail h1.tail q
        omega
/-- the greatest number, and one more -/
def topOf (rows : List (List Int)) : Int := rows.foldl (fun b r => r.foldl (fun b x => if x < b then b else x + 1) b) 1
def okRows (rows : List (List Int)) (d : Nat) (B : Int) : Bool := decide (1 ≤ d) && rows.all fun r => decide (r.length = d) && r.all fun x => decide (0 ≤ x) && decide (x < B)
def nSortedT : D → Option (List D)
  | .lst ds => match tupsOf ds with
    | some rows => if okRows rows (rows.headD [0]).length (topOf rows) = true then some ((sortT rows).map encT) else none
    | none => none
  | _ => none
/-- sorted(..) of what is covered -/
def nSortedA (x : D) : Option (List D) := match x with
  | .lst ds => match intsOf ds with
    | some is => some ((sortI is).map D.int)
    | none => nSortedT (.lst ds)
  | .tup ds => match intsOf ds with
    | some is => if is.length ≤ big then some ((sortI is).map D.int) else none
    | none => none
  | _ => none
def rSortedA (K : PySem.W.Frag) : List V → Hp → VK → Prop := fun vs H Q => rSortedI K vs H Q ∨ rSortX K vs H Q ∨ rSortedTu K vs H Q
theorem cr_sortedA {X : Cx} : CallR X (.builtin "sorted") (rSortedA X.K) := cr_sortedI.or (cr_sortX.or cr_sortedTu)
section
variable {g : G} {F H : Hp}
theorem Rl.perm {α : Type} {enc : α → D} : ∀ {vs ys : List V}, vs.Perm ys → ∀ {rows : List α}, Rl g F vs (rows.map enc) → ∃ rows' : List α, Rl g F ys (rows'.map enc) ∧ rows'.Perm rows := by
  intro vs ys p
  induction p with
  | nil => intro rows h; exact ⟨rows, h, .refl _⟩
  | cons x p ih =>
    intro rows h
    cases rows with
    | nil => cases h
    | cons r rows =>
      cases h with
      | cons h1 h2 =>
        obtain ⟨rows', a, b⟩ := ih h2
        exact ⟨r :: rows', .cons h1 a, b.cons r⟩
  | swap x y l =>
    intro rows h
    match rows, h with
    | r1 :: r2 :: rows, .cons h1 (.cons h2 h3) => exact ⟨r2 :: r1 :: rows, .cons h2 (.cons h1 h3), .swap _ _ _⟩
  | trans p q ih1 ih2 =>
    intro rows h
    obtain ⟨r1, a, b⟩ := ih1 h
    obtain ⟨r2, c, d⟩ := ih2 a
    exact ⟨r2, c, d.trans b⟩
theorem Rl.pw {α : Type} {enc : α → D} {P : V → V → Prop} {R : α → α → Prop} (hPR : ∀ v u x y, Rv g F v (enc x) → Rv g F u (enc y) → P v u → R x y) : ∀ {vs : List V} {rows : List α}, Rl g F vs (rows.map enc) → vs.Pairwise P → rows.Pairwise R
  | _, [], _, _ => .nil
  | v :: vs, r :: rows, .cons h1 h2, hp => by
    obtain ⟨a, b⟩ := List.pairwise_cons.mp hp
    refine List.pairwise_cons.mpr ⟨fun y hy => ?_, Rl.pw hPR h2 b⟩
    obtain ⟨j, hj, rfl⟩ := List.getElem_of_mem hy
    obtain ⟨u, e1, e2⟩ := h2.get (i := j) (d := enc rows[j]) (by simp [hj])
    exact hPR v u _ _ h1 e2 (a u (List.mem_of_getElem? e1))
theorem Rv.tupI (l : Same F H) {v : V} {r : List Int} (h : Rv g F v (encT r)) : L2.TupI g.K H v r := by
  unfold encT at h
  cases h with
  | tup h1 _ h2 =>
    have := h2.ints
    subst this
    exact ⟨_, rfl, sqT_mono l h1⟩
theorem vn_sortedA : VN1 g (fun v => rSortedA g.K [v]) nSortedA := by
  intro H F v d zs le rd hz Q q
  cases d with
  | lst ds =>
    cases hi : intsOf ds with
    | some is =>
      have hz : some ((sortI is).map D.int) = some zs := by
        simpa only [nSortedA, hi] using hz
      cases hz
      exact .inl (vn_sorted H F v (.lst ds) _ le rd (by simp only [nSorted, hi]) Q q)
    | none =>
      cases ht : tupsOf ds with
      | none => simp only [nSortedA, hi, nSortedT, ht] at hz; cases hz
      | some rows =>
        by_cases hok : okRows rows (rows.headD [0]).length (topOf rows) = true
        · have hz : some ((sortT rows).map encT) = some zs := by
            rw [← hz]; simp only [nSortedA, hi, nSortedT, ht]; rw [if_pos hok]
          cases hz
          refine .inr (.inl ?_)
          have e := tupsOf_eq ht
          subst e
          obtain ⟨a, vs, rfl, h1, r1⟩ := rd.lst le
          unfold okRows at hok
          simp only [Bool.and_eq_true, decide_eq_true_eq, List.all_eq_true] at hok
          obtain ⟨hd, hrows⟩ := hok
          refine ⟨(rows.headD [0]).length, topOf rows, a, vs, hd, rfl, sqL_of h1, fun x hx => ?_, fun ys p hp hpw hn => ?_⟩
          · obtain ⟨i, hi, rfl⟩ := List.getElem_of_mem hx
            obtain ⟨u, e1, e2⟩ := r1.get' (i := i) (v := vs[i]) (by simp [hi])
            rw [List.getElem?_map] at e1
            cases hr : rows[i]? with
            | none => rw [hr] at e1; cases e1
            | some r =>
              rw [hr] at e1
              cases e1
              have hm := hrows r (List.mem_of_getElem? hr)
              exact ⟨r, Rv.tupI le e2, hm.1, fun y hy => hm.2 y hy⟩
          · obtain ⟨rows', a1, a2⟩ := Rl.perm hp.symm r1
            have hs : rows'.Pairwise (fun a b => TS.code (topOf rows) a ≤ TS.code (topOf rows) b) := Rl.pw (P := fun x y => ∀ n m, L2.TupI g.K H x n → L2.TupI g.K H y m → TS.code (topOf rows) n ≤ TS.code (topOf rows) m) (fun v u x y hv hu hP => hP x y (Rv.tupI le hv) (Rv.tupI le hu)) a1 hpw
            have hs2 : rows'.Pairwise (fun a b => lexLe a b = true) := List.Pairwise.imp_of_mem (fun {a b} ha hb hab => by
              have ha := hrows a (a2.mem_iff.mp ha)
              have hb := hrows b (a2.mem_iff.mp hb)
              exact code_lexLe (by rw [ha.1, hb.1]) (fun y hy => ha.2 y hy) (fun y hy => hb.2 y hy) hab) hs
            have e : rows' = sortT rows := sortT_unique (a2.trans (sortT_perm rows).symm) hs2 (sortT_sorted rows)
            subst e
            exact q p _ hn a1
        · have hz : none = some zs := by
            rw [← hz]; simp only [nSortedA, hi, nSortedT, ht]; rw [if_neg hok]
          cases hz
  | tup ds =>
    cases hi : intsOf ds with
    | none => simp only [nSortedA, hi] at hz; cases hz
    | some is =>
      by_cases hb : is.length ≤ big
      · have hz : some ((sortI is).map D.int) = some zs := by
          rw [← hz]; simp only [nSortedA, hi]; rw [if_pos hb]
        cases hz
        have := intsOf_eq hi
        subst this
        obtain ⟨a, vs, rfl, h1, r1⟩ := rd.tup le
        have := r1.ints
        subst this
        refine .inr (.inr ⟨a, is, rfl, h1, by rw [← big_eq]; exact hb, fun ns' p hp hs hn => ?_⟩)
        have e : ns' = sortI is := sorted_unique (hp.trans (sortI_perm is).symm) hs (sortI_sorted is)
        subst e
        exact q p _ hn (Rl.of_ints _)
      · have hz : none = some zs := by
          rw [← hz]; simp only [nSortedA, hi]; rw [if_neg hb]
        cases hz
  | non => cases hz
  | bl _ => cases hz
  | int _ => cases hz
  | str _ => cases hz
  | ins _ _ _ => cases hz
  | scr _ => cases hz
end
end DL

namespace DL
open PySem PySem.Spec PyProof.Rows L2
theorem tupsOf_map : ∀ (rows : List (List Int)), tupsOf (rows.map (eT eI)) = some rows
  | [] => rfl
  | x :: r => by
    show (match intsOf (x.map eI), tupsOf (r.map (eT eI)) with | some x, some xs => some (x :: xs) | _, _ => none) = _
    rw [tupsOf_map r, show intsOf (x.map eI) = some x from intsOf_map _]
def pSortT (rows : List (List Int)) : M (List (List Int)) := if okRows rows (rows.headD [0]).length (topOf rows) = true then .ok (sortT rows) else .stuck
def pSortTu (xs : List Int) : M (List Int) := if xs.length ≤ big then .ok (sortI xs) else .stuck
theorem op_sortedA {xs : List Int} : nSortedA (eL eI xs) = some ((sortI xs).map eI) := by
  show (match intsOf (xs.map eI) with | some is => some ((sortI is).map D.int) | none => nSortedT (.lst (xs.map eI))) = _
  rw [show intsOf (xs.map eI) = some xs from intsOf_map _]
theorem op_sortT {rows : List (List Int)} : OP (nSortedA (eL (eT eI) rows)) (pSortT rows) (List.map (eT eI)) := by
  cases rows with
  | nil => exact rfl
  | cons x r =>
    have e : nSortedA (eL (eT eI) (x :: r)) = nSortedT (.lst ((x :: r).map (eT eI))) := rfl
    rw [e]
    unfold pSortT
    by_cases h : okRows (x :: r) ((x :: r).headD [0]).length (topOf (x :: r)) = true
    · rw [if_pos h]
      show nSortedT _ = some _
      unfold nSortedT
      simp only [tupsOf_map]
      rw [if_pos h]; rfl
    · rw [if_neg h]; trivial
theorem op_sortTu {xs : List Int} : OP (nSortedA (eT eI xs)) (pSortTu xs) (List.map eI) := by
  unfold pSortTu
  by_cases h : xs.length ≤ big
  · rw [if_pos h]
    show (match intsOf (xs.map eI) with | some is => if is.length ≤ big then some ((sortI is).map D.int) else none | none => none) = some _
    rw [show intsOf (xs.map eI) = some xs from intsOf_map _]
    simp only []
    rw [if_pos h]
  · rw [if_neg h]; trivial
end DL

namespace DL
open PySem PySem.Spec PyProof.Rows L2
/-! ### a tuple or a word times a number -/
theorem tuple_mul1 (l : Addr) (items : Array Value) (n : Nat) (dd : Option Addr) (sl : Array (Option Value)) (u : Tok) :
    Meets (Builtin.«tuple.__mul__» ⟨[.ref l, .int 1 u], []⟩) (fun _ R s => s.heap.get? l = some { cls := .type "tuple", dict := dd, data := .seq items n, slots := sl } ∧ R (.ok (.ret (Value.ref l))) s) :=
  .of_wp fun prog w A R s h => by
    obtain ⟨hp, g, d, tk, os⟩ := s
    obtain ⟨hl, h⟩ := h
    have f1 := AutoSeq1.idx_int
    have c1 : (items.isEmpty || (1 : Int) == 1) = true := by simp
    wp_walk using wpAny_loadPart' hl
    repeat (first
      | (refine wpAny_ite_true (decide_eq_true (by rw [c1])) ?_; wp_walk using wpAny_loadPart' hl)
      | (refine wpAny_ite_true c1 ?_; wp_walk using wpAny_loadPart' hl))
    exact ⟨_, rfl, h⟩
def rRepT1 (K : PySem.W.Frag) : R2 := fun x y H Q => ∃ l xs, x = .ref l ∧ y = .int 1 ∧ SqT K H l xs ∧ Q (.ref l) H
section
variable {X : Cx}
theorem op_repT1 : OpR X (binaryOp .Mult) (rRepT1 X.K) := by
  intro pins s σ H x y v u Q I rx ry h
  obtain ⟨l, xs, rfl, rfl, hT, q⟩ := h
  cases rx
  obtain ⟨t, rfl⟩ := ry
  obtain ⟨its, r, ⟨⟨cls, dd, data, sl⟩, ho, hc, n, hd⟩, hs⟩ := I.tuple hT
  simp only at hc hd
  subst hc hd
  exact wpAny_binaryOp_repeat_ref (T := "tuple") (U := "int") (by decide) ⟨_, ho, rfl⟩ (fun s' => typeIs_int s' 1 t) noFill_tuple_mul F.fills_int_mul F.slot_int_rmul repeat_tuple F.slot_int_index.lookup
    (call_meets F.slot_int_rmul (typeIs_int s 1 t) F.entry_int_rmul (F.args_int_rmul_2 _ _) (int_rmul_tuple 1 t l its.toArray n dd sl)
      ⟨ho, rfl, ⟨_, ho, rfl⟩, call_meets F.slot_tuple_mul ⟨_, ho, rfl⟩ F.entry_tuple_mul (F.args_tuple_mul_2 _ _) (tuple_mul1 l its.toArray n dd sl t) ⟨ho, ⟨.ref l, H, I, rfl, q⟩⟩⟩)
def strRep (x : Str) (k : Int) : Str := if (k == 1 || x.length == 0) = true then x else ⟨(List.replicate k.toNat x.cps).foldl (· ++ ·) #[]⟩
theorem foldl_size {α : Type} (x : Array α) : ∀ (m : Nat) (acc : Array α), ((List.replicate m x).foldl (· ++ ·) acc).size = acc.size + m * x.size
  | 0, acc => by simp
  | m + 1, acc => by
    rw [List.replicate_succ, List.foldl_cons, foldl_size x m, Array.size_append, Nat.succ_mul]; omega
theorem strRep_len {z : Str} {k : Int} (h2 : k ≤ 1000) (h3 : z.length ≤ 1000) : (⟨(List.replicate k.toNat z.cps).foldl (· ++ ·) #[]⟩ : Str).length ≤ sizeLine := by
  show ((List.replicate k.toNat z.cps).foldl (· ++ ·) #[]).size ≤ sizeLine
  rw [foldl_size, sizeLine_eq]
  have a1 : k.toNat * z.cps.size ≤ 1000 * 1000 := Nat.mul_le_mul (by omega) h3
  have : (#[] : Array Nat).size = 0 := rfl
  simp only [Array.size_empty]
  omega
def rRepS : R2 := fun x y H Q => ∃ z k, x = .str z ∧ y = .int k ∧ 1 ≤ k ∧ k ≤ 1000 ∧ z.length ≤ 1000 ∧ Q (.str (strRep z k)) H
theorem op_repS : OpR X (binaryOp .Mult) rRepS := by
  intro pins s σ H x y v u Q I rx ry h
  obtain ⟨z, k, rfl, rfl, h1, h2, h3, q⟩ := h
  obtain ⟨t, rfl⟩ := rx
  obtain ⟨t', rfl⟩ := ry
  have hm : (z.length : Int) * 1 ≤ 1000 := by omega
  refine PySem.P.mul_str (by rw [decide_eq_false (by omega), decide_eq_false (by omega)]; rfl) (fun _ _ => ?_) (fun _ _ => ?_) ?_
  · have a1 : (z.length : Int) * k ≤ 1000 * 1000 := Int.mul_le_mul (by omega) h2 (by omega) (by omega)
    have : (z.length : Int) ≤ (2 ^ 63 - 1) / k := Int.le_ediv_of_mul_le (by omega) (by omega)
    omega
  · have a1 : z.length * k.toNat ≤ 1000 * 1000 := Nat.mul_le_mul h3 (by omega)
    unfold Builtin.Str.tooLong
    rw [sizeLine_eq]
    exact decide_eq_false (by omega)
  · rw [if_neg (by omega)]
    unfold strRep at q
    split
    · rename_i hb
      rw [if_pos hb] at q
      exact ⟨.str z, H, I, ⟨_, rfl⟩, q⟩
    · rename_i hb
      rw [if_neg hb] at q
      exact ⟨strRep_len h2 h3, .str _, H, I.tok _, ⟨_, rfl⟩, q⟩
end
def opMulA (x y : D) : Option D := match x, y with
  | .tup xs, .int k => if xs ≠ [] ∧ xs.length ≤ 1000 ∧ 1 ≤ k ∧ k ≤ 1000 then some (.tup (List.replicate k.toNat xs).flatten) else none
  | .str z, .int k => if z.length ≤ 1000 ∧ 1 ≤ k ∧ k ≤ 1000 then some (.str (strRep z k)) else none
  | x, y => opMul x y
def rMulA (K : PySem.W.Frag) : R2 := fun x y H Q => rMulD x y H Q ∨ rRepT K x y H Q ∨ rRepT1 K x y H Q ∨ rRepS x y H Q
theorem op_mulA {X : Cx} : OpR X (binaryOp .Mult) (rMulA X.K) := op_mulD.or (L2.op_repT.or (op_repT1.or op_repS))
section
variable {g : G}
theorem vo_mulA (ht : g.tk = false) : VO2 g (rMulA g.K) opMulA := by
  intro H F v u d e z l rd re h Q q
  unfold opMulA at h
  split at h
  · split at h
    · rename_i xs k hl
      cases h
      obtain ⟨hne, hl1, hk1, hk2⟩ := hl
      by_cases hk : k = 1
      · subst hk
        have er : (List.replicate (1 : Int).toNat xs).flatten = xs := by simp
        rw [er] at q
        obtain ⟨a, vs, rfl, h1, r1⟩ := rd.tup l
        cases re.int
        refine .inr (.inr (.inl ⟨a, vs, rfl, rfl, h1, q _ _ _ (Grow.refl l) ?_⟩))
        rcases rd with rd | ⟨_, _, _, _, e, _⟩
        · exact rd
        · cases e
      · obtain ⟨a, vs, rfl, h1, r1⟩ := rd.tup l
        cases re.int
        exact .inr (.inl ⟨a, k, vs, rfl, rfl, h1, fun e => hne (by subst e; cases r1; rfl), by omega, hk2, by rw [r1.length]; exact hl1, fun p hp => q _ _ _ (Grow.new l hp) (.tup (.inl (.inl upd_same)) (fun z => by rw [ht] at z; cases z) ((r1.rep k.toNat).mono (Grow.new l hp).f))⟩)
    · cases h
  · split at h
    · rename_i x k hl
      cases h; cases rd.str; cases re.int
      exact .inr (.inr (.inr ⟨_, _, rfl, rfl, hl.2.1, hl.2.2, hl.1, q _ _ _ (Grow.refl l) (.str _)⟩))
    · cases h
  · exact .inl (vo_mul H F v u d e z l rd re h Q q)
end
/-! typed -/
section
variable {α : Type} {e : α → D}
theorem op_mulAi {a b : Int} : OP (opMulA (eI a) (eI b)) (pMul a b) eI := op_mul
def pRepT (xs : List α) (k : Int) : M (List α) := if xs ≠ [] ∧ xs.length ≤ 1000 ∧ 1 ≤ k ∧ k ≤ 1000 then .ok (List.replicate k.toNat xs).flatten else .stuck
theorem op_repTA {xs : List α} {k : Int} : OP (opMulA (eT e xs) (eI k)) (pRepT xs k) (eT e) := by
  unfold pRepT
  by_cases h : xs ≠ [] ∧ xs.length ≤ 1000 ∧ 1 ≤ k ∧ k ≤ 1000
  · rw [if_pos h]
    show (if xs.map e ≠ [] ∧ (xs.map e).length ≤ 1000 ∧ 1 ≤ k ∧ k ≤ 1000 then some (D.tup (List.replicate k.toNat (xs.map e)).flatten) else none) = some (.tup ((List.replicate k.toNat xs).flatten.map e))
    rw [if_pos ⟨by simpa using h.1, by simpa using h.2.1, h.2.2⟩]
    simp [List.map_flatten, List.map_replicate]
  · rw [if_neg h]; trivial
end
end DL

namespace DL
open PySem PySem.Spec PyProof.Rows L2
/-! ### set(a list of numbers) -/
/-- what set() makes first -/
abbrev setNu (w : World) : Obj := { cls := .type "set", dict := none, data := .set #[] 0 (.fresh 0 0 (!w.params.followText "set-order")) }
section
variable {P : Program} {w : World} {A : Around} {E : Value → Shared → Prop} {s : Shared}
set_option maxHeartbeats 3200000 in
theorem set_of_ints {l : Addr} {vs : Array Value} (ns : List Int) {Q : Value → Shared → Prop} (hA : A.handled = none) (hl : s.heap.IsList l vs) (hv : IntsAre vs.toList ns) (hb : ns.length + 1 < scanBound)
    (h : ∀ (h' : Heap) (tk c : Nat), SetR w h' s.heap.objs.size (fun j => decide (j ∈ ns)) c → (∀ b o, s.heap.get? b = some o → h'.get? b = some o) → Q (.ref s.heap.objs.size) { s with heap := h', toks := tk }) :
    wpAny (model P w) A (call (.type "set") [.ref l]) Q E s := by
  have hlen : vs.size = ns.length := by rw [← IntsAre.length hv, Array.length_toList]
  obtain ⟨c, tl, hmro⟩ := F.called_set.mro
  have e1 := F.called_set.made
  have e2 := F.called_set.sub
  refine wpAny_call (codeAny_of_tree (wpAny_pure ⟨Code.quiet_builtin _ (by decide +kernel), codeAny_builtin F.entry_type_call ?_⟩))
  rw [Around.under_plain (weight_type_call_type "set" [.ref l] []) rfl]
  have e3 := F.called_set.notType
  have e4 := F.called_set.canCreate
  have e5 := F.typeCall_set_1 (.ref l)
  repeat (any_goals (first | assumption | wp_step))
  refine codeAny_mono (code_set_led1 (.ref l) (E := E) (Q₁ := fun u s₁ => u = .ref s.heap.objs.size ∧ s₁ = { s with heap := s.heap.push (setNu w) }) ⟨rfl, rfl⟩) fun r s₁ hr => ?_
  match r, hr with
  | .error e, hr => exact hr
  | .ok (.ret u), hr =>
    obtain ⟨rfl, rfl⟩ := hr
    have gS : (s.heap.push (setNu w)).get? s.heap.objs.size = some (setNu w) := Heap.get?_push_size _ rfl
    have gT : Shared.TypeIs { s with heap := s.heap.push (setNu w) } (.ref s.heap.objs.size) "set" := ⟨_, gS, rfl⟩
    have e6 := F.called_set.init.lookup
    have e7 := F.called_set.init.bind (.ref s.heap.objs.size)
    repeat (any_goals (first | assumption | wp_step))
    refine codeAny_mono (codeAny_call_builtin (R := wants (fun r s₂ => r = .none ∧ ∃ h' tk c, s₂ = { s with heap := h', toks := tk } ∧ SetR w h' s.heap.objs.size (fun j => decide (j ∈ ns)) c ∧ ∀ b o, s.heap.get? b = some o → h'.get? b = some o) E)
      F.called_set.init.plain F.entry_set_init (check_set_init_1 gT ?_)) fun r₂ s₂ hr₂ => ?_
    · obtain ⟨⟨ocls, odict, odata, oslots⟩, hol, hc, nl, hd⟩ := hl
      simp only at hc hd
      subst hc; subst hd
      have hol' : (s.heap.push (setNu w)).get? l = some { cls := .type "list", dict := odict, data := .seq vs nl, slots := oslots } := Heap.get?_push_of_some _ hol
      have e8 := F.sub_list_set
      have e9 := F.sub_list_frozenset
      have e10 : (Value.type "list" == Value.type "dict") = false := by decide
      have hl1 : (s.heap.push (setNu w)).IsList l vs := ⟨_, hol', rfl, nl, rfl⟩
      unfold Builtin.«set.__init__» noKeywords Builtin.Frozenset.updateFrom
      generalize hPI : pyIter = PI
      wp_walk
      subst hPI
      refine wpAny_pyIter_list hl1 (wpAny_bind (wpAny_runValue ?_))
      have lt : l < s.heap.objs.size := Heap.lt_size hol
      have hA3 : A.in1.in1.in1.handled = none := by simp [hA]
      have z1 : (s.heap.push (setNu w)).objs.size = s.heap.objs.size + 1 := Heap.size_push ..
      have ne1 : l ≠ (s.heap.push (setNu w)).objs.size := by rw [z1]; exact Nat.ne_of_lt (Nat.lt_succ_of_lt lt)
      have nS : s.heap.objs.size ∉ [(s.heap.push (setNu w)).objs.size, l] := by
        rw [z1]; simp only [List.mem_cons, List.not_mem_nil, or_false, not_or]
        exact ⟨Nat.ne_of_lt (Nat.lt_succ_self _), Nat.ne_of_gt lt⟩
      refine set_update_ints ((Walks.list hA3 _ l ne1 vs).toS) s.heap.objs.size nS ns hlen hb (fun i v hi => ?_) (vs.size - 0) 0 _ (by omega) (Nat.zero_le _)
        ⟨⟨_, Heap.get?_push_size _ rfl, rfl, rfl⟩, (hl1.push _)⟩ ⟨0, Nat.le_refl 0, setR_new_at (Heap.get?_push_of_some _ gS)⟩ fun s' c' hm hc' hS' => ?_
      · have lt2 : i < ns.length := by rw [← hlen]; exact (Array.getElem?_eq_some_iff.mp hi).1
        obtain ⟨t, e⟩ := hv.int_at i v (by rw [Array.getElem?_toList]; exact hi)
        refine ⟨ns[i], t, List.getElem?_eq_getElem lt2, ?_⟩
        rw [e, List.getD_eq_getElem?_getD, List.getElem?_eq_getElem lt2]; rfl
      · obtain ⟨h', g2, d', tk', os'⟩ := s'
        have eg : g2 = s.gens := hm.gens
        have ed : d' = s.drawn := hm.drawn
        have eo : os' = s.os := hm.os
        subst eg; subst ed; subst eo
        show wpAny _ _ _ _ _ _
        refine wpAny_pure ?_
        show wpAny _ _ (ret Value.none) _ _ _
        refine wpAny_pure ⟨rfl, h', tk', c', rfl, hS', fun b o e => ?_⟩
        have lb : b < s.heap.objs.size := Heap.lt_size e
        refine hm.heap b o ?_ (Heap.get?_push_of_some _ (Heap.get?_push_of_some _ e))
        rw [z1]; simp only [List.mem_cons, List.not_mem_nil, or_false, not_or]
        exact ⟨Nat.ne_of_lt lb, Nat.ne_of_lt (Nat.lt_succ_of_lt lb)⟩
    · match r₂, hr₂ with
      | .error e, hr₂ => exact hr₂
      | .ok (.ret r), hr₂ =>
        obtain ⟨rfl, h', tk, c', rfl, hS', hk'⟩ := hr₂
        repeat (any_goals (first | assumption | wp_step))
        exact h _ _ _ hS' hk'
end
/-! ### the numbers of a list, each once, ascending -/
def insU (x : Int) : List Int → List Int
  | [] => [x]
  | y :: r => if x < y then x :: y :: r else if x = y then y :: r else y :: insU x r
def sortU : List Int → List Int
  | [] => []
  | x :: r => insU x (sortU r)
theorem mem_insU (x y : Int) : ∀ l, y ∈ insU x l ↔ y = x ∨ y ∈ l
  | [] => by simp [insU]
  | z :: r => by
    unfold insU
    split
    · simp
    · split
      · rename_i e; subst e; simp
      · simp only [List.mem_cons, mem_insU x y r]
        constructor
        · rintro (h | h | h)
          · exact .inr (.inl h)
          · exact .inl h
          · exact .inr (.inr h)
        · rintro (h | h | h)
          · exact .inr (.inl h)
          · exact .inl h
          · exact .inr (.inr h)
theorem mem_sortU {y : Int} : ∀ {l}, y ∈ sortU l ↔ y ∈ l
  | [] => by simp [sortU]
  | x :: r => by unfold sortU; rw [mem_insU, mem_sortU (l := r), List.mem_cons]
theorem insU_pw (x : Int) : ∀ l : List Int, l.Pairwise (· < ·) → (insU x l).Pairwise (· < ·)
  | [], _ => List.pairwise_singleton _ _
  | z :: r, h => by
    obtain ⟨h1, h2⟩ := List.pairwise_cons.mp h
    unfold insU
    split
    · rename_i c
      exact List.pairwise_cons.mpr ⟨fun y hy => by
        rcases List.mem_cons.mp hy with rfl | hy
        · exact c
        · exact Int.lt_trans c (h1 y hy), h⟩
    · split
      · exact h
      · rename_i c1 c2
        refine List.pairwise_cons.mpr ⟨fun y hy => ?_, insU_pw x r h2⟩
        rcases (mem_insU x y r).mp hy with rfl | hy
        · omega
        · exact h1 y hy
theorem sortU_pw : ∀ l, (sortU l).Pairwise (· < ·)
  | [] => .nil
  | x :: r => insU_pw x _ (sortU_pw r)
theorem lt_unique : ∀ {l m : List Int}, l.Pairwise (· < ·) → m.Pairwise (· < ·) → (∀ k, k ∈ l ↔ k ∈ m) → l = m
  | [], [], _, _, _ => rfl
  | [], y :: m, _, _, h => by simpa using (h y).mpr List.mem_cons_self
  | x :: l, [], _, _, h => by simpa using (h x).mp List.mem_cons_self
  | x :: l, y :: m, h1, h2, h => by
    obtain ⟨a1, a2⟩ := List.pairwise_cons.mp h1
    obtain ⟨b1, b2⟩ := List.pairwise_cons.mp h2
    have e : x = y := by
      rcases List.mem_cons.mp ((h x).mp List.mem_cons_self) with e | hx
      · exact e
      · rcases List.mem_cons.mp ((h y).mpr List.mem_cons_self) with e | hy
        · exact e.symm
        · have := b1 x hx
          have := a1 y hy
          omega
    subst e
    refine congrArg _ (lt_unique a2 b2 fun k => ?_)
    constructor
    · intro hk
      rcases List.mem_cons.mp ((h k).mp (List.mem_cons_of_mem _ hk)) with e | hx
      · exact absurd (a1 k hk) (by omega)
      · exact hx
    · intro hk
      rcases List.mem_cons.mp ((h k).mpr (List.mem_cons_of_mem _ hk)) with e | hx
      · exact absurd (b1 k hk) (by omega)
      · exact hx
theorem setR_size {w : World} {h : Heap} {a : Addr} {ns : List Int} {c : Nat} (R : SetR w h a (fun j => decide (j ∈ ns)) c) : c = (sortU ns).length := by
  obtain ⟨o, es, ep, t, _, _, _, _, hn, hm, _, _, hz, _⟩ := R
  have hp : (es.toList.map keyOf).Perm (sortU ns) := (List.perm_ext_iff_of_nodup hn ((sortU_pw ns).imp (fun h => by omega))).mpr fun k => by
    rw [← hm k, mem_sortU]; simp
  have := hp.length_eq
  rw [List.length_map, Array.length_toList] at this
  omega
/-- set(..) of a list or a tuple of numbers -/
def rSetOI (K : PySem.W.Frag) (w : World) : List V → Hp → VK → Prop := fun xs H Q => ∃ (l : Addr) (ns : List Int), xs = [V.ref l] ∧ (SqL K H l (ns.map V.int) ∨ SqT K H l (ns.map V.int)) ∧ ns.length ≤ 1000 ∧
  ∀ p, H p = none → Q (.ref p) (upd H p (SetO w p (fun j => decide (j ∈ ns)) (sortU ns).length))
section
variable {X : Cx}
theorem cr_setOI (hc : X.calm = true) : CallR X (.type "set") (rSetOI X.K X.w) := by
  intro pins s σ H xs us Q I r h
  obtain ⟨l, ns, rfl, hs, hz, q⟩ := h
  rw [Vals.ref1 r]
  have fin : ∀ (h' : Heap) (tk c : Nat), SetR X.w h' s.heap.objs.size (fun j => decide (j ∈ ns)) c → (∀ b o, s.heap.get? b = some o → h'.get? b = some o) →
      ∃ x H', Inv X pins σ H' { s with heap := h', toks := tk } ∧ RelV x (.ref s.heap.objs.size) ∧ Q x H' := fun h' tk c R k => by
    have e := setR_size R
    subst e
    exact ⟨.ref _, upd H s.heap.objs.size (SetO X.w s.heap.objs.size (fun j => decide (j ∈ ns)) (sortU ns).length), I.laid (t' := tk) k (Nat.le_refl _) (setO_new R), rfl, q _ (I.hok.fresh (Nat.le_refl _))⟩
  rcases hs with hs | hs
  · obtain ⟨its, rv, pl, _⟩ := I.list hs
    exact set_of_ints ns (I.ok.hd hc) pl.isList rv.ints (by unfold scanBound; omega) fin
  · obtain ⟨its, rv, pl, _⟩ := I.tuple hs
    exact call_set_tupI ns (I.ok.hd hc) (show s.heap.IsTuple l its.toArray from pl) rv.ints (by unfold scanBound; omega) fun h' tk c R _ k => fin h' tk c R k
/-! ### over data -/
def setI : D → Option (List Int)
  | .lst ds => match intsOf ds with | some is => if is.length ≤ 1000 then some (sortU is) else none | none => none
  | .tup ds => match intsOf ds with | some is => if is.length ≤ 1000 then some (sortU is) else none | none => none
  | _ => none
def nSortSet (x : D) : Option (List D) := match setI x with
  | some is => if is.length < 64 then some (is.map D.int) else none
  | none => none
def opLenSet (x : D) : Option D := match setI x with
  | some is => some (.int is.length)
  | none => none
/-- len of a set -/
def rLenSet (w : World) : List V → Hp → VK → Prop := fun vs H Q => ∃ (a : Addr) (S : Int → Bool) (n : Nat), vs = [V.ref a] ∧ H a = some (SetO w a S n) ∧ Q (.int n) H
theorem cr_lenSet : CallR X (.builtin "len") (rLenSet X.w) := by
  intro pins s σ H vs us Q I r h
  obtain ⟨a, S, n, rfl, ha, q⟩ := h
  obtain ⟨o, es, ep, t, ho, hex, hd, _, _, _, hb, hf, hn, _⟩ := setO_get I ha
  rw [Vals.ref1 r]
  subst hn
  refine call_len_set ho hex hd hf (by unfold scanBound at hb; omega) ?_
  exact ⟨.int _, H, (I.tok _).tok _, ⟨_, rfl⟩, q⟩
def rThen (r0 r1 : List V → Hp → VK → Prop) : List V → Hp → VK → Prop := fun xs H Q => r0 xs H fun y H1 => r1 [y] H1 Q
/-- a rule for a new list on a grown heap -/
def VN1G (g : G) (r : V → Hp → VK → Prop) (op : D → Option (List D)) : Prop := ∀ (H F : Hp) (v : V) (d : D) (zs : List D), Same F H → Br g F H v d → op d = some zs → ∀ Q : VK, (∀ p vs H', Grow H F H' F → H' p = none → Rl g F vs zs → Q (.ref p) (upd H' p (.lst vs))) → r v H Q
variable {g : G} {W : WX} {P : Par} {σ : L2.St} {H F : Hp} {st : DSt} {e : Expr} {f : Den D}
theorem finNG {r : V → Hp → VK → Prop} {op : D → Option (List D)} (vo : VN1G g r op) {v : V} {x : D} {Q : VK} (s : SR g P σ H F st) (rx : Br g F H v x) (o : OutN g W P σ F (liftO (op x) st) Q) : r v H Q := by
  cases ez : op x with
  | none => rw [ez] at o; exact o.elim
  | some zs =>
    rw [ez] at o
    exact vo H F v x zs s.le rx ez Q fun p vs H' gr hp rv => o _ F p vs (Same.refl _) ((s.grow gr).newx hp) upd_same rv
theorem evNG {r : List V → Hp → VK → Prop} {op : D → Option (List D)} (vo : VN1G g (fun v => r [v]) op) (he : PE X e (tCB r (tCons (tE g W f) tNil))) : PE X e (tN g W (dN1 op f)) := he.imp fun σ H Q ⟨P, F, st, s, o⟩ =>
  ⟨P, F, st, s, o.bind.imp fun x st1 H1 F1 le1 s1 o1 v rx => finNG vo s1 (.inl rx) o1⟩
theorem evNGn {r : List V → Hp → VK → Prop} {i : Nat} {op : D → Option (List D)} (vo : VN1G g (fun v => r [v]) op) (he : PE X e (tCB r (tCons (tVar i) tNil))) : PE X e (tN g W (dN1n op i)) := he.imp fun σ H Q ⟨P, F, st, s, o⟩ => by
  obtain ⟨v, d, hv, rx, o1⟩ := o.rd s
  exact ⟨v, hv, finNG vo s rx o1⟩
theorem setI_at {H F : Hp} {v : V} {d : D} {is : List Int} (le : Same F H) (rd : Br g F H v d) (hz : setI d = some is) : ∃ (l : Addr) (ns : List Int), v = .ref l ∧ (SqL g.K H l (ns.map V.int) ∨ SqT g.K H l (ns.map V.int)) ∧ ns.length ≤ 1000 ∧ is = sortU ns := by
  cases d with
  | lst ds =>
    unfold setI at hz
    cases hi : intsOf ds with
    | none => simp only [hi] at hz; cases hz
    | some ns =>
      simp only [hi] at hz
      split at hz
      · rename_i hl
        cases hz
        have := intsOf_eq hi
        subst this
        obtain ⟨a, vs, rfl, h1, r1⟩ := rd.lst le
        have := r1.ints
        subst this
        exact ⟨a, ns, rfl, .inl (sqL_of h1), hl, rfl⟩
      · cases hz
  | tup ds =>
    unfold setI at hz
    cases hi : intsOf ds with
    | none => simp only [hi] at hz; cases hz
    | some ns =>
      simp only [hi] at hz
      split at hz
      · rename_i hl
        cases hz
        have := intsOf_eq hi
        subst this
        obtain ⟨a, vs, rfl, h1, r1⟩ := rd.tup le
        have := r1.ints
        subst this
        exact ⟨a, ns, rfl, .inr h1, hl, rfl⟩
      · cases hz
  | non => cases hz
  | bl _ => cases hz
  | int _ => cases hz
  | str _ => cases hz
  | ins _ _ _ => cases hz
  | scr _ => cases hz
theorem vn_sortSet {w : World} : VN1G g (fun v => rThen (rSetOI g.K w) (rSortedSet w) [v]) nSortSet := by
  intro H F v d zs le rd hz Q q
  unfold nSortSet at hz
  cases hi : setI d with
  | none => rw [hi] at hz; cases hz
  | some is =>
    rw [hi] at hz
    by_cases hl : is.length < 64
    · have hz : some (is.map D.int) = some zs := by rw [← hz]; simp [hl]
      cases hz
      obtain ⟨l, ns, rfl, hs, hn, rfl⟩ := setI_at le rd hi
      refine ⟨l, ns, rfl, hs, hn, fun p hp => ⟨p, _, _, rfl, upd_same, hl, fun out u hpw hm _ hu => ?_⟩⟩
      have e : out = sortU ns := lt_unique hpw (sortU_pw ns) fun k => by rw [hm k, mem_sortU]; simp
      subst e
      exact q u _ _ (Grow.new0 le hp) hu (Rl.of_ints _)
    · have hz : none = some zs := by rw [← hz]; simp [hl]
      cases hz
theorem vo_lenSet {w : World} : VOC g (rThen (rSetOI g.K w) (rLenSet w)) opLenSet := by
  intro H F v d z le rd hz Q q
  unfold opLenSet at hz
  cases hi : setI d with
  | none => rw [hi] at hz; cases hz
  | some is =>
    rw [hi] at hz
    cases hz
    obtain ⟨l, ns, rfl, hs, hn, rfl⟩ := setI_at le rd hi
    exact ⟨l, ns, rfl, hs, hn, fun p hp => ⟨p, _, _, rfl, upd_same, q _ _ _ (Grow.new0 le hp) (.int _)⟩⟩
end
end DL

namespace DL
open PySem PySem.Spec PyProof.Rows L2
section
variable {X : Cx} {g : G} {W : WX} {e : Expr} {f : Den D} {r0 r1 : List V → Hp → VK → Prop} {i : Nat}
theorem evNG2 {op : D → Option (List D)} (vo : VN1G g (fun v => rThen r0 r1 [v]) op) (he : PE X e (tCB r1 (tCons (tCB r0 (tCons (tE g W f) tNil)) tNil))) : PE X e (tN g W (dN1 op f)) := evNG (r := rThen r0 r1) vo he
theorem evNG2n {op : D → Option (List D)} (vo : VN1G g (fun v => rThen r0 r1 [v]) op) (he : PE X e (tCB r1 (tCons (tCB r0 (tCons (tVar i) tNil)) tNil))) : PE X e (tN g W (dN1n op i)) := evNGn (r := rThen r0 r1) vo he
theorem evc12 {op : D → Option D} (vo : VOC g (rThen r0 r1) op) (he : PE X e (tCB r1 (tCons (tCB r0 (tCons (tE g W f) tNil)) tNil))) : PE X e (tE g W (dOp1 op f)) := evc1 (r := rThen r0 r1) vo he
theorem evc12n {op : D → Option D} (vo : VOC g (rThen r0 r1) op) (he : PE X e (tCB r1 (tCons (tCB r0 (tCons (tVar i) tNil)) tNil))) : PE X e (tE g W (dOp1n op i)) := evc1n (r := rThen r0 r1) vo he
end
/-! ### xs.extend(a tuple) -/
theorem ext_tup (l : Addr) (items : Array Value) (n : Nat) (b : Addr) (its2 : Array Value) (h1 : ¬(!items.isEmpty && Builtin.List.listTooLong (items.size + its2.size)) = true) (h2 : items.size ≤ sizeLine) (h3 : items.size + its2.size ≤ sizeLine + 1) :
    Meets (Builtin.«list.extend» ⟨[.ref l, .ref b], []⟩) (fun _ R s => s.heap.get? l = some (seqObj "list" items n) ∧ s.heap.IsTuple b its2 ∧ R (.ok (.ret Value.none)) { s with heap := s.heap.update l (Obj.mapSeq fun x => x ++ its2) }) :=
  .of_wp fun prog w A R s h => by
    obtain ⟨hl, ⟨o, ho, hc, m, hd⟩, h⟩ := h
    unfold Builtin.«list.extend»
    refine wpAny_bind (m := selfAndOne "list.extend" _) (wpAny_pure ?_)
    show wpAny _ _ (Builtin.List.listExtendWith (.ref l) (.ref b) .none) _ _ s
    unfold Builtin.List.listExtendWith
    refine wpAny_bind (wpAny_typeOf (T := "tuple") ⟨o, ho, hc⟩ ?_)
    have ht : (Value.type "tuple" == Value.type "tuple") = true := by rfl
    rw [if_pos (by rw [ht]; simp)]
    refine wpAny_bind (listItems_at ho hd ?_)
    refine wpAny_bind (listItems_at hl rfl ?_)
    rw [if_neg h1]
    refine wpAny_bind (listUpdate_at hl rfl ?_ h2 (by show (items ++ its2).size ≤ sizeLine + 1; rw [Array.size_append]; exact h3))
    exact wpAny_pure ⟨_, rfl, h⟩
section
variable {X : Cx}
def rExtendT (K : PySem.W.Frag) : V → List V → Hp → VK → Prop := fun x vs H Q => ∃ l b xs zs, x = .ref l ∧ vs = [.ref b] ∧ H l = some (.lst xs) ∧ SqT K H b zs ∧ xs.length + zs.length ≤ sizeLine ∧ Q .non (upd H l (.lst (xs ++ zs)))
theorem mt_extendT : MtM X "list.extend" (rExtendT X.K) := by
  intro pins s σ H x vs v us Q I rx rv h
  obtain ⟨l, b, xs, zs, rfl, rfl, hH, hB, hz, q⟩ := h
  cases rx
  obtain ⟨u, rfl, ru⟩ := rv.one
  cases ru
  obtain ⟨z, its, n, r, hl, e⟩ := I.lstM hH
  obtain ⟨its2, r2, pl, _⟩ := I.tuple hB
  have hl2 := r2.length
  have hsz : its.toArray.size + its2.toArray.size ≤ sizeLine := by rw [List.size_toArray, List.size_toArray]; omega
  have hlong : ¬ (!its.toArray.isEmpty && Builtin.List.listTooLong (its.toArray.size + its2.toArray.size)) = true := by
    rw [notLongL hsz, Bool.and_false]
    exact Bool.false_ne_true
  refine call_meets PySem.F.slot_list_extend ⟨_, e, rfl⟩ PySem.F.entry_list_extend (PySem.F.args_list_extend_2 _ _) (ext_tup l its.toArray n b its2.toArray hlong (by rw [List.size_toArray]; omega) (by omega)) ⟨e, pl, ?_⟩
  refine ⟨.non, _, I.lset (its' := its ++ its2) (t' := s.toks) hH e (by simp) (r.append r2) ?_, rfl, q⟩
  rw [List.length_append]
  omega
@[simp] def dExtend (i : Nat) (f : Den D) : Den D := bindD (dOw i) fun _ => bindD f fun y => mutD i fun ds => match y with
  | .tup es => if ds.length + es.length ≤ big then some (.non, ds ++ es) else none
  | _ => none
variable {g : G} {W : WX} {e : Expr} {f : Den D}
theorem ev_extend {i : Nat} (he : PE X e (tBM g.K "list" (rExtendT g.K) (tVar i) (tCons (tE g W f) tNil))) : PE X e (tE g W (dExtend i f)) := he.imp fun σ H Q ⟨P, F, st, s, o⟩ => by
  obtain ⟨ds, e, o1⟩ := Out.ow o
  obtain ⟨_, a, vs, h1, h2, h3, h4, h5, h6⟩ := s.owned e
  refine ⟨_, h1, .inl ⟨rfl, vs, sqL_of h2⟩, P, F, st, s, o1.bind.imp fun y st1 H1 F1 le1 s1 o2 v rv => ?_⟩
  obtain ⟨a', vs', ds', r, g1, g2, g3, g4, g5⟩ := Out.mut s1 o2
  rw [h1] at g1; cases g1
  cases y with
  | tup es =>
    simp only at g4
    split at g4
    · rename_i hl
      cases g4
      obtain ⟨b, ws, rfl, hb, rb⟩ := (show Br g F1 H1 v (.tup es) from .inl rv).tup s1.le
      obtain ⟨st2, s2, k⟩ := g5 (vs' ++ ws) (g3.append rb)
      exact ⟨a, b, vs', ws, rfl, rfl, g2, hb, by rw [g3.length, rb.length, ← big_eq]; exact hl, k _ .non⟩
    · cases g4
  | _ => cases g4
end
theorem sIf_or {a b : Den Bool} {t e : DS} : sIf (dOr a b) t e = sIf a t (sIf b t e) := by
  funext st
  simp only [sIf, dOr, bindD]
  cases a st with
  | ok x st1 => cases x <;> rfl
  | _ => rfl
theorem sIf_and {a b : Den Bool} {t e : DS} : sIf (dAnd a b) t e = sIf a (sIf b t e) e := by
  funext st
  simp only [sIf, dAnd, bindD]
  cases a st with
  | ok x st1 => cases x <;> rfl
  | _ => rfl
section
variable {γ : Type} {X : Bool} {K : γ → Fl → DSt → Prop} {st : DSt} {o : M γ} {a b : Den Bool} {t e r : DS}
theorem rs_or (h : RS X (sSeq (sIf a t (sIf b t e)) r) st o K) : RS X (sSeq (sIf (dOr a b) t e) r) st o K := by rw [sIf_or]; exact h
theorem rs_and (h : RS X (sSeq (sIf a (sIf b t e) e) r) st o K) : RS X (sSeq (sIf (dAnd a b) t e) r) st o K := by rw [sIf_and]; exact h
end
theorem re_iteF {α δ : Type} {w : α → δ} {st : DSt} {a b : Den δ} {x : Bool} {o1 o2 : M α} {S : Bool → DSt} (h1 : RE a st o1 w (S true)) (h2 : RE b st o2 w (S false)) : RE (if x = true then a else b) st (if x = true then o1 else o2) w (S x) := by
  cases x with
  | true => exact h1
  | false => exact h2
/-! ### typed -/
def pSortSet (xs : List Int) : M (List Int) := if xs.length ≤ 1000 ∧ (sortU xs).length < 64 then .ok (sortU xs) else .stuck
def pLenSet (xs : List Int) : M Int := if xs.length ≤ 1000 then .ok (sortU xs).length else .stuck
theorem op_sortSetL {xs : List Int} : OP (nSortSet (eL eI xs)) (pSortSet xs) (List.map eI) := by
  unfold pSortSet
  have e : setI (eL eI xs) = if xs.length ≤ 1000 then some (sortU xs) else none := by
    show (match intsOf (xs.map eI) with | some is => if is.length ≤ 1000 then some (sortU is) else none | none => none) = _
    rw [show intsOf (xs.map eI) = some xs from intsOf_map _]
  by_cases h : xs.length ≤ 1000 ∧ (sortU xs).length < 64
  · rw [if_pos h]
    show nSortSet _ = some _
    unfold nSortSet
    rw [e]; simp only [h.1, h.2, if_true]
  · rw [if_neg h]; trivial
theorem op_sortSetT {xs : List Int} : OP (nSortSet (eT eI xs)) (pSortSet xs) (List.map eI) := by
  unfold pSortSet
  have e : setI (eT eI xs) = if xs.length ≤ 1000 then some (sortU xs) else none := by
    show (match intsOf (xs.map eI) with | some is => if is.length ≤ 1000 then some (sortU is) else none | none => none) = _
    rw [show intsOf (xs.map eI) = some xs from intsOf_map _]
  by_cases h : xs.length ≤ 1000 ∧ (sortU xs).length < 64
  · rw [if_pos h]
    show nSortSet _ = some _
    unfold nSortSet
    rw [e]; simp only [h.1, h.2, if_true]
  · rw [if_neg h]; trivial
theorem op_lenSetL {xs : List Int} : OP (opLenSet (eL eI xs)) (pLenSet xs) eI := by
  unfold pLenSet
  have e : setI (eL eI xs) = if xs.length ≤ 1000 then some (sortU xs) else none := by
    show (match intsOf (xs.map eI) with | some is => if is.length ≤ 1000 then some (sortU is) else none | none => none) = _
    rw [show intsOf (xs.map eI) = some xs from intsOf_map _]
  by_cases h : xs.length ≤ 1000
  · rw [if_pos h]
    show opLenSet _ = some _
    unfold opLenSet
    rw [e, if_pos h]
  · rw [if_neg h]; trivial
theorem op_lenSetT {xs : List Int} : OP (opLenSet (eT eI xs)) (pLenSet xs) eI := by
  unfold pLenSet
  have e : setI (eT eI xs) = if xs.length ≤ 1000 then some (sortU xs) else none := by
    show (match intsOf (xs.map eI) with | some is => if is.length ≤ 1000 then some (sortU is) else none | none => none) = _
    rw [show intsOf (xs.map eI) = some xs from intsOf_map _]
  by_cases h : xs.length ≤ 1000
  · rw [if_pos h]
    show opLenSet _ = some _
    unfold opLenSet
    rw [e, if_pos h]
  · rw [if_neg h]; trivial
def pExt {α : Type} (xs zs : List α) : M (List α) := if xs.length + zs.length ≤ big then .ok (xs ++ zs) else .stuck
section
variable {α : Type} {e : α → D} {st st1 : DSt} {i : Nat} {xs : List α} {f : Den D}
theorem x_extP {ys : List α} (h : st[i]? = some (.ow (xs.map e))) (hf : RV f st (eT e ys) st1) (h1 : st1[i]? = some (.ow (xs.map e))) : RX (sExpr (dExtend i f)) st (pExt xs ys) (fun zs => st1.set i (.ow (zs.map e))) := by
  unfold pExt
  by_cases hl : xs.length + ys.length ≤ big
  · rw [if_pos hl]
    show sExpr (dExtend i f) st = _
    simp only [sExpr, dExtend, bindD, dOw, h, mutD, liftO, setOw, retD]
    rw [show f st = _ from hf]
    simp only [eT, h1, List.length_map, hl, if_true, List.map_append]
  · rw [if_neg hl]; trivial
theorem x_extG {o : M (List α)} (h : st[i]? = some (.ow (xs.map e))) (hf : RE f st o (eT e) st1) (h1 : st1[i]? = some (.ow (xs.map e))) : RX (sExpr (dExtend i f)) st (o.bind fun y => pExt xs y) (fun ys => st1.set i (.ow (ys.map e))) := by
  cases o with
  | ok y => exact x_extP h hf h1
  | exn c fs => obtain ⟨s, hf⟩ := hf; exact ⟨s, by simp only [sExpr, dExtend, bindD, dOw, h]; rw [hf]⟩
  | stuck => trivial
end
end DL

namespace DL
open PySem PySem.Spec PyProof.Rows L2
/-! ### a comprehension's name that held a list: the list is looked upon as data first -/
def preSt (i : Nat) (st : DSt) : DSt := match st[i]? with
  | some (.ow ds) => st.set i (.sh (.lst ds))
  | some (.o2 dss) => st.set i (.sh (.lst (dss.map .lst)))
  | _ => st
def dPre {α : Type} (i : Nat) (f : Den α) : Den α := fun st => f (preSt i st)
section
variable {X : Cx} {g : G} {W : WX} {P : Par} {σ : L2.St} {H F : Hp} {st : DSt} {e : Expr}
theorem SR.pre {i : Nat} (s : SR g P σ H F st) : ∃ F', Same F F' ∧ SR g P σ H F' (preSt i st) := by
  unfold preSt
  split
  · rename_i ds h
    obtain ⟨a, F', _, h2, _, h4⟩ := s.freeze h
    exact ⟨F', h2, h4⟩
  · rename_i dss h
    obtain ⟨a, F', _, h2, _, h4⟩ := s.freeze2 h
    exact ⟨F', h2, h4⟩
  · exact ⟨F, Same.refl _, s⟩
theorem ev_pre {i : Nat} {f : Den (List D)} (he : PE X e (tN g W f)) : PE X e (tN g W (dPre i f)) := he.imp fun σ H Q ⟨P, F, st, s, o⟩ => by
  obtain ⟨F', h1, h2⟩ := s.pre (i := i)
  exact ⟨P, F', preSt i st, h2, OutN.weak h1 o⟩
end
/-! typed -/
section
variable {α β δ : Type} {f : Den δ} {st st1 st2 : DSt} {i : Nat}
theorem rv_pre {y : δ} (e : preSt i st = st1) (h : RV f st1 y st2) : RV (dPre i f) st y st2 := by subst e; exact h
theorem re_pre {o : M α} {v : α → δ} (e : preSt i st = st1) (h : RE f st1 o v st2) : RE (dPre i f) st o v st2 := by subst e; exact h
theorem rt_pre {τ : Type} {o : M (α × τ)} {v : α → δ} {S : τ → DSt} (e : preSt i st = st1) (h : RT f st1 o v S) : RT (dPre i f) st o v S := by subst e; exact h
theorem pre_fz {z : Bool} {ds : List D} (h : st[i]? = some (fz z ds)) : preSt i st = st.set i (.sh (.lst ds)) := by
  cases z with
  | true => unfold preSt; rw [h]; rfl
  | false =>
    unfold preSt; rw [h]
    show st = st.set i (.sh (.lst ds))
    have hi : i < st.length := (List.getElem?_eq_some_iff.mp h).1
    have e : st[i] = .sh (.lst ds) := (List.getElem?_eq_some_iff.mp h).2
    rw [← e, List.set_getElem_self]
/-- nothing, a value or a list -/
def jw : Option (D ⊕ List D) → Slot
  | none => .no
  | some (.inl d) => .sh d
  | some (.inr ds) => .ow ds
def jwD : Option (D ⊕ List D) → Option D
  | none => none
  | some (.inl d) => some d
  | some (.inr ds) => some (.lst ds)
theorem pre_jw {x : Option (D ⊕ List D)} (h : st[i]? = some (jw x)) : preSt i st = st.set i (jk (jwD x)) := by
  have same : ∀ s, st[i]? = some s → st = st.set i s := fun s h => by
    have hi : i < st.length := (List.getElem?_eq_some_iff.mp h).1
    have e : st[i] = s := (List.getElem?_eq_some_iff.mp h).2
    rw [← e, List.set_getElem_self]
  match x, h with
  | none, h => unfold preSt; rw [h]; exact same _ h
  | some (.inl d), h => unfold preSt; rw [h]; exact same _ h
  | some (.inr ds), h => unfold preSt; rw [h]; rfl
theorem pre_jk {x : Option D} (h : st[i]? = some (jk x)) : preSt i st = st := by
  unfold preSt; rw [h]; cases x <;> rfl
end
/-! ### a value looked at from outside: any data without lists -/
def pNol (d : D) : M D := if nol d = true then .ok d else .stuck
theorem re_peekD {f : Den D} {st st' : DSt} {o : M D} (h : RE f (st.map frzS) o eD st') : RE (dPeek f) st ((pNX o).bind pNol) eD st := by
  cases o with
  | ok c =>
    show RE _ _ (pNol c) _ _
    unfold pNol
    split
    · rename_i hn
      exact rv_peek h hn
    · trivial
  | exn c fs => trivial
  | stuck => trivial
theorem rv_peekD {f : Den D} {st st' : DSt} {d : D} (h : RV f (st.map frzS) d st') : RE (dPeek f) st (pNol d) eD st := by
  unfold pNol
  split
  · rename_i hn; exact rv_peek h hn
  · trivial
end DL

namespace DL
open PySem PySem.Calls PySem.Spec PyProof.Rows L2
/-! ### == and != by an own __eq__, either answer -/
section
variable {prog : Program} {w : World} {A : Around} {E : Value → Shared → Prop} {s : Shared} {K : PySem.W.Frag} {h₀ : Heap} {L x C f : Addr} {m : Str → Option Value} {ox : Obj} {b tb : Value}
theorem ifBoundB_K {M : Model} {od} {id : String} {name : Str} {args : List Value} {Q : Option Value → Shared → Prop} (X : K.In s.heap) (I : PySem.W.InstAt s.heap x ox C od) (hs : PySem.W.findIn K (.ref C) name = some (some (.builtin id)))
    (hb : ∀ self, bindSpecial (.builtin id) self = pure (.builtin id, [self]))
    (h : wpAny M A (call (.builtin id) (.ref x :: args)) (fun v => Q (some v)) E s) : wpAny M A (callSpecialIfBound? (.ref x) name args) Q E s := by
  simp only [callSpecialIfBound?, bindSpecialIfBound?]
  refine wpAny_holding (wpAny_bind (wpAny_bind (wpAny_bind (I.type.here ((PySem.W.looks_findIn X hs).here ?_)))))
  simp only [hb]
  refine wpAny_bind (wpAny_askSetting (wpAny_ite ?_))
  have fin : wpAny M A (call (.builtin id) ([.ref x] ++ args) >>= fun v => pure (some v)) Q E s := wpAny_bind (wpAny_mono h (fun v s' h' => wpAny_pure h') fun _ _ h' => h')
  split
  · exact wpAny_bind (wpAny_pure (wpAny_pure fin))
  · exact wpAny_tryCatch (wpAny_bind (wpAny_pure (wpAny_pure fin)))
theorem objNe_K {od} {Q : Fin → Shared → Prop} (X : K.In s.heap) (I : PySem.W.InstAt s.heap x ox C od) (hs : PySem.W.findIn K (.ref C) "__eq__" = some (some (.ref f))) (hf : PySem.W.isFn K (.ref f) = true) (hu : A.units < cLine)
    (hcall : wpAny (model prog w) A (call (.ref f) [.ref x, b]) (fun v s' => ∃ b, v = .bool b ∧ Q (.done (.ret (.bool (!b)))) s') E s) :
    wpAny (model prog w) A (Builtin.«object.__ne__» ⟨[.ref x, b], []⟩) Q E s := by
  unfold Builtin.«object.__ne__»
  repeat (first
    | with_reducible refine wpAny_cRoomFor hu ?_
    | (refine wpAny_bind (m := callSpecialIfBound? (.ref x) (Str.ofString "__eq__") [b])
        (PySem.W.ifBound_K X I hs hf (wpAny_mono hcall (fun r s' hr => by
          obtain ⟨b, rfl, hq⟩ := hr
          repeat (first | exact hq | exact wpAny_pure hq | exact wpAny_truthy_bool hq | (refine wpAny_bind (m := truthy (.bool _)) (wpAny_truthy_bool ?_)) | wp_step)) fun _ _ e => e)))
    | wp_step)
theorem cmpNe_K {od} {Q : Value → Shared → Prop} (hu : A.units + 1 < cLine) (F : Fr h₀ L s.heap m) (X₀ : K.In h₀) (I : PySem.W.InstAt s.heap x ox C od) (hb : PySem.W.Looks (model prog w) s.heap (typeOf b) tb) (hn : PySem.W.notFirst K C tb = true)
    (hs : PySem.W.findIn K (.ref C) "__eq__" = some (some (.ref f))) (hf : PySem.W.isFn K (.ref f) = true)
    (hne : PySem.W.findIn K (.ref C) "__ne__" = some (some (.builtin "object.__ne__"))) (hob : PySem.W.subIn K (.ref C) (.type "object") = some true)
    (h : wpAny (model prog w) A.in1 (call (.ref f) [.ref x, b]) (fun v s' => ∃ b, v = .bool b ∧ Q (.bool (!b)) s') E s) : wpAny (model prog w) A (richCompare .NotEq (.ref x) b) Q E s := by
  have X := X₀.keeps F.keep
  have one : wpAny (model prog w) A (tryCompare (.ref x) "__ne__" b) (fun r s' => ∃ v, r = some v ∧ Q v s') E s := by
    unfold tryCompare
    refine wpAny_bind (ifBoundB_K X I hne PySem.F.cmp_object.ne.bind (wpAny_call (codeAny_call_builtin PySem.F.cmp_object.ne.plain PySem.F.cmpEntry_ne
      (PySem.W.check_slot PySem.F.cmpKind_ne PySem.F.cmpSplit_ne (I.type.andThen (PySem.W.looks_subIn X hob)) (PySem.F.cmpArgs_ne _ _)
        (objNe_K (A := A.in1) X I hs hf hu (wpAny_mono h (fun v s' hv => ?_) fun _ _ e => e))))))
    obtain ⟨b, rfl, hq⟩ := hv
    first | exact ⟨b, rfl, wpAny_pure ⟨_, rfl, hq⟩⟩ | exact ⟨b, rfl, wpAny_pure (wpAny_pure ⟨_, rfl, hq⟩)⟩ | exact ⟨b, rfl, ⟨_, rfl, hq⟩⟩
  unfold richCompare
  simp only [oneThing_ref]
  refine wpAny_holding (wpAny_bind (wpAny_cRoomFor (Nat.lt_of_succ_lt hu) ?_))
  rw [cmpInfo_NotEq]
  dsimp only
  refine wpAny_bind (I.type.here (wpAny_bind (hb.here ?_)))
  split
  · rename_i q
    have e : PySem.W.subIn K tb (.ref C) = some false := by
      rcases Bool.or_eq_true_iff.mp hn with e | e
      · rw [beq_iff_eq.mp e] at q; simp at q
      · exact beq_iff_eq.mp e
    refine wpAny_bind ((PySem.W.looks_subIn X e).here ?_)
    simp only [Bool.false_eq_true, if_false]
    refine wpAny_bind (wpAny_mono one (fun r s' z => ?_) fun _ _ e => e)
    obtain ⟨v, rfl, hq⟩ := z
    exact wpAny_pure hq
  · refine wpAny_bind (wpAny_pure ?_)
    simp only [Bool.false_eq_true, if_false]
    refine wpAny_bind (wpAny_mono one (fun r s' z => ?_) fun _ _ e => e)
    obtain ⟨v, rfl, hq⟩ := z
    exact wpAny_pure hq
end
structure NfO (K : PySem.W.Frag) (C : Addr) : Prop where
  n1 : PySem.W.notFirst K C (.type "NoneType") = true
  n2 : PySem.W.notFirst K C (.type "tuple") = true
  ne : PySem.W.findIn K (.ref C) "__ne__" = some (some (.builtin "object.__ne__"))
  ob : PySem.W.subIn K (.ref C) (.type "object") = some true
def tyO (K : PySem.W.Frag) (C : Addr) (y : V) (H : Hp) : Prop := y = .non ∨ ∃ b, y = .ref b ∧ ((∃ dy gs, H b = some (.ins C dy gs)) ∨ (∃ ys, SqT K H b ys))
def rOwn (K : PySem.W.Frag) (C : Addr) (sp : Sp) (ng : Bool → Bool) : R2 := fun x y H Q => ∃ a dx fs, x = .ref a ∧ H a = some (.ins C dx fs) ∧ tyO K C y H ∧ sp [x, y] H (fun v H' => ∃ b, v = .bl b ∧ Q (.bl (ng b)) H') E0
section
variable {X : Cx} {n lvl : Nat} {C f : Addr} {m : Str} {ps : List Str} {sp : Sp}
theorem run_own {fd : FuncData} {A : Around} {pins : List (Addr × Obj)} {s : Shared} {σ : L2.St} {H : Hp} {vs : List V} {us : List Value} {Q : VK} (F : FnOk X.prog X.w X.K X.mg X.base (L2.CX X.prog X.w) n f fd ps sp) (hb : Binds X.K fd ps []) (rm : Room n A) (fr : A.frames = X.A.frames)
    (I : Inv X pins σ H s) (r : Vals vs us) (hsp : sp vs H Q E0) : wpAny (model X.prog X.w) A (call (.ref f) us) (EP X pins σ Q) X.xe s := by
  have e0 : Env0 X.prog X.w X.K X.mg X.base A X.stack s H := by
    have e := I.env0
    exact ⟨by rw [fr]; exact e.frames, e.mod, e.bs, e.bsz, e.funs, e.frf, e.hok, e.bare⟩
  have hl := F.len _ _ _ _ hsp
  refine wpAny_call (codeAny_mono (F.run A X.stack s H ⟨us, []⟩ us vs _ E0 rm e0 (by
    have := hb s us I.kIn (by simpa [r.length] using hl)
    simpa using this) r hsp) fun r s' hq => ?_)
  cases r with
  | error e => exact passL pins σ H s e s' I hq
  | ok fl =>
    cases fl with
    | ret w => exact I.after hq
    | next => exact False.elim hq
    | brk => exact False.elim hq
    | cont => exact False.elim hq
theorem look_o {pins : List (Addr × Obj)} {s : Shared} {σ : L2.St} {H : Hp} {y : V} {u : Value} (no : NfO X.K C) (I : Inv X pins σ H s) (ry : RelV y u) (ty : tyO X.K C y H) :
    ∃ tb, PySem.W.Looks (model X.prog X.w) s.heap (typeOf u) tb ∧ PySem.W.notFirst X.K C tb = true := by
  rcases ty with rfl | ⟨b, rfl, ⟨dy, gs, hb⟩ | ⟨ys, hq⟩⟩
  · cases (show u = .none from ry)
    exact ⟨.type "NoneType", PySem.W.Looks.of_pure (by kernel_rfl), no.n1⟩
  · cases ry
    obtain ⟨mB, J', _⟩ := ins_get I.hok hb
    obtain ⟨od', J', _⟩ := J'.look
    exact ⟨_, J'.type, by simp [PySem.W.notFirst]⟩
  · cases ry
    obtain ⟨its, r, ⟨o, ho, hc, _⟩, hz⟩ := I.tuple hq
    exact ⟨.type "tuple", hc ▸ (PySem.W.Looks.ld ho).andThen .now, no.n2⟩
theorem op_ownEq (F : Mf X.prog X.w X.K X.mg X.base C "__eq__" lvl f ps sp) (hr : Room lvl X.A) (no : NfO X.K C) : OpR X (compareOp .Eq) (rOwn X.K C sp id) := by
  intro pins s σ H x y v u Q I rx ry ⟨a, dx, fs, ex, ha, ty, hq⟩
  subst ex
  cases rx
  obtain ⟨tb, lk, nf⟩ := look_o no I ry ty
  obtain ⟨fd, G, b⟩ := F.ok
  obtain ⟨mA, J, _⟩ := ins_get I.hok ha
  obtain ⟨od, J, _⟩ := J.look
  obtain ⟨m, hF⟩ := I.fr
  show wpAny (model X.prog X.w) X.A (richCompare .Eq (.ref a) u) (EP X pins σ Q) X.xe s
  refine PySem.W.cmp_K (op := .Eq) hr.units0 hF I.ok.mod.kin J lk nf F.me.at_ F.me.fn (wpAny_mono (run_own G b hr rfl I (.cons (show RelV (.ref a) (.ref a) from rfl) (.cons ry .nil)) hq) (fun r s' z => ?_) fun _ _ e => e)
  obtain ⟨z, H', I', rz, b, ez, q⟩ := z
  subst ez
  cases rz
  exact ⟨.bl b, H', I', rfl, q⟩
theorem op_ownNe (F : Mf X.prog X.w X.K X.mg X.base C "__eq__" lvl f ps sp) (hr : Room (lvl + 1) X.A) (no : NfO X.K C) : OpR X (compareOp .NotEq) (rOwn X.K C sp not) := by
  intro pins s σ H x y v u Q I rx ry ⟨a, dx, fs, ex, ha, ty, hq⟩
  subst ex
  cases rx
  obtain ⟨tb, lk, nf⟩ := look_o no I ry ty
  obtain ⟨fd, G, b⟩ := F.ok
  obtain ⟨mA, J, _⟩ := ins_get I.hok ha
  obtain ⟨od, J, _⟩ := J.look
  obtain ⟨m, hF⟩ := I.fr
  have hu : X.A.units + 1 < cLine := by have := hr.in1.units0; exact this
  show wpAny (model X.prog X.w) X.A (richCompare .NotEq (.ref a) u) (EP X pins σ Q) X.xe s
  refine cmpNe_K hu hF I.ok.mod.kin J lk nf F.me.at_ F.me.fn no.ne no.ob (wpAny_mono (run_own G b hr.in1 rfl I (.cons (show RelV (.ref a) (.ref a) from rfl) (.cons ry .nil)) hq) (fun r s' z => ?_) fun _ _ e => e)
  obtain ⟨z, H', I', rz, b, ez, q⟩ := z
  subst ez
  cases rz
  exact ⟨_, rfl, .bl (!b), H', I', rfl, q⟩
end
def okY (c : Str) : D → Bool
  | .non => true
  | .tup _ => true
  | .ins c' _ _ => c' == c
  | _ => false
def opOwn (c : Str) (df : List D → M D) (ng : Bool → Bool) (x y : D) : Option D := match x with
  | .ins c' _ _ => if c' = c ∧ okY c y = true then (match df [x, y] with | .ok (.bl b) => some (.bl (ng b)) | _ => none) else none
  | _ => none
theorem vo_own {g : G} {c : Str} {C : Addr} {df : List D → M D} {ng : Bool → Bool} (k : g.mg c = some (.ref C)) : VO2 g (rOwn g.K C (spD g df) ng) (opOwn c df ng) := by
  intro H F v u d e z l rd re hz Q q
  unfold opOwn at hz
  split at hz
  · rename_i c' ns ds
    split at hz
    · rename_i hc
      obtain ⟨rfl, hy⟩ := hc
      have rd : Rv g F v (.ins c' ns ds) := by
        rcases rd with rd | ⟨_, _, _, _, ed, _⟩
        · exact rd
        · cases ed
      have re : Rv g F u e := by
        rcases re with re | ⟨_, _, _, _, ed, _⟩
        · exact re
        · subst ed; cases hy
      split at hz
      · rename_i b hd
        cases hz
        have rl : Rl g F [v, u] [.ins c' ns ds, e] := .cons rd (.cons re .nil)
        cases rd with
        | ins h1 h2 h3 h4 =>
          rw [k] at h2
          cases h2
          refine ⟨_, _, _, rfl, l _ _ h1, ?_, F, _, l, rl, ?_⟩
          · cases re with
            | non => exact .inl rfl
            | tup hs _ _ => exact .inr ⟨_, rfl, .inr ⟨_, sqT_mono l hs⟩⟩
            | ins g1 g2 _ _ =>
              have hy' := eq_of_beq hy
              subst hy'
              rw [k] at g2
              cases g2
              exact .inr ⟨_, rfl, .inl ⟨_, _, l _ _ g1⟩⟩
            | _ => cases hy
          · rw [hd]
            intro v H' F' gr rv
            cases rv
            exact ⟨_, rfl, q _ _ _ gr (.bl _)⟩
      · cases hz
    · cases hz
  · cases hz
def ownB (K : PySem.W.Frag) (c : Str) : Bool := He.eqO (PySem.W.findIn K (.ref (He.ga K c)) "__ne__") (some (some (.builtin "object.__ne__"))) && (decide (PySem.W.subIn K (.ref (He.ga K c)) (.type "object") = some true) &&
  (PySem.W.notFirst K (He.ga K c) (.type "NoneType") && PySem.W.notFirst K (He.ga K c) (.type "tuple")))
theorem ownB_ok {K : PySem.W.Frag} {c : Str} (h : ownB K c = true) : NfO K (He.ga K c) := by
  unfold ownB at h
  obtain ⟨h1, h⟩ := He.ba h
  obtain ⟨h2, h⟩ := He.ba h
  obtain ⟨h3, h4⟩ := He.ba h
  exact ⟨h3, h4, He.eqO_ok h1, of_decide_eq_true h2⟩
theorem o2_opt {α : Type} {e : α → D} {xss : List (List α)} {st : DSt} {i : Nat} (h : st[i]? = some (.o2 (xss.map (List.map e)))) : st[i]? = some (.o2 ((xss.map (List.map some)).map (List.map (eO e)))) := by
  rw [h, List.map_map]
  congr 2
  refine List.map_congr_left fun x _ => ?_
  simp only [Function.comp, List.map_map]
  exact List.map_congr_left fun _ _ => rfl
theorem op_DL {x : Option (List D)} : OP x (oM x) (List.map eD) := by
  have e : ∀ xs : List D, List.map eD xs = xs := fun xs => by induction xs with | nil => rfl | cons a t ih => show eD a :: List.map eD t = a :: t; rw [ih]
  cases x with
  | none => trivial
  | some y => show some y = some (List.map eD y); rw [e]
end DL

namespace DL
open PySem PySem.Spec PyProof.Rows L2
/-! ### index of a list or a tuple (where tuples are known) -/
@[simp] def isLT : D → Option Unit
  | .lst _ => some ()
  | .tup _ => some ()
  | _ => none
@[simp] def opIndexT (x y : D) : Option D := match x with
  | .tup ds => if flatD y && ds.all flatD then (match ixF (fun z => eqF z y) 0 ds with | some j => some (.int (j : Nat)) | none => none) else none
  | _ => none
@[simp] def opIndexA (k x y : D) : Option D := match k with
  | .lst _ => opIndex x y
  | .tup _ => opIndexT x y
  | _ => none
@[simp] def dIndexA (f h : Den D) : Den D := bindD f fun x => bindD (liftO (isLT x)) fun _ => bindD h fun y => liftO (opIndexA x x y)
@[simp] def dIndexAN (i : Nat) (h : Den D) : Den D := bindD (dRd i) fun k => bindD (liftO (isLT k)) fun _ => bindD h fun y => bindD (dRd i) fun x => liftO (opIndexA k x y)
section
variable {X : Cx} {g : G} {W : WX} {P : Par} {σ : L2.St} {H F : Hp} {st : DSt} {e : Expr} {f h : Den D}
theorem indexT_ok {v u : V} {x y z : D} {Q : VK} (le : Same F H) (rx : Br g F H v x) (ry : Rv g F u y) (hz : opIndexT x y = some z) (q : ∀ v, Rv g F v z → Q v H) : rIndexT g.K v [u] H Q := by
  cases x with
  | tup ds =>
    obtain ⟨a, vs, rfl, h1, r1⟩ := rx.tup le
    simp only [opIndexT] at hz
    split at hz
    · rename_i hf
      obtain ⟨f1, f2⟩ := Bool.and_eq_true_iff.mp hf
      split at hz
      · rename_i j hj
        cases hz
        obtain ⟨k, z, rfl, g1, g2, g3⟩ := ixF_some hj
        rw [Nat.zero_add] at q
        obtain ⟨w, h2, h3, h4⟩ := flat_hits ry f1 r1 f2 g1 g2 g3
        exact ⟨a, vs, u, k, w, rfl, rfl, h1, flat_rv ry f1, all_flat r1 f2, h2, h3, h4, q _ (.int _)⟩
      · cases hz
    · cases hz
  | _ => cases hz
theorem knT_rv {ds : List D} {v : V} (ht : g.tk = true) (le : Same F H) (rx : Br g F H v (.tup ds)) : ∃ a, v = .ref a ∧ KnT g.K H a := by
  rcases rx with rx | ⟨_, _, _, _, z, _⟩
  · cases rx with
    | tup _ k _ => exact ⟨_, rfl, (k ht).mono le⟩
  · cases z
theorem ev_indexA (ht : g.tk = true) (he : PE X e (tBMA g.K (rIndexA g.K) (rIndexT g.K) (tE g W f) (tCons (tE g W h) tNil))) : PE X e (tE g W (dIndexA f h)) := he.imp fun σ H Q ⟨P, F, st, s, o⟩ =>
  ⟨P, F, st, s, o.bind.imp fun x st1 H1 F1 le1 s1 o1 v rx => by
    obtain ⟨u0, hx, q⟩ := Out.lift o1.bind
    cases x with
    | lst ds =>
      obtain ⟨a, vs, rfl, h1, r1⟩ := (show Br g F1 H1 v (.lst ds) from .inl rx).lst s1.le
      refine .inl ⟨.inl ⟨rfl, vs, sqL_of h1⟩, P, F1, st1, s1, Out.imp (Out.bind (q H1 F1 (Same.refl _) s1)) fun y st2 H2 F2 le2 s2 o2 u ry => ?_⟩
      obtain ⟨z, ez, q⟩ := o2.lift
      obtain ⟨_, _, _, _, fin⟩ := opIndex_ok s2.le (.inl (rx.mono le2)) ry ez (q H2 F2 (Same.refl _) s2)
      exact fin
    | tup ds =>
      refine .inr ⟨knT_rv ht s1.le (.inl rx), P, F1, st1, s1, Out.imp (Out.bind (q H1 F1 (Same.refl _) s1)) fun y st2 H2 F2 le2 s2 o2 u ry => ?_⟩
      obtain ⟨z, ez, q⟩ := o2.lift
      exact indexT_ok s2.le (.inl (rx.mono le2)) ry ez (q H2 F2 (Same.refl _) s2)
    | _ => cases hx⟩
theorem ev_indexAN {i : Nat} (ht : g.tk = true) (he : PE X e (tBMA g.K (rIndexA g.K) (rIndexT g.K) (tVar i) (tCons (tE g W h) tNil))) : PE X e (tE g W (dIndexAN i h)) := he.imp fun σ H Q ⟨P, F, st, s, o⟩ => by
  obtain ⟨v, x, hv, rx, o1⟩ := o.rd s
  obtain ⟨u0, hx, q⟩ := Out.lift o1.bind
  have o2 := q H F (Same.refl _) s
  cases x with
  | lst ds =>
    obtain ⟨a, vs, rfl, h1, r1⟩ := rx.lst s.le
    refine ⟨_, hv, .inl ⟨.inl ⟨rfl, vs, sqL_of h1⟩, P, F, st, s, o2.bind.imp fun y st2 H2 F2 le2 s2 o3 u ry => ?_⟩⟩
    obtain ⟨v', x', hv', rx', o4⟩ := o3.rd s2
    rw [hv] at hv'; cases hv'
    obtain ⟨z, ez, q⟩ := o4.lift
    obtain ⟨_, _, _, _, fin⟩ := opIndex_ok s2.le rx' ry ez (q H2 F2 (Same.refl _) s2)
    exact fin
  | tup ds =>
    refine ⟨_, hv, .inr ⟨knT_rv ht s.le rx, P, F, st, s, o2.bind.imp fun y st2 H2 F2 le2 s2 o3 u ry => ?_⟩⟩
    obtain ⟨v', x', hv', rx', o4⟩ := o3.rd s2
    rw [hv] at hv'; cases hv'
    obtain ⟨z, ez, q⟩ := o4.lift
    exact indexT_ok s2.le rx' ry ez (q H2 F2 (Same.refl _) s2)
  | _ => cases hx
end
/-! typed -/
section
variable {α β δ τ : Type} {st st' : DSt} {S : τ → DSt}
theorem rv_dIndexA {f h : Den D} {y : D} (hh : RV (bindD f fun x => bindD (liftO (isLT x)) fun _ => bindD h fun y => liftO (opIndexA x x y)) st y st') : RV (dIndexA f h) st y st' := hh
theorem re_dIndexA {f h : Den D} {o : M α} {v : α → D} (hh : RE (bindD f fun x => bindD (liftO (isLT x)) fun _ => bindD h fun y => liftO (opIndexA x x y)) st o v st') : RE (dIndexA f h) st o v st' := hh
theorem rt_dIndexA {f h : Den D} {o : M (α × τ)} {v : α → D} (hh : RT (bindD f fun x => bindD (liftO (isLT x)) fun _ => bindD h fun y => liftO (opIndexA x x y)) st o v S) : RT (dIndexA f h) st o v S := hh
theorem rv_dIndexAN {i : Nat} {h : Den D} {y : D} (hh : RV (bindD (dRd i) fun k => bindD (liftO (isLT k)) fun _ => bindD h fun y => bindD (dRd i) fun x => liftO (opIndexA k x y)) st y st') : RV (dIndexAN i h) st y st' := hh
theorem re_dIndexAN {i : Nat} {h : Den D} {o : M α} {v : α → D} (hh : RE (bindD (dRd i) fun k => bindD (liftO (isLT k)) fun _ => bindD h fun y => bindD (dRd i) fun x => liftO (opIndexA k x y)) st o v st') : RE (dIndexAN i h) st o v st' := hh
theorem rt_dIndexAN {i : Nat} {h : Den D} {o : M (α × τ)} {v : α → D} (hh : RT (bindD (dRd i) fun k => bindD (liftO (isLT k)) fun _ => bindD h fun y => bindD (dRd i) fun x => liftO (opIndexA k x y)) st o v S) : RT (dIndexAN i h) st o v S := hh
theorem op_oMid {γ : Type} {x : Option γ} : OP x (oM x) (fun u : γ => u) := by cases x <;> simp [OP, oM]
theorem indexA_L {a : α → D} {ks xs : List α} {y : D} {o : M Int} (h : OP (opIndex (eL a xs) y) o eI) : OP (opIndexA (eL a ks) (eL a xs) y) o eI := h
theorem indexA_T {a : α → D} (p : Fl1 a) [DecidableEq α] {x : α} {ks xs : List α} : OP (opIndexA (eT a ks) (eT a xs) (a x)) (pIndex xs x) eI := by
  unfold pIndex
  by_cases h : x ∈ xs
  · simp [h, OP, opIndexA, eT, p.fl, allF p, ixF_eq p, eI]
  · simp [h, OP]
end
end DL

namespace LAW
open PySem PySem.Spec PyProof.Rows L2 DL
def topS (i : Nat) : Stmt := PySem.Challenge.pw_reesblocks_k06_restricted_semigroups.main.body.getD i (.Pass ⟨0, 0, 0, 0⟩)
def fuel : Nat := 1000000
def PP : Program := (PySem.Challenge.rw_reesblocks_k06_restricted_semigroups).prog
abbrev TK : Bool := true
theorem psup : (PP.main.scope.names.lookup ("super" : Str)).isSome = false := by kernel_rfl
def mt : List (Str × Str × Bool) := [("Fault", "Fault", true), ("Fault", "Malformed", false), ("Fault", "Refused", false), ("Malformed", "Fault", true), ("Malformed", "Malformed", true), ("Malformed", "Refused", false), ("Refused", "Fault", true), ("Refused", "Malformed", false), ("Refused", "Refused", true)]
def l1__law_state : DS := (sSeq (sSet 1 (dOp2 opAdd (dOp2 opMul (dVar 1) (dC (.int 1000003))) (dOp1n opAbs 3))) (sSet 2 (dOp2 opMod (dOp1 opInt (dOp2 opAdd (dOp2 opMul (dVar 2) (dC (.int 48271))) (dVar 3))) (dC (.int 2147483647)))))
def b__law_state : DS := (sSeq (sSet 1 (dC (.int 0))) (sSeq (sSet 2 (dC (.int 1))) (sSeq (sFor (.nm 3) (dItems (dSln 0 dNoP (dPart (dC (.int 63))))) l1__law_state) sPass)))
def r__law_state : Den (List D) := (dLst (dCons (dVar 1) (dCons (dVar 2) dNil)))
def d__law_state : List D → Option (List D) := runO 1 4 b__law_state r__law_state
def k2__law_take : DS := (sRet (dOp2 opMod (dOp1 opInt (dOp2 opDiv (dOp2n opIx 0 (dC (.int 1))) (dC (.int 7)))) (dVar 1)))
def k1__law_take : DS := (sSeq (sStore 0 (dC (.int 1)) (dOp2 opMod (dOp1 opInt (dOp2 opAdd (dOp2 opMul (dOp2n opIx 0 (dC (.int 1))) (dC (.int 48271))) (dC (.int 11)))) (dC (.int 2147483647)))) k2__law_take)
def b__law_take : DS := (sSeq (sIf (dTst (dOp2 opGt (dOp2n opIx 0 (dC (.int 0))) (dC (.int 0)))) (sSeq (sSet 2 (dOp2 opMod (dOp1 opInt (dOp2n opIx 0 (dC (.int 0)))) (dVar 1))) (sSeq (sStore 0 (dC (.int 0)) (dOp2 opDiv (dOp2n opIx 0 (dC (.int 0))) (dVar 1))) (sRet (dVar 2)))) sPass) k1__law_take)
def d__law_take : List D → List D → M (D × List D) := runR 2 3 b__law_take
def e1__law_extended : Den D := (dOp2 opIx (dOp2n opIx 1 (dVar 7)) (dVar 6))
def e2__law_extended : Den D := (dOp1 opTuple (dFrz (dComp [7] (.nm 7) (dRng (dVar 3)) dYes e1__law_extended)))
def e3__law_extended : Den D := (dOp2 opAdd (dVar 8) (dTup (dCons (dVar 3) dNil)))
def e4__law_extended : Den D := (dVar 3)
def e5__law_extended : Den D := (dOp2 opAdd (dOp2n opIx 1 (dVar 6)) (dTup (dCons (dVar 6) dNil)))
def e6__law_extended : Den D := (dOp2 opAdd (dOp2 opMul (dC (.int 2)) (dOp2 opIx (dOp2n opIx 1 (dOp2 opDiv (dVar 6) (dC (.int 2)))) (dOp2 opDiv (dVar 7) (dC (.int 2))))) (dOp2 opIx (dOp2n opIx 5 (dOp2 opMod (dOp1n opInt 6) (dC (.int 2)))) (dOp2 opMod (dOp1n opInt 7) (dC (.int 2)))))
def e7__law_extended : Den D := (dOp1 opTuple (dFrz (dComp [7] (.nm 7) (dRng (dOp2 opMul (dC (.int 2)) (dVar 3))) dYes e6__law_extended)))
def k6__law_extended : DS := (sRet (dVar 1))
def k5__law_extended : DS := (sSeq (sIf (dAnd (dTst (dOp2 opEq (dVar 4) (dC (.int 3)))) (dTst (dOp2 opLe (dOp2 opMul (dC (.int 2)) (dVar 3)) (dVar 2)))) (sSeq (sOwn 5 (dLst (dCons (dTup (dCons (dC (.int 0)) (dCons (dC (.int 0)) dNil))) (dCons (dTup (dCons (dC (.int 0)) (dCons (dC (.int 1)) dNil))) dNil)))) (sSeq (sIf (dTst (dOp2 opEq (dCallR d__law_take 0 (dCons (dC (.int 2)) dNil)) (dC (.int 0)))) (sOwn 5 (dLst (dCons (dTup (dCons (dC (.int 0)) (dCons (dC (.int 1)) dNil))) (dCons (dTup (dCons (dC (.int 1)) (dCons (dC (.int 0)) dNil))) dNil)))) sPass) (sRet (dFrz (dComp [6] (.nm 6) (dRng (dOp2 opMul (dC (.int 2)) (dVar 3))) dYes e7__law_extended))))) sPass) k6__law_extended)
def k4__law_extended : DS := (sSeq (sIf (dAnd (dTst (dOp2 opEq (dVar 4) (dC (.int 2)))) (dTst (dOp2 opLt (dVar 3) (dVar 2)))) (sRet (dFrz (dN2 nAdd (dFrz (dComp [6] (.nm 6) (dRng (dVar 3)) dYes e5__law_extended)) (dFrz (dLst (dCons (dTupRg (dRg1 (dOp2 opAdd (dVar 3) (dC (.int 1))))) dNil)))))) sPass) k5__law_extended)
def k3__law_extended : DS := (sSeq (sIf (dAnd (dTst (dOp2 opEq (dVar 4) (dC (.int 1)))) (dTst (dOp2 opLt (dVar 3) (dVar 2)))) (sRet (dFrz (dN2 nAdd (dFrz (dComp [8] (.nm 8) (dItems (dVar 1)) dYes e3__law_extended)) (dFrz (dLst (dCons (dOp1 opTuple (dFrz (dComp [7] (.nm 7) (dRng (dOp2 opAdd (dVar 3) (dC (.int 1)))) dYes e4__law_extended))) dNil)))))) sPass) k4__law_extended)
def k2__law_extended : DS := (sSeq (sIf (dTst (dOp2 opEq (dVar 4) (dC (.int 0)))) (sRet (dFrz (dComp [6] (.nm 6) (dRng (dVar 3)) dYes e2__law_extended))) sPass) k3__law_extended)
def k1__law_extended : DS := (sSeq (sSet 4 (dCallR d__law_take 0 (dCons (dC (.int 6)) dNil))) k2__law_extended)
def b__law_extended : DS := (sSeq (sSet 3 (dOp1n opLen 1)) k1__law_extended)
def d__law_extended : List D → List D → M (D × List D) := runR 3 9 b__law_extended
def e1__law_renamed : Den D := (dC (.int 0))
def e2__law_renamed : Den (List D) := (dComp [5] (.nm 5) (dRng (dVar 2)) dYes e1__law_renamed)
def l1__law_renamed : DS := (sStore2 3 (dOp2n opIx 1 (dVar 4)) (dOp2n opIx 1 (dVar 5)) (dOp2n opIx 1 (dOp2 opIx (dOp2n opIx 0 (dVar 4)) (dVar 5))))
def l2__law_renamed : DS := (sFor (.nm 5) (dRng (dVar 2)) l1__law_renamed)
def e3__law_renamed : Den D := (dOp1n opTuple 6)
def k3__law_renamed : DS := (sRet (dFrz (dComp [6] (.nm 6) (dItems (dVar 3)) dYes e3__law_renamed)))
def k2__law_renamed : DS := (sSeq (sFor (.nm 4) (dRng (dVar 2)) l2__law_renamed) k3__law_renamed)
def k1__law_renamed : DS := (sSeq (sOwn2 3 (dComp2 [4] (.nm 4) (dRng (dVar 2)) e2__law_renamed)) k2__law_renamed)
def b__law_renamed : DS := (sSeq (sSet 2 (dOp1n opLen 0)) k1__law_renamed)
def d__law_renamed : List D → M D := runF 2 7 b__law_renamed
def l1__law_triples : DS := (sSeq (sSet 11 (dOp2 opMod (dOp1n opInt 8) (dVar 1))) (sSeq (sSet 12 (dOp2 opDiv (dVar 10) (dOp2 opMul (dVar 2) (dVar 1)))) (sIf (dAnd (dTst (dVar 5)) (dTst (dOp2 opIx (dOp2n opIx 4 (dVar 11)) (dVar 12)))) (sExpr (dAppend 9 (dVar 6))) (sSeq (sSet 13 (dOp2 opMod (dOp1 opInt (dOp2 opAdd (dOp2 opAdd (dOp2 opDiv (dVar 8) (dVar 1)) (dOp2 opIx (dOp2n opIx 3 (dVar 11)) (dVar 12))) (dOp2 opDiv (dVar 10) (dVar 1)))) (dVar 2))) (sExpr (dAppend 9 (dOp2 opAdd (dOp2 opMul (dOp2 opAdd (dOp2 opMul (dOp2 opDiv (dVar 8) (dOp2 opMul (dVar 2) (dVar 1))) (dVar 2)) (dVar 13)) (dVar 1)) (dOp2 opMod (dOp1n opInt 10) (dVar 1)))))))))
def e1__law_triples : Den D := (dVar 6)
def l2__law_triples : DS := (sSeq (sOwn 9 (dLst dNil)) (sSeq (sFor (.nm 10) (dRng (dVar 6)) l1__law_triples) (sExpr (dAppend 7 (dOp1 opTuple (dFrz (dN2 nAdd (dVar 9) (dFrz (dComp [14] (.nm 14) (dRng (dOp1n opInt 5)) dYes e1__law_triples)))))))))
def e2__law_triples : Den D := (dVar 6)
def k4__law_triples : DS := (sRet (dVar 7))
def k3__law_triples : DS := (sSeq (sIf (dTst (dVar 5)) (sExpr (dAppend 7 (dOp1 opTuple (dFrz (dComp [14] (.nm 14) (dRng (dOp2 opAdd (dVar 6) (dC (.int 1)))) dYes e2__law_triples))))) sPass) k4__law_triples)
def k2__law_triples : DS := (sSeq (sFor (.nm 8) (dRng (dVar 6)) l2__law_triples) k3__law_triples)
def k1__law_triples : DS := (sSeq (sOwn 7 (dLst dNil)) k2__law_triples)
def b__law_triples : DS := (sSeq (sSet 6 (dOp2 opMul (dOp2 opMul (dVar 0) (dVar 1)) (dVar 2))) k1__law_triples)
def d__law_triples : List D → M D := runF 6 15 b__law_triples
def e1__law_blocks : Den D := (dCallR d__law_take 0 (dCons (dVar 4) dNil))
def e2__law_blocks : Den D := (dFrz (dComp [9] (.nm 9) (dRng (dVar 2)) dYes e1__law_blocks))
def e3__law_blocks : Den D := (dOp2 opEq (dCallR d__law_take 0 (dCons (dC (.int 3)) dNil)) (dC (.int 0)))
def e4__law_blocks : Den D := (dFrz (dComp [9] (.nm 9) (dRng (dVar 2)) dYes e3__law_blocks))
def k7__law_blocks : DS := (sRet (dCall d__law_triples (dCons (dVar 2) (dCons (dVar 3) (dCons (dVar 4) (dCons (dVar 5) (dCons (dVar 6) (dCons (dVar 7) dNil))))))))
def k6__law_blocks : DS := (sSeq (sSet 7 (dIf (dTst (dOp2 opEq (dCallR d__law_take 0 (dCons (dC (.int 2)) dNil)) (dC (.int 0)))) (dOp2 opLt (dOp2 opMul (dOp2 opMul (dVar 2) (dVar 3)) (dVar 4)) (dVar 1)) (dC (.bl false)))) k7__law_blocks)
def k5__law_blocks : DS := (sSeq (sOwn 6 (dComp [8] (.nm 8) (dRng (dVar 3)) dYes e4__law_blocks)) k6__law_blocks)
def k4__law_blocks : DS := (sSeq (sOwn 5 (dComp [8] (.nm 8) (dRng (dVar 3)) dYes e2__law_blocks)) k5__law_blocks)
def k3__law_blocks : DS := (sSeq (sIf (dTst (dOp2 opGt (dOp2 opAdd (dOp2 opMul (dOp2 opMul (dVar 2) (dVar 3)) (dVar 4)) (dC (.int 1))) (dVar 1))) (sAsg (.nms [2, 3, 4]) (dTup (dCons (dC (.int 1)) (dCons (dC (.int 1)) (dCons (dOp2 opMin2 (dC (.int 2)) (dVar 1)) dNil))))) sPass) k4__law_blocks)
def k2__law_blocks : DS := (sSeq (sSet 4 (dOp2 opAdd (dC (.int 1)) (dCallR d__law_take 0 (dCons (dC (.int 2)) dNil)))) k3__law_blocks)
def k1__law_blocks : DS := (sSeq (sSet 3 (dOp2 opAdd (dC (.int 1)) (dCallR d__law_take 0 (dCons (dC (.int 2)) dNil)))) k2__law_blocks)
def b__law_blocks : DS := (sSeq (sSet 2 (dOp2 opAdd (dC (.int 1)) (dCallR d__law_take 0 (dCons (dC (.int 2)) dNil)))) k1__law_blocks)
def d__law_blocks : List D → List D → M (D × List D) := runR 2 10 b__law_blocks
def l1__law_monogenic : DS := (sSeq (sSet 9 (dOp2 opAdd (dOp2 opAdd (dVar 6) (dVar 8)) (dC (.int 2)))) (sSeq (sIf (dTst (dOp2 opGt (dVar 9) (dVar 2))) (sSet 9 (dOp2 opAdd (dVar 4) (dOp2 opMod (dOp1 opInt (dOp2 opSub (dVar 9) (dVar 4))) (dVar 3)))) sPass) (sExpr (dAppend 7 (dOp2 opSub (dVar 9) (dC (.int 1)))))))
def l2__law_monogenic : DS := (sSeq (sOwn 7 (dLst dNil)) (sSeq (sFor (.nm 8) (dRng (dVar 2)) l1__law_monogenic) (sExpr (dAppend 5 (dOp1n opTuple 7)))))
def k5__law_monogenic : DS := (sRet (dVar 5))
def k4__law_monogenic : DS := (sSeq (sFor (.nm 6) (dRng (dVar 2)) l2__law_monogenic) k5__law_monogenic)
def k3__law_monogenic : DS := (sSeq (sOwn 5 (dLst dNil)) k4__law_monogenic)
def k2__law_monogenic : DS := (sSeq (sSet 4 (dOp2 opSub (dOp2 opAdd (dVar 2) (dC (.int 1))) (dVar 3))) k3__law_monogenic)
def k1__law_monogenic : DS := (sSeq (sSet 3 (dOp2 opAdd (dC (.int 1)) (dCallR d__law_take 0 (dCons (dVar 2) dNil)))) k2__law_monogenic)
def b__law_monogenic : DS := (sSeq (sSet 2 (dOp2 opAdd (dC (.int 1)) (dCallR d__law_take 0 (dCons (dVar 1) dNil)))) k1__law_monogenic)
def d__law_monogenic : List D → List D → M (D × List D) := runR 2 10 b__law_monogenic
def e1__law_after : Den D := (dOp2n opIx 1 (dVar 2))
def b__law_after : DS := (sRet (dOp1 opTuple (dFrz (dComp [2] (.nm 2) (dItems (dVar 0)) dYes e1__law_after))))
def d__law_after : List D → M D := runF 2 3 b__law_after
def l1__law_closed : DS := (sIf (dTst (dOp2m opNotIn (dVar 2) 1)) (sExpr (dAppend 1 (dVar 2))) sPass)
def l2__law_closed : DS := (sSeq (sSet 5 (dCall d__law_after (dCons (dVar 2) (dCons (dVar 4) dNil)))) (sIf (dAnd (dTst (dOp2m opNotIn (dVar 5) 1)) (dTst (dOp2 opLt (dOp1n opLen 1) (dC (.int 30))))) (sExpr (dAppend 1 (dVar 5))) sPass))
def l3__law_closed : DS := (sFor (.nm 4) (dItems (dVar 0)) l2__law_closed)
def l4__law_closed : DS := (sFor (.nm 2) (dItems (dFrz (dN1n nList 1))) l3__law_closed)
def k3__law_closed : DS := (sRet (dVar 1))
def k2__law_closed : DS := (sSeq (sFor (.nm 3) (dRng (dC (.int 30))) l4__law_closed) k3__law_closed)
def k1__law_closed : DS := (sSeq (sFor (.nm 2) (dItems (dVar 0)) l1__law_closed) k2__law_closed)
def b__law_closed : DS := (sSeq (sOwn 1 (dLst dNil)) k1__law_closed)
def d__law_closed : List D → M D := runF 1 6 b__law_closed
def e1__law_of_maps : Den D := (dCallR d__law_take 0 (dCons (dVar 2) dNil))
def l1__law_of_maps : DS := (sExpr (dAppend 3 (dOp1 opTuple (dFrz (dComp [6] (.nm 6) (dRng (dVar 2)) dYes e1__law_of_maps)))))
def e2__law_of_maps : Den D := (dOp2 opIx (dOp2n opIx 3 (dC (.int 0))) (dC (.int 0)))
def e3__law_of_maps : Den D := (dIndexAN 5 (dCall d__law_after (dCons (dVar 7) (dCons (dVar 8) dNil))))
def e4__law_of_maps : Den D := (dOp1 opTuple (dFrz (dComp [8] (.nm 8) (dItems (dVar 5)) dYes e3__law_of_maps)))
def k6__law_of_maps : DS := (sRet (dFrz (dPre 5 (dComp [7] (.nm 7) (dItems (dVar 5)) dYes e4__law_of_maps))))
def k5__law_of_maps : DS := (sSeq (sIf (dTst (dOp2 opGt (dOp1n opLen 5) (dVar 1))) (sOwn 5 (dLst (dCons (dOp1 opTuple (dFrz (dComp [6] (.nm 6) (dRng (dVar 2)) dYes e2__law_of_maps))) dNil))) sPass) k6__law_of_maps)
def k4__law_of_maps : DS := (sSeq (sIf (dTst (dOp2 opGt (dOp1n opLen 5) (dVar 1))) (sSet 5 (dCall d__law_closed (dCons (dSln 3 dNoP (dPart (dC (.int 1)))) dNil))) sPass) k5__law_of_maps)
def k3__law_of_maps : DS := (sSeq (sSet 5 (dCall d__law_closed (dCons (dVar 3) dNil))) k4__law_of_maps)
def k2__law_of_maps : DS := (sSeq (sFor (.nm 4) (dRng (dOp2 opAdd (dC (.int 1)) (dCallR d__law_take 0 (dCons (dC (.int 2)) dNil)))) l1__law_of_maps) k3__law_of_maps)
def k1__law_of_maps : DS := (sSeq (sOwn 3 (dLst dNil)) k2__law_of_maps)
def b__law_of_maps : DS := (sSeq (sSet 2 (dOp2 opAdd (dC (.int 2)) (dCallR d__law_take 0 (dCons (dC (.int 2)) dNil)))) k1__law_of_maps)
def d__law_of_maps : List D → List D → M (D × List D) := runR 2 9 b__law_of_maps
def e1__law_plain : Den D := (dVar 4)
def e2__law_plain : Den D := (dOp1 opTuple (dFrz (dComp [5] (.nm 5) (dRng (dVar 3)) dYes e1__law_plain)))
def e3__law_plain : Den D := (dC (.int 0))
def e4__law_plain : Den D := (dOp1 opTuple (dFrz (dComp [5] (.nm 5) (dRng (dVar 3)) dYes e3__law_plain)))
def e5__law_plain : Den D := (dOp2 opMin2 (dVar 4) (dVar 5))
def e6__law_plain : Den D := (dOp1 opTuple (dFrz (dComp [5] (.nm 5) (dRng (dVar 3)) dYes e5__law_plain)))
def k7__law_plain : DS := (sRet (dCallR d__law_blocks 0 (dCons (dVar 1) dNil)))
def k6__law_plain : DS := (sSeq (sIf (dTst (dOp2 opLt (dVar 2) (dC (.int 6)))) (sRet (dCallR d__law_of_maps 0 (dCons (dVar 1) dNil))) sPass) k7__law_plain)
def k5__law_plain : DS := (sSeq (sIf (dTst (dOp2 opEq (dVar 2) (dC (.int 3)))) (sRet (dFrz (dComp [4] (.nm 4) (dRng (dVar 3)) dYes e6__law_plain))) sPass) k6__law_plain)
def k4__law_plain : DS := (sSeq (sIf (dTst (dOp2 opEq (dVar 2) (dC (.int 2)))) (sRet (dCallR d__law_monogenic 0 (dCons (dVar 1) dNil))) sPass) k5__law_plain)
def k3__law_plain : DS := (sSeq (sIf (dTst (dOp2 opEq (dVar 2) (dC (.int 1)))) (sRet (dFrz (dComp [4] (.nm 4) (dRng (dVar 3)) dYes e4__law_plain))) sPass) k4__law_plain)
def k2__law_plain : DS := (sSeq (sIf (dTst (dOp2 opEq (dVar 2) (dC (.int 0)))) (sRet (dFrz (dComp [4] (.nm 4) (dRng (dVar 3)) dYes e2__law_plain))) sPass) k3__law_plain)
def k1__law_plain : DS := (sSeq (sSet 3 (dOp2 opAdd (dC (.int 1)) (dCallR d__law_take 0 (dCons (dVar 1) dNil)))) k2__law_plain)
def b__law_plain : DS := (sSeq (sSet 2 (dCallR d__law_take 0 (dCons (dC (.int 8)) dNil))) k1__law_plain)
def d__law_plain : List D → List D → M (D × List D) := runR 2 6 b__law_plain
def l1__law_order_of : DS := (sExpr (dAppend 3 (dPopAt 2 (dCallR d__law_take 0 (dCons (dOp1n opLen 2) dNil)))))
def k3__law_order_of : DS := (sRet (dVar 3))
def k2__law_order_of : DS := (sSeq (sFor (.nm 4) (dRng (dVar 1)) l1__law_order_of) k3__law_order_of)
def k1__law_order_of : DS := (sSeq (sOwn 3 (dLst dNil)) k2__law_order_of)
def b__law_order_of : DS := (sSeq (sOwn 2 (dLstRg (dRg1 (dVar 1)))) k1__law_order_of)
def d__law_order_of : List D → List D → M (D × List D) := runR 2 5 b__law_order_of
def b__law_semigroup : DS := (sSeq (sSet 2 (dCallR d__law_extended 0 (dCons (dCallR d__law_plain 0 (dCons (dVar 1) dNil)) (dCons (dVar 1) dNil)))) (sRet (dCall d__law_renamed (dCons (dVar 2) (dCons (dCallR d__law_order_of 0 (dCons (dOp1n opLen 2) dNil)) dNil)))))
def d__law_semigroup : List D → List D → M (D × List D) := runR 2 3 b__law_semigroup
def b_is_integer : DS := (sRet (dIf (dTst (dOp1 (opIsi "int") (dVar 0))) (dVal (dNot (dTst (dOp1 (opIsi "bool") (dVar 0))))) (dC (.bl false))))
def d_is_integer : List D → M D := runF 1 1 b_is_integer
def b_is_item : DS := (sRet (dIf (dTst (dCall d_is_integer (dCons (dVar 0) dNil))) (dChain opLe opLt (dC (.int 0)) (dVar 0) (dVar 1)) (dC (.bl false))))
def d_is_item : List D → M D := runF 2 2 b_is_item
def l1_taken_table : DS := (sIf (dNot (dTst (dCall d_is_item (dCons (dVar 3) (dCons (dOp1n opLen 0) dNil))))) (sRaise0 "Malformed") sPass)
def l2_taken_table : DS := (sSeq (sIf (dOr (dNot (dTst (dOp1 (opIsi2 "list" "tuple") (dVar 2)))) (dTst (dOp2 opNe (dOp1n opLen 2) (dOp1n opLen 0)))) (sRaise0 "Malformed") sPass) (sSeq (sFor (.nm 3) (dItems (dVar 2)) l1_taken_table) (sExpr (dAppend 1 (dOp1n opTuple 2)))))
def k3_taken_table : DS := (sRet (dOp1n opTuple 1))
def k2_taken_table : DS := (sSeq (sFor (.nm 2) (dItems (dVar 0)) l2_taken_table) k3_taken_table)
def k1_taken_table : DS := (sSeq (sOwn 1 (dLst dNil)) k2_taken_table)
def b_taken_table : DS := (sSeq (sIf (dOr (dNot (dTst (dOp1 (opIsi2 "list" "tuple") (dVar 0)))) (dTst (dOp2 opEq (dOp1n opLen 0) (dC (.int 0))))) (sRaise0 "Malformed") sPass) k1_taken_table)
def d_taken_table : List D → M D := runF 1 4 b_taken_table
def e1_is_associative : Den D := (dOp2 opIx (dOp2n opIx 0 (dOp2n opIx 1 (dVar 2))) (dVar 3))
def e2_is_associative : Den D := (dOp2n opIx 1 (dVar 4))
def l1_is_associative : DS := (sIf (dTst (dOp2 opNe (dFrz (dComp [3] (.nm 3) (dRng (dOp1n opLen 0)) dYes e1_is_associative)) (dFrz (dComp [4] (.nm 4) (dItems (dOp2n opIx 0 (dVar 2))) dYes e2_is_associative)))) (sRet (dC (.bl false))) sPass)
def l2_is_associative : DS := (sFor (.nm 2) (dRng (dOp1n opLen 0)) l1_is_associative)
def b_is_associative : DS := (sSeq (sFor (.nm 1) (dItems (dVar 0)) l2_is_associative) (sRet (dC (.bl true))))
def d_is_associative : List D → M D := runF 1 5 b_is_associative
def k4_Semigroup___init__ : DS := (sSelf 0 "Semigroup" "table" (dVar 2))
def k3_Semigroup___init__ : DS := (sSeq (sSelf 0 "Semigroup" "n" (dOp1n opLen 2)) k4_Semigroup___init__)
def k2_Semigroup___init__ : DS := (sSeq (sIf (dNot (dTst (dCall d_is_associative (dCons (dVar 2) dNil)))) (sRaise1 "Refused" "reason" (dC (.str "associative"))) sPass) k3_Semigroup___init__)
def k1_Semigroup___init__ : DS := (sSeq (sIf (dTst (dOp2 opGt (dOp1n opLen 2) (dC (.int 24)))) (sRaise1 "Refused" "reason" (dC (.str "large"))) sPass) k2_Semigroup___init__)
def b_Semigroup___init__ : DS := (sSeq (sSet 2 (dCall d_taken_table (dCons (dVar 1) dNil))) k1_Semigroup___init__)
def d_Semigroup___init__ : List D → M (List Str × List D) := runI "Semigroup" 2 3 b_Semigroup___init__
def e1__law_grown : Den D := (dVar 6)
def t1__law_grown : Den Bool := (dTst (dOp2m opIn (dVar 6) 1))
def e2__law_grown : Den D := (dOp2 opIx (dOp2n opIx 0 (dVar 5)) (dVar 7))
def l1__law_grown : DS := (sOwn 4 (dN2 nAdd (dVar 4) (dFrz (dComp [7] (.nm 7) (dItems (dVar 1)) dYes e2__law_grown))))
def e3__law_grown : Den D := (dVar 6)
def t2__law_grown : Den Bool := (dOr (dTst (dOp2m opIn (dVar 6) 2)) (dTst (dOp2m opIn (dVar 6) 4)))
def l2__law_grown : DS := (sSeq (sOwn 4 (dLst dNil)) (sSeq (sFor (.nm 5) (dItems (dVar 2)) l1__law_grown) (sOwn 2 (dComp [6] (.nm 6) (dRng (dOp1n opLen 0)) t2__law_grown e3__law_grown))))
def k2__law_grown : DS := (sRet (dOp1n opTuple 2))
def k1__law_grown : DS := (sSeq (sFor (.nm 3) (dRng (dOp1n opLen 0)) l2__law_grown) k2__law_grown)
def b__law_grown : DS := (sSeq (sOwn 2 (dN1 nSortedA (dFrz (dComp [6] (.nm 6) (dRng (dOp1n opLen 0)) t1__law_grown e1__law_grown)))) k1__law_grown)
def d__law_grown : List D → M D := runF 2 8 b__law_grown
def b_Semigroup_is_element : DS := (sRet (dCall d_is_item (dCons (dVar 1) (dCons (dOp1 (opFld "Semigroup" "n") (dVar 0)) dNil))))
def d_Semigroup_is_element : List D → M D := runF 2 2 b_Semigroup_is_element
def l1_is_subset : DS := (sIf (dOr (dNot (dTst (dMeth "Semigroup" "is_element" d_Semigroup_is_element (dVar 0) (dCons (dOp2n opIx 1 (dVar 2)) dNil)))) (dAnd (dTst (dOp2 opGt (dVar 2) (dC (.int 0)))) (dTst (dOp2 opLe (dOp2n opIx 1 (dVar 2)) (dOp2n opIx 1 (dOp2 opSub (dVar 2) (dC (.int 1)))))))) (sRet (dC (.bl false))) sPass)
def k2_is_subset : DS := (sRet (dC (.bl true)))
def k1_is_subset : DS := (sSeq (sFor (.nm 2) (dRng (dOp1n opLen 1)) l1_is_subset) k2_is_subset)
def b_is_subset : DS := (sSeq (sIf (dOr (dNot (dTst (dOp1 (opIsi "tuple") (dVar 1)))) (dTst (dOp2 opEq (dOp1n opLen 1) (dC (.int 0))))) (sRet (dC (.bl false))) sPass) k1_is_subset)
def d_is_subset : List D → M D := runF 2 3 b_is_subset
def i1_is_subsemigroup : Den (List D) := (dItems (dVar 1))
def e1_is_subsemigroup : Den D := (dOp2m opIn (dOp2 opIx (dOp2 opIx (dOp1 (opFld "Semigroup" "table") (dVar 0)) (dVar 2)) (dVar 3)) 1)
def b_is_subsemigroup : DS := (sSeq (sIf (dNot (dTst (dCall d_is_subset (dCons (dVar 0) (dCons (dVar 1) dNil))))) (sRet (dC (.bl false))) sPass) (sRet (dOp1 opAll (dFrz (dCompB [2, 3] [3] (.nm 2) (dItems (dVar 1)) dYes (.nm 3) i1_is_subsemigroup dYes e1_is_subsemigroup)))))
def d_is_subsemigroup : List D → M D := runF 2 4 b_is_subsemigroup
def e1_restricted : Den D := (dIndexAN 1 (dOp2 opIx (dOp2 opIx (dOp1 (opFld "Semigroup" "table") (dVar 0)) (dVar 2)) (dVar 3)))
def e2_restricted : Den D := (dFrz (dComp [3] (.nm 3) (dItems (dVar 1)) dYes e1_restricted))
def b_restricted : DS := (sSeq (sIf (dNot (dTst (dCall d_is_subsemigroup (dCons (dVar 0) (dCons (dVar 1) dNil))))) (sRaise0 "Malformed") sPass) (sRet (dCall (makeM "Semigroup" d_Semigroup___init__) (dCons (dFrz (dComp [2] (.nm 2) (dItems (dVar 1)) dYes e2_restricted)) dNil))))
def d_restricted : List D → M D := runF 2 4 b_restricted
def y1__law_told : DS := (sRet (dCall d_restricted (dCons (dVar 0) (dCons (dVar 1) dNil))))
def b__law_told : DS := (sTry mt y1__law_told (⟨"Malformed", none, (sRet (dC .non))⟩ :: []))
def d__law_told : List D → M D := runF 2 2 b__law_told
def e1_law : Den D := (dCallR d__law_take 1 (dCons (dVar 3) dNil))
def e2_law : Den D := (dVar 9)
def t1_law : Den Bool := (dTst (dOp2 opEq (dCallR d__law_take 1 (dCons (dC (.int 2)) dNil)) (dC (.int 0))))
def e3_law : Den D := (dVar 13)
def t2_law : Den Bool := (dTst (dOp2m opNotIn (dOp2 opIx (dOp2n opIx 2 (dVar 9)) (dVar 13)) 7))
def l1_law : DS := (sSet 8 (dIf (dTst (dVar 8)) (dOp2 opEq (dOp1 opLen (dFrz (dComp [13] (.nm 13) (dItems (dVar 7)) t2_law e3_law))) (dC (.int 0))) (dC (.bl false))))
def e4_law : Den D := (dIndexAN 7 (dOp2 opIx (dOp2n opIx 2 (dVar 9)) (dVar 13)))
def e5_law : Den D := (dOp1 opTuple (dFrz (dComp [13] (.nm 13) (dItems (dVar 7)) dYes e4_law)))
def l2_law : DS := (sSeq (sSet 8 (dOp2 opGt (dOp1n opLen 7) (dC (.int 0)))) (sSeq (sFor (.nm 9) (dItems (dVar 7)) l1_law) (sSeq (sSet 10 (dCall d__law_told (dCons (dVar 4) (dCons (dVar 7) dNil)))) (sIf (dNot (dTst (dVar 8))) (sIf (dTst (dOp2 opIsNot (dVar 10) (dC .non))) (sRet (dC (.bl false))) sPass) (sIf (dOr (dNot (dTst (dOp1 (opIsC "Semigroup") (dVar 10)))) (dTst (dOp2 opNe (dOp1 (opFld "Semigroup" "table") (dVar 10)) (dOp1 opTuple (dFrz (dComp [9] (.nm 9) (dItems (dVar 7)) dYes e5_law)))))) (sRet (dC (.bl false))) sPass)))))
def l3_law : DS := (sIf (dTst (dOp2 opIsNot (dCall d__law_told (dCons (dVar 4) (dCons (dVar 11) dNil))) (dC .non))) (sRet (dC (.bl false))) sPass)
def k8_law : DS := (sRet (dC (.bl true)))
def k7_law : DS := (sSeq (sFor (.nm 11) (dItems (dFrz (dLst (dCons (dTup dNil) (dCons (dC .non) (dCons (dC (.int 0)) (dCons (dFrz (dLstRg (dRg1 (dVar 3)))) (dCons (dTup (dCons (dC (.int 0)) (dCons (dC (.int 0)) dNil))) (dCons (dTup (dCons (dVar 3) dNil)) (dCons (dTup (dCons (dOp1 opNeg (dC (.int 1))) dNil)) (dCons (dTup (dCons (dC (.bl true)) dNil)) (dCons (dTup (dCons (dC .non) dNil)) (dCons (dC (.str "0")) dNil))))))))))))) l3_law) k8_law)
def k6_law : DS := (sSeq (sFor (.nm 7) (dItems (dFrz (dLst (dCons (dCall d__law_grown (dCons (dVar 2) (dCons (dVar 5) dNil))) (dCons (dVar 6) (dCons (dTupRg (dRg1 (dVar 3))) dNil)))))) l2_law) k7_law)
def k5_law : DS := (sSeq (sSet 6 (dOp1 opTuple (dFrz (dComp [9] (.nm 9) (dRng (dVar 3)) t1_law e2_law)))) k6_law)
def k4_law : DS := (sSeq (sOwn 5 (dComp [12] (.nm 12) (dRng (dOp2 opAdd (dC (.int 1)) (dCallR d__law_take 1 (dCons (dC (.int 2)) dNil)))) dYes e1_law)) k5_law)
def k3_law : DS := (sSeq (sSet 4 (dCall (makeM "Semigroup" d_Semigroup___init__) (dCons (dVar 2) dNil))) k4_law)
def k2_law : DS := (sSeq (sSet 3 (dOp1n opLen 2)) k3_law)
def k1_law : DS := (sSeq (sSet 2 (dCallR d__law_semigroup 1 (dCons (dC (.int 6)) dNil))) k2_law)
def b_law : DS := (sSeq (sOwn 1 (dCallO d__law_state (dCons (dVar 0) dNil))) k1_law)
def d_law : List D → M D := runF 1 14 b_law
/-! ### the head -/
def dd__law_state : He.DefD := ⟨("_law_state", none), "_law_state", "_law_state", defArgs (topS 18), defBody (topS 18), defScope (topS 18), [], []⟩
def dd__law_take : He.DefD := ⟨("_law_take", none), "_law_take", "_law_take", defArgs (topS 19), defBody (topS 19), defScope (topS 19), [], []⟩
def dd__law_extended : He.DefD := ⟨("_law_extended", none), "_law_extended", "_law_extended", defArgs (topS 29), defBody (topS 29), defScope (topS 29), [], []⟩
def dd__law_renamed : He.DefD := ⟨("_law_renamed", none), "_law_renamed", "_law_renamed", defArgs (topS 21), defBody (topS 21), defScope (topS 21), [], []⟩
def dd__law_triples : He.DefD := ⟨("_law_triples", none), "_law_triples", "_law_triples", defArgs (topS 26), defBody (topS 26), defScope (topS 26), [], []⟩
def dd__law_blocks : He.DefD := ⟨("_law_blocks", none), "_law_blocks", "_law_blocks", defArgs (topS 27), defBody (topS 27), defScope (topS 27), [], []⟩
def dd__law_monogenic : He.DefD := ⟨("_law_monogenic", none), "_law_monogenic", "_law_monogenic", defArgs (topS 25), defBody (topS 25), defScope (topS 25), [], []⟩
def dd__law_after : He.DefD := ⟨("_law_after", none), "_law_after", "_law_after", defArgs (topS 22), defBody (topS 22), defScope (topS 22), [], []⟩
def dd__law_closed : He.DefD := ⟨("_law_closed", none), "_law_closed", "_law_closed", defArgs (topS 23), defBody (topS 23), defScope (topS 23), [], []⟩
def dd__law_of_maps : He.DefD := ⟨("_law_of_maps", none), "_law_of_maps", "_law_of_maps", defArgs (topS 24), defBody (topS 24), defScope (topS 24), [], []⟩
def dd__law_plain : He.DefD := ⟨("_law_plain", none), "_law_plain", "_law_plain", defArgs (topS 28), defBody (topS 28), defScope (topS 28), [], []⟩
def dd__law_order_of : He.DefD := ⟨("_law_order_of", none), "_law_order_of", "_law_order_of", defArgs (topS 20), defBody (topS 20), defScope (topS 20), [], []⟩
def dd__law_semigroup : He.DefD := ⟨("_law_semigroup", none), "_law_semigroup", "_law_semigroup", defArgs (topS 30), defBody (topS 30), defScope (topS 30), [], []⟩
def dd_is_integer : He.DefD := ⟨("is_integer", none), "is_integer", "is_integer", defArgs (topS 6), defBody (topS 6), defScope (topS 6), [], []⟩
def dd_is_item : He.DefD := ⟨("is_item", none), "is_item", "is_item", defArgs (topS 9), defBody (topS 9), defScope (topS 9), [], []⟩
def dd_taken_table : He.DefD := ⟨("taken_table", none), "taken_table", "taken_table", defArgs (topS 10), defBody (topS 10), defScope (topS 10), [], []⟩
def dd_is_associative : He.DefD := ⟨("is_associative", none), "is_associative", "is_associative", defArgs (topS 11), defBody (topS 11), defScope (topS 11), [], []⟩
def dd_Semigroup___init__ : He.DefD := ⟨("Semigroup", some "__init__"), "__init__", "Semigroup.__init__", defArgs (inClass (topS 12) 0), defBody (inClass (topS 12) 0), defScope (inClass (topS 12) 0), [], []⟩
def dd__law_grown : He.DefD := ⟨("_law_grown", none), "_law_grown", "_law_grown", defArgs (topS 32), defBody (topS 32), defScope (topS 32), [], []⟩
def dd_Semigroup_is_element : He.DefD := ⟨("Semigroup", some "is_element"), "is_element", "Semigroup.is_element", defArgs (inClass (topS 12) 3), defBody (inClass (topS 12) 3), defScope (inClass (topS 12) 3), [], []⟩
def dd_is_subset : He.DefD := ⟨("is_subset", none), "is_subset", "is_subset", defArgs (topS 14), defBody (topS 14), defScope (topS 14), [], []⟩
def dd_is_subsemigroup : He.DefD := ⟨("is_subsemigroup", none), "is_subsemigroup", "is_subsemigroup", defArgs (topS 15), defBody (topS 15), defScope (topS 15), [], []⟩
def dd_restricted : He.DefD := ⟨("restricted", none), "restricted", "restricted", defArgs (topS 16), defBody (topS 16), defScope (topS 16), [], []⟩
def dd__law_told : He.DefD := ⟨("_law_told", none), "_law_told", "_law_told", defArgs (topS 31), defBody (topS 31), defScope (topS 31), [], []⟩
def dd_law : He.DefD := ⟨("law", none), "law", "law", defArgs (topS 33), defBody (topS 33), defScope (topS 33), [], []⟩
def fn : List He.DefD := [dd__law_state, dd__law_take, dd__law_extended, dd__law_renamed, dd__law_triples, dd__law_blocks, dd__law_monogenic, dd__law_after, dd__law_closed, dd__law_of_maps, dd__law_plain, dd__law_order_of, dd__law_semigroup, dd_is_integer, dd_is_item, dd_taken_table, dd_is_associative, dd_Semigroup___init__, dd__law_grown, dd_Semigroup_is_element, dd_is_subset, dd_is_subsemigroup, dd_restricted, dd__law_told, dd_law]
def ed_Refused : He.DefD := ⟨("Refused", some "__init__"), "__init__", "Refused.__init__", defArgs (inClass (topS 4) 0), defBody (inClass (topS 4) 0), defScope (inClass (topS 4) 0), [], []⟩
def xn : List He.DefD := [ed_Refused]
def fa : List He.Fa := [.free "abs", .free "all", .free "bool", .free "int", .free "isinstance", .free "len", .free "list", .free "min", .free "range", .free "sorted", .free "super", .free "tuple", .int "MOST" 24, .glo "Semigroup", .cls "Semigroup", .noat "Semigroup" "n", .noat "Semigroup" "table", .glo "Fault", .exc "Fault", .glo "Malformed", .exc "Malformed", .glo "Refused", .exm "Refused" "Refused" true, .exm "Refused" "Malformed" false, .exm "Refused" "Fault" true, .exm "Malformed" "Refused" false, .exm "Malformed" "Malformed" true, .exm "Malformed" "Fault" true, .exm "Fault" "Refused" false, .exm "Fault" "Malformed" false, .exm "Fault" "Fault" true, .glo "_law_state", .glo "_law_take", .glo "_law_extended", .glo "_law_renamed", .glo "_law_triples", .glo "_law_blocks", .glo "_law_monogenic", .glo "_law_after", .glo "_law_closed", .glo "_law_of_maps", .glo "_law_plain", .glo "_law_order_of", .glo "_law_semigroup", .glo "is_integer", .glo "is_item", .glo "taken_table", .glo "is_associative", .mkr "Semigroup", .glo "_law_grown", .meth "Semigroup" "is_element", .glo "is_subset", .glo "is_subsemigroup", .glo "restricted", .glo "_law_told", .glo "law"]
def ex (K : PySem.W.Frag) : Bool := (true && (isfB K "Semigroup" && errB K PP.main.file "Refused" "reason"))

section
variable {w : World} {K : PySem.W.Frag} {mg : Str → Option Value} {base h : Heap}
theorem T_free_abs (KX : K.In h) (G : h.Ns mainGlobals mg) (c : Says fa fn xn ex K) : mg "abs" = none := He.free_ok KX G (c.fact 0 (f := .free "abs") rfl)
theorem T_free_all (KX : K.In h) (G : h.Ns mainGlobals mg) (c : Says fa fn xn ex K) : mg "all" = none := He.free_ok KX G (c.fact 1 (f := .free "all") rfl)
theorem T_free_bool (KX : K.In h) (G : h.Ns mainGlobals mg) (c : Says fa fn xn ex K) : mg "bool" = none := He.free_ok KX G (c.fact 2 (f := .free "bool") rfl)
theorem T_free_int (KX : K.In h) (G : h.Ns mainGlobals mg) (c : Says fa fn xn ex K) : mg "int" = none := He.free_ok KX G (c.fact 3 (f := .free "int") rfl)
theorem T_free_isinstance (KX : K.In h) (G : h.Ns mainGlobals mg) (c : Says fa fn xn ex K) : mg "isinstance" = none := He.free_ok KX G (c.fact 4 (f := .free "isinstance") rfl)
theorem T_free_len (KX : K.In h) (G : h.Ns mainGlobals mg) (c : Says fa fn xn ex K) : mg "len" = none := He.free_ok KX G (c.fact 5 (f := .free "len") rfl)
theorem T_free_list (KX : K.In h) (G : h.Ns mainGlobals mg) (c : Says fa fn xn ex K) : mg "list" = none := He.free_ok KX G (c.fact 6 (f := .free "list") rfl)
theorem T_free_min (KX : K.In h) (G : h.Ns mainGlobals mg) (c : Says fa fn xn ex K) : mg "min" = none := He.free_ok KX G (c.fact 7 (f := .free "min") rfl)
theorem T_free_range (KX : K.In h) (G : h.Ns mainGlobals mg) (c : Says fa fn xn ex K) : mg "range" = none := He.free_ok KX G (c.fact 8 (f := .free "range") rfl)
theorem T_free_sorted (KX : K.In h) (G : h.Ns mainGlobals mg) (c : Says fa fn xn ex K) : mg "sorted" = none := He.free_ok KX G (c.fact 9 (f := .free "sorted") rfl)
theorem T_free_super (KX : K.In h) (G : h.Ns mainGlobals mg) (c : Says fa fn xn ex K) : mg "super" = none := He.free_ok KX G (c.fact 10 (f := .free "super") rfl)
theorem T_free_tuple (KX : K.In h) (G : h.Ns mainGlobals mg) (c : Says fa fn xn ex K) : mg "tuple" = none := He.free_ok KX G (c.fact 11 (f := .free "tuple") rfl)
theorem T_int_MOST (KX : K.In h) (G : h.Ns mainGlobals mg) (c : Says fa fn xn ex K) : ∃ t, mg "MOST" = some (.int 24 t) := He.int_ok KX G (c.fact 12 (f := .int "MOST" 24) rfl)
theorem T_cls_Semigroup (KX : K.In h) (G : h.Ns mainGlobals mg) (c : Says fa fn xn ex K) : ClsF ⟨K, mg, none, TK⟩ "Semigroup" (He.ga K "Semigroup") := ⟨He.glo_ok KX G (c.fact 13 (f := .glo "Semigroup") rfl), He.cls_ok (c.fact 14 (f := .cls "Semigroup") rfl)⟩
theorem T_noat_Semigroup_n (KX : K.In h) (G : h.Ns mainGlobals mg) (c : Says fa fn xn ex K) : NoAttr K (He.ga K "Semigroup") "n" := He.noat_ok (c.fact 15 (f := .noat "Semigroup" "n") rfl)
theorem T_noat_Semigroup_table (KX : K.In h) (G : h.Ns mainGlobals mg) (c : Says fa fn xn ex K) : NoAttr K (He.ga K "Semigroup") "table" := He.noat_ok (c.fact 16 (f := .noat "Semigroup" "table") rfl)
theorem T_isf_Semigroup (KX : K.In h) (G : h.Ns mainGlobals mg) (c : Says fa fn xn ex K) : IsF ⟨K, mg, none, TK⟩ "Semigroup" (He.ga K "Semigroup") := isfB_ok (T_cls_Semigroup KX G c) (He.ba (He.ba c.xtra).2).1
theorem T_glo_Fault (KX : K.In h) (G : h.Ns mainGlobals mg) (c : Says fa fn xn ex K) : mg "Fault" = some (.ref (He.ga K "Fault")) := He.glo_ok KX G (c.fact 17 (f := .glo "Fault") rfl)
theorem T_exc_Fault (KX : K.In h) (G : h.Ns mainGlobals mg) (c : Says fa fn xn ex K) : PySem.W.excIn K (He.ga K "Fault") He.veBase "ValueError.__new__" = true ∧ PySem.W.keepIn K (.ref (He.ga K "Fault")) = true ∧ PySem.W.subIn K (.ref (He.ga K "Fault")) (.type "BaseException") = some true ∧ PySem.W.typeIn K (.ref (He.ga K "Fault")) = some (.type "type") := He.exc_ok (c.fact 18 (f := .exc "Fault") rfl)
theorem T_glo_Malformed (KX : K.In h) (G : h.Ns mainGlobals mg) (c : Says fa fn xn ex K) : mg "Malformed" = some (.ref (He.ga K "Malformed")) := He.glo_ok KX G (c.fact 19 (f := .glo "Malformed") rfl)
theorem T_exc_Malformed (KX : K.In h) (G : h.Ns mainGlobals mg) (c : Says fa fn xn ex K) : PySem.W.excIn K (He.ga K "Malformed") He.veBase "ValueError.__new__" = true ∧ PySem.W.keepIn K (.ref (He.ga K "Malformed")) = true ∧ PySem.W.subIn K (.ref (He.ga K "Malformed")) (.type "BaseException") = some true ∧ PySem.W.typeIn K (.ref (He.ga K "Malformed")) = some (.type "type") := He.exc_ok (c.fact 20 (f := .exc "Malformed") rfl)
theorem T_glo_Refused (KX : K.In h) (G : h.Ns mainGlobals mg) (c : Says fa fn xn ex K) : mg "Refused" = some (.ref (He.ga K "Refused")) := He.glo_ok KX G (c.fact 21 (f := .glo "Refused") rfl)
theorem T_err_Refused (KX : K.In h) (G : h.Ns mainGlobals mg) (c : Says fa fn xn ex K) : PySem.ErrX.ErrTxt PP K "Refused" "Refused.__init__" (He.ga K "Refused") (He.fAd K ("Refused", some "__init__")) "reason" "reason" (argOf (defBody (inClass (topS 4) 0))) ∧ XfC K (He.ga K "Refused") :=
  err_txt (d := ed_Refused) (file := PP.main.file) (c.clo 0) (He.ba (He.ba c.xtra).2).2 (He.eqO_ok (c.fact 10 (f := .free "super") rfl)) rfl rfl rfl rfl rfl rfl (.inl ⟨_, rfl⟩) ⟨by decide, by decide, by decide, by decide⟩ (fun _ _ _ _ _ _ _ _ _ _ _ _ _ => BindsTo.of_eq rfl) rfl psup (fun _ => rfl)
theorem T_mt (KX : K.In h) (G : h.Ns mainGlobals mg) (c : Says fa fn xn ex K) : MtOk ⟨K, mg, none, TK⟩ mt := (mt_cons (T_glo_Fault KX G c) (T_glo_Fault KX G c) (He.exm_ok (c.fact 30 (f := .exm "Fault" "Fault" true) rfl)) (mt_cons (T_glo_Fault KX G c) (T_glo_Malformed KX G c) (He.exm_ok (c.fact 29 (f := .exm "Fault" "Malformed" false) rfl)) (mt_cons (T_glo_Fault KX G c) (T_glo_Refused KX G c) (He.exm_ok (c.fact 28 (f := .exm "Fault" "Refused" false) rfl)) (mt_cons (T_glo_Malformed KX G c) (T_glo_Fault KX G c) (He.exm_ok (c.fact 27 (f := .exm "Malformed" "Fault" true) rfl)) (mt_cons (T_glo_Malformed KX G c) (T_glo_Malformed KX G c) (He.exm_ok (c.fact 26 (f := .exm "Malformed" "Malformed" true) rfl)) (mt_cons (T_glo_Malformed KX G c) (T_glo_Refused KX G c) (He.exm_ok (c.fact 25 (f := .exm "Malformed" "Refused" false) rfl)) (mt_cons (T_glo_Refused KX G c) (T_glo_Fault KX G c) (He.exm_ok (c.fact 24 (f := .exm "Refused" "Fault" true) rfl)) (mt_cons (T_glo_Refused KX G c) (T_glo_Malformed KX G c) (He.exm_ok (c.fact 23 (f := .exm "Refused" "Malformed" false) rfl)) (mt_cons (T_glo_Refused KX G c) (T_glo_Refused KX G c) (He.exm_ok (c.fact 22 (f := .exm "Refused" "Refused" true) rfl)) mt_nil)))))))))
theorem sc__law_state : FnScope ["_law_script", "_law_seed", "_law_total", "_law_cell"] ["_law_script"] (defScope (topS 18)) := ⟨rfl, rfl, rfl, by decide +kernel, rfl, by decide +kernel, by decide +kernel⟩
theorem ok__law_state (KX : K.In h) (G : h.Ns mainGlobals mg) (c : Says fa fn xn ex K) : Fk PP w K mg base "_law_state" 1 (He.fAd K ("_law_state", none)) ["_law_script"] (spO ⟨K, mg, none, TK⟩ d__law_state) := by
  obtain ⟨fd, F⟩ := c.def_ 0 (d := dd__law_state) rfl
  have sc := sc__law_state
  refine ⟨⟨fd, fn_own F sc (by decide) fun cdv A outer s H E hr tk po => ?_, F.bindsN (ps := ["_law_script"]) fun _ _ _ _ _ _ us hl => match us, hl with | [_], _ => rfl⟩, He.glo_ok KX G (c.fact 31 (f := .glo "_law_state") rfl), F.kp⟩
  exact (essO_cons (es_set (ps_set (i := 1) sc.nd rfl (by first | exact Or.inl rfl | exact Or.inr rfl) (ev_int pe_int)))
    (essO_cons (es_set (ps_set (i := 2) sc.nd rfl (by first | exact Or.inl rfl | exact Or.inr rfl) (ev_int pe_int)))
    (essO_cons (es_for (ps_for po rfl (ei_any (pi_any (ev_sln (pe_slice sl_D (pv 0) eo_none (eo_some (ev_int pe_int)))))) (eg_nm (pg_name (i := 3) sc.nd rfl (by first | exact .inl rfl | exact .inr rfl))) (ess_cons (es_set (ps_set (i := 1) sc.nd rfl (by first | exact Or.inl rfl | exact Or.inr rfl) (ev2 vo_add (pe_op op_addD (ev2 vo_mul (pe_op op_mulD (ev_var (pv 1)) (ev_int pe_int))) (evc1n vo_abs (pe_callB call_abs (by rfl) (T_free_abs KX G c) (by decide +kernel) (pa_cons (pv 3) pa_nil)))))))
    (ess_one (es_set (ps_set (i := 2) sc.nd rfl (by first | exact Or.inl rfl | exact Or.inr rfl) (ev2 vo_mod (pe_op op_modN (evc1 vo_int (pe_callTy call_int1 (by rfl) (T_free_int KX G c) (by decide +kernel) (pa_cons (ev2 vo_add (pe_op op_addD (ev2 vo_mul (pe_op op_mulD (ev_var (pv 2)) (ev_int pe_int))) (ev_var (pv 3)))) pa_nil))) (ev_int pe_int)))))))))
    (essO_one (ps_ret (evN_lst (pe_lst (ea_cons (ev_var (pv 1)) (ea_cons (ev_var (pv 2)) ea_nil')))))))))
theorem sc__law_take : FnScope ["_law_state_here", "_law_m", "_law_value"] ["_law_state_here", "_law_m"] (defScope (topS 19)) := ⟨rfl, rfl, rfl, by decide +kernel, rfl, by decide +kernel, by decide +kernel⟩
theorem ok__law_take (KX : K.In h) (G : h.Ns mainGlobals mg) (c : Says fa fn xn ex K) : Fk PP w K mg base "_law_take" 1 (He.fAd K ("_law_take", none)) ["_law_state_here", "_law_m"] (spR ⟨K, mg, none, TK⟩ d__law_take) := by
  obtain ⟨fd, F⟩ := c.def_ 1 (d := dd__law_take) rfl
  have sc := sc__law_take
  refine ⟨⟨fd, fn_dataR F sc (by decide) fun cdv A outer s H E hr tk po => ?_, F.bindsN (ps := ["_law_state_here", "_law_m"]) fun _ _ _ _ _ _ us hl => match us, hl with | [_, _], _ => rfl⟩, He.glo_ok KX G (c.fact 32 (f := .glo "_law_take") rfl), F.kp⟩
  exact (ess_cons (es_if (ps_if (et2 (vo_cmpI _) (pt_cmpR op_gt (ev2n vo_ix (pe_ix ix_seq (pv 0) (ev_int pe_int) (fun _ _ => rfl))) (ev_int pe_int) (nomark _))) (ess_cons (es_set (ps_set (i := 2) sc.nd rfl (by first | exact Or.inl rfl | exact Or.inr rfl) (ev2 vo_mod (pe_op op_modN (evc1 vo_int (pe_callTy call_int1 (by rfl) (T_free_int KX G c) (by decide +kernel) (pa_cons (ev2n vo_ix (pe_ix ix_seq (pv 0) (ev_int pe_int) (fun _ _ => rfl))) pa_nil))) (ev_var (pv 1))))))
    (ess_cons (es_store (ps_asg (ev2 vo_div (pe_op op_fdivN (ev2n vo_ix (pe_ix ix_seq (pv 0) (ev_int pe_int) (fun _ _ => rfl))) (ev_var (pv 1)))) (pg_sub (pv 0) (ev_int pe_int) set_list)))
    (ess_one (es_ret (ps_ret (ev_var (pv 2))))))) ess_nil))
    (ess_cons (es_store (ps_asg (ev2 vo_mod (pe_op op_modN (evc1 vo_int (pe_callTy call_int1 (by rfl) (T_free_int KX G c) (by decide +kernel) (pa_cons (ev2 vo_add (pe_op op_addD (ev2 vo_mul (pe_op op_mulD (ev2n vo_ix (pe_ix ix_seq (pv 0) (ev_int pe_int) (fun _ _ => rfl))) (ev_int pe_int))) (ev_int pe_int))) pa_nil))) (ev_int pe_int))) (pg_sub (pv 0) (ev_int pe_int) set_list)))
    (ess_one (es_ret (ps_ret (ev2 vo_mod (pe_op op_modN (evc1 vo_int (pe_callTy call_int1 (by rfl) (T_free_int KX G c) (by decide +kernel) (pa_cons (ev2 vo_div (pe_op op_fdivN (ev2n vo_ix (pe_ix ix_seq (pv 0) (ev_int pe_int) (fun _ _ => rfl))) (ev_int pe_int))) pa_nil))) (ev_var (pv 1)))))))))
theorem sc__law_extended : FnScope ["_law_state_here", "_law_table", "_law_most", "_law_n", "_law_pick", "_law_second", "_law_x", "_law_y", "_law_row"] ["_law_state_here", "_law_table", "_law_most"] (defScope (topS 29)) := ⟨rfl, rfl, rfl, by decide +kernel, rfl, by decide +kernel, by decide +kernel⟩
theorem ok__law_extended (KX : K.In h) (G : h.Ns mainGlobals mg) (c : Says fa fn xn ex K) : Fk PP w K mg base "_law_extended" 2 (He.fAd K ("_law_extended", none)) ["_law_state_here", "_law_table", "_law_most"] (spR ⟨K, mg, none, TK⟩ d__law_extended) := by
  obtain ⟨fd, F⟩ := c.def_ 2 (d := dd__law_extended) rfl
  have sc := sc__law_extended
  refine ⟨⟨fd, fn_dataR F sc (by decide) fun cdv A outer s H E hr tk po => ?_, F.bindsN (ps := ["_law_state_here", "_law_table", "_law_most"]) fun _ _ _ _ _ _ us hl => match us, hl with | [_, _, _], _ => rfl⟩, He.glo_ok KX G (c.fact 33 (f := .glo "_law_extended") rfl), F.kp⟩
  exact (ess_cons (es_set (ps_set (i := 3) sc.nd rfl (by first | exact Or.inl rfl | exact Or.inr rfl) (evc1n vo_len (pe_callB call_lenD (by rfl) (T_free_len KX G c) (by decide +kernel) (pa_cons (pv 1) pa_nil)))))
    (ess_cons (es_set (ps_set (i := 4) sc.nd rfl (by first | exact Or.inl rfl | exact Or.inr rfl) (ev_callR (runR_nox _ _ _) ((ok__law_take KX G c).pe (hr.mono (by decide)) (by rfl) tk (pa_cons (pv 0) (ea_cons (ev_int pe_int) ea_nil'))))))
    (ess_cons (es_if (ps_if (et2 vo_eq (pt_cmpR (op_eqD (room_u4 hr)) (ev_var (pv 4)) (ev_int pe_int) (nomark _))) (ess_one (es_ret (ps_ret (ev_frz (ev_comp (pe_lc (own := [("_law_x", 6)]) rfl sc.nd (ei_rng (pi_range1 (by rfl) (T_free_range KX G c) (pa_cons (ev_var (pv 3)) pa_nil))) (blkOk_by (own := [("_law_x", 6)]) (by first | decide +kernel | rfl)) (fun _ _ _ _ _ => (eg_nm (pg_name (i := 6) sc.nd rfl (by first | exact .inl rfl | exact .inr rfl)))) (fun _ _ _ _ _ => ets_nil) (fun _ _ _ _ _ => (evc1 vo_tuple (pe_callTy call_tupleN (by rfl) (T_free_tuple KX G c) (by decide +kernel) (pa_cons (ev_frz (ev_comp (pe_lc (own := [("_law_y", 7)]) rfl sc.nd (ei_rng (pi_range1 (by rfl) (T_free_range KX G c) (pa_cons (ev_var (pv 3)) pa_nil))) (blkOk_by (own := [("_law_y", 7)]) (by first | decide +kernel | rfl)) (fun _ _ _ _ _ => (eg_nm (pg_name (i := 7) sc.nd rfl (by first | exact .inl rfl | exact .inr rfl)))) (fun _ _ _ _ _ => ets_nil) (fun _ _ _ _ _ => (ev2 vo_ix (pe_ix ix_seq (ev2n vo_ix (pe_ix ix_seq (pv 1) (ev_var (pv 7)) (fun _ _ => rfl))) (ev_var (pv 6)) (fun _ _ => rfl))))))) pa_nil)))))))))) ess_nil))
    (ess_cons (es_if (ps_if (PW.pt (et_and (pw_and (et2 vo_eq (pt_cmpR (op_eqD (room_u4 hr)) (ev_var (pv 4)) (ev_int pe_int) (nomark _))) (pw_and1 (et2 (vo_cmpI _) (pt_cmpR op_lt (ev_var (pv 3)) (ev_var (pv 2)) (nomark _))))))) (ess_one (es_ret (ps_ret (ev_frz (evN2 vn_add (pe_op op_addD (ev_frz (ev_comp (pe_lc (own := [("_law_row", 8)]) rfl sc.nd (ei_any (pi_any (ev_var (pv 1)))) (blkOk_by (own := [("_law_row", 8)]) (by first | decide +kernel | rfl)) (fun _ _ _ _ _ => (eg_nm (pg_name (i := 8) sc.nd rfl (by first | exact .inl rfl | exact .inr rfl)))) (fun _ _ _ _ _ => ets_nil) (fun _ _ _ _ _ => (ev2 vo_add (pe_op op_addD (ev_var (pv 8)) (ev_tup (pe_tupN (ea_cons (ev_var (pv 3)) ea_nil'))))))))) (ev_frz (evN_lst (pe_lst (ea_cons (evc1 vo_tuple (pe_callTy call_tupleN (by rfl) (T_free_tuple KX G c) (by decide +kernel) (pa_cons (ev_frz (ev_comp (pe_lc (own := [("_law_y", 7)]) rfl sc.nd (ei_rng (pi_range1 (by rfl) (T_free_range KX G c) (pa_cons (ev2 vo_add (pe_op op_addD (ev_var (pv 3)) (ev_int pe_int))) pa_nil))) (blkOk_by (own := [("_law_y", 7)]) (by first | decide +kernel | rfl)) (fun _ _ _ _ _ => (eg_nm (pg_name (i := 7) sc.nd rfl (by first | exact .inl rfl | exact .inr rfl)))) (fun _ _ _ _ _ => ets_nil) (fun _ _ _ _ _ => (ev_var (pv 3)))))) pa_nil))) ea_nil')))))))))) ess_nil))
    (ess_cons (es_if (ps_if (PW.pt (et_and (pw_and (et2 vo_eq (pt_cmpR (op_eqD (room_u4 hr)) (ev_var (pv 4)) (ev_int pe_int) (nomark _))) (pw_and1 (et2 (vo_cmpI _) (pt_cmpR op_lt (ev_var (pv 3)) (ev_var (pv 2)) (nomark _))))))) (ess_one (es_ret (ps_ret (ev_frz (evN2 vn_add (pe_op op_addD (ev_frz (ev_comp (pe_lc (own := [("_law_x", 6)]) rfl sc.nd (ei_rng (pi_range1 (by rfl) (T_free_range KX G c) (pa_cons (ev_var (pv 3)) pa_nil))) (blkOk_by (own := [("_law_x", 6)]) (by first | decide +kernel | rfl)) (fun _ _ _ _ _ => (eg_nm (pg_name (i := 6) sc.nd rfl (by first | exact .inl rfl | exact .inr rfl)))) (fun _ _ _ _ _ => ets_nil) (fun _ _ _ _ _ => (ev2 vo_add (pe_op op_addD (ev2n vo_ix (pe_ix ix_seq (pv 1) (ev_var (pv 6)) (fun _ _ => rfl))) (ev_tup (pe_tupN (ea_cons (ev_var (pv 6)) ea_nil'))))))))) (ev_frz (evN_lst (pe_lst (ea_cons (ev_tupRg (pe_tupRgN rfl (by rfl) (T_free_tuple KX G c) (erg1 (prg_1 (by rfl) (T_free_range KX G c) (ev2 vo_add (pe_op op_addD (ev_var (pv 3)) (ev_int pe_int))))))) ea_nil')))))))))) ess_nil))
    (ess_cons (es_if (ps_if (PW.pt (et_and (pw_and (et2 vo_eq (pt_cmpR (op_eqD (room_u4 hr)) (ev_var (pv 4)) (ev_int pe_int) (nomark _))) (pw_and1 (et2 (vo_cmpI _) (pt_cmpR op_le (ev2 vo_mul (pe_op op_mulD (ev_int pe_int) (ev_var (pv 3)))) (ev_var (pv 2)) (nomark _))))))) (ess_cons (es_own (ps_set (i := 5) sc.nd rfl (by first | exact Or.inl rfl | exact Or.inr rfl) (evN_lst (pe_lst (ea_cons (ev_tup (pe_tupN (ea_cons (ev_int pe_int) (ea_cons (ev_int pe_int) ea_nil')))) (ea_cons (ev_tup (pe_tupN (ea_cons (ev_int pe_int) (ea_cons (ev_int pe_int) ea_nil')))) ea_nil'))))))
    (ess_cons (es_if (ps_if (et2 vo_eq (pt_cmpR (op_eqD (room_u4 hr)) (ev_callR (runR_nox _ _ _) ((ok__law_take KX G c).pe (hr.mono (by decide)) (by rfl) tk (pa_cons (pv 0) (ea_cons (ev_int pe_int) ea_nil')))) (ev_int pe_int) (nomark _))) (ess_one (es_own (ps_set (i := 5) sc.nd rfl (by first | exact Or.inl rfl | exact Or.inr rfl) (evN_lst (pe_lst (ea_cons (ev_tup (pe_tupN (ea_cons (ev_int pe_int) (ea_cons (ev_int pe_int) ea_nil')))) (ea_cons (ev_tup (pe_tupN (ea_cons (ev_int pe_int) (ea_cons (ev_int pe_int) ea_nil')))) ea_nil'))))))) ess_nil))
    (ess_one (es_ret (ps_ret (ev_frz (ev_comp (pe_lc (own := [("_law_x", 6)]) rfl sc.nd (ei_rng (pi_range1 (by rfl) (T_free_range KX G c) (pa_cons (ev2 vo_mul (pe_op op_mulD (ev_int pe_int) (ev_var (pv 3)))) pa_nil))) (blkOk_by (own := [("_law_x", 6)]) (by first | decide +kernel | rfl)) (fun _ _ _ _ _ => (eg_nm (pg_name (i := 6) sc.nd rfl (by first | exact .inl rfl | exact .inr rfl)))) (fun _ _ _ _ _ => ets_nil) (fun _ _ _ _ _ => (evc1 vo_tuple (pe_callTy call_tupleN (by rfl) (T_free_tuple KX G c) (by decide +kernel) (pa_cons (ev_frz (ev_comp (pe_lc (own := [("_law_y", 7)]) rfl sc.nd (ei_rng (pi_range1 (by rfl) (T_free_range KX G c) (pa_cons (ev2 vo_mul (pe_op op_mulD (ev_int pe_int) (ev_var (pv 3)))) pa_nil))) (blkOk_by (own := [("_law_y", 7)]) (by first | decide +kernel | rfl)) (fun _ _ _ _ _ => (eg_nm (pg_name (i := 7) sc.nd rfl (by first | exact .inl rfl | exact .inr rfl)))) (fun _ _ _ _ _ => ets_nil) (fun _ _ _ _ _ => (ev2 vo_add (pe_op op_addD (ev2 vo_mul (pe_op op_mulD (ev_int pe_int) (ev2 vo_ix (pe_ix ix_seq (ev2n vo_ix (pe_ix ix_seq (pv 1) (ev2 vo_div (pe_op op_fdivN (ev_var (pv 6)) (ev_int pe_int))) (fun _ _ => rfl))) (ev2 vo_div (pe_op op_fdivN (ev_var (pv 7)) (ev_int pe_int))) (fun _ _ => rfl))))) (ev2 vo_ix (pe_ix ix_seq (ev2n vo_ix (pe_ix ix_seq (pv 5) (ev2 vo_mod (pe_op op_modN (evc1n vo_int (pe_callTy call_int1 (by rfl) (T_free_int KX G c) (by decide +kernel) (pa_cons (pv 6) pa_nil))) (ev_int pe_int))) (fun _ _ => rfl))) (ev2 vo_mod (pe_op op_modN (evc1n vo_int (pe_callTy call_int1 (by rfl) (T_free_int KX G c) (by decide +kernel) (pa_cons (pv 7) pa_nil))) (ev_int pe_int))) (fun _ _ => rfl))))))))) pa_nil)))))))))))) ess_nil))
    (ess_one (es_ret (ps_ret (ev_var (pv 1)))))))))))
theorem sc__law_renamed : FnScope ["_law_table", "_law_order", "_law_n", "_law_found", "_law_x", "_law_y", "_law_row"] ["_law_table", "_law_order"] (defScope (topS 21)) := ⟨rfl, rfl, rfl, by decide +kernel, rfl, by decide +kernel, by decide +kernel⟩
theorem ok__law_renamed (KX : K.In h) (G : h.Ns mainGlobals mg) (c : Says fa fn xn ex K) : Fk PP w K mg base "_law_renamed" 1 (He.fAd K ("_law_renamed", none)) ["_law_table", "_law_order"] (spD ⟨K, mg, none, TK⟩ d__law_renamed) := by
  obtain ⟨fd, F⟩ := c.def_ 3 (d := dd__law_renamed) rfl
  have sc := sc__law_renamed
  refine ⟨⟨fd, fn_data F sc (by decide) fun cdv A outer s H E hr tk po => ?_, F.bindsN (ps := ["_law_table", "_law_order"]) fun _ _ _ _ _ _ us hl => match us, hl with | [_, _], _ => rfl⟩, He.glo_ok KX G (c.fact 34 (f := .glo "_law_renamed") rfl), F.kp⟩
  exact (ess_cons (es_set (ps_set (i := 2) sc.nd rfl (by first | exact Or.inl rfl | exact Or.inr rfl) (evc1n vo_len (pe_callB call_lenD (by rfl) (T_free_len KX G c) (by decide +kernel) (pa_cons (pv 0) pa_nil)))))
    (ess_cons (es_own2 (ps_setLc (i := 3) (own := [("_law_x", 4)]) rfl sc.nd rfl rfl (sw_true rfl rfl rfl (by decide +kernel)) (ei_rng (pi_range1 (by rfl) (T_free_range KX G c) (pa_cons (ev_var (pv 2)) pa_nil))) (blkOk_by (own := [("_law_x", 4)]) (by first | decide +kernel | rfl)) (fun _ _ _ _ _ => (eg_nm (pg_name (i := 4) sc.nd rfl (by first | exact .inl rfl | exact .inr rfl)))) (fun _ _ _ _ _ => ets_nil) (fun _ _ _ _ _ => (ev_comp (pe_lc (own := [("_law_y", 5)]) rfl sc.nd (ei_rng (pi_range1 (by rfl) (T_free_range KX G c) (pa_cons (ev_var (pv 2)) pa_nil))) (blkOk_by (own := [("_law_y", 5)]) (by first | decide +kernel | rfl)) (fun _ _ _ _ _ => (eg_nm (pg_name (i := 5) sc.nd rfl (by first | exact .inl rfl | exact .inr rfl)))) (fun _ _ _ _ _ => ets_nil) (fun _ _ _ _ _ => (ev_int pe_int)))))))
    (ess_cons (es_for (ps_for po rfl (ei_rng (pi_range1 (by rfl) (T_free_range KX G c) (pa_cons (ev_var (pv 2)) pa_nil))) (eg_nm (pg_name (i := 4) sc.nd rfl (by first | exact .inl rfl | exact .inr rfl))) (ess_one (es_for (ps_for po rfl (ei_rng (pi_range1 (by rfl) (T_free_range KX G c) (pa_cons (ev_var (pv 2)) pa_nil))) (eg_nm (pg_name (i := 5) sc.nd rfl (by first | exact .inl rfl | exact .inr rfl))) (ess_one (es_store2 (ps_asg (ev2n vo_ix (pe_ix ix_seq (pv 1) (ev2 vo_ix (pe_ix ix_seq (ev2n vo_ix (pe_ix ix_seq (pv 0) (ev_var (pv 4)) (fun _ _ => rfl))) (ev_var (pv 5)) (fun _ _ => rfl))) (fun _ _ => rfl))) (pg_sub (pe_ix ix_seq (pv 3) (ev2n vo_ix (pe_ix ix_seq (pv 1) (ev_var (pv 4)) (fun _ _ => rfl))) (fun _ _ => rfl)) (ev2n vo_ix (pe_ix ix_seq (pv 1) (ev_var (pv 5)) (fun _ _ => rfl))) set_list)))))))))
    (ess_one (es_ret (ps_ret (ev_frz (ev_comp (pe_lc (own := [("_law_row", 6)]) rfl sc.nd (ei_any (pi_any (ev_var (pv 3)))) (blkOk_by (own := [("_law_row", 6)]) (by first | decide +kernel | rfl)) (fun _ _ _ _ _ => (eg_nm (pg_name (i := 6) sc.nd rfl (by first | exact .inl rfl | exact .inr rfl)))) (fun _ _ _ _ _ => ets_nil) (fun _ _ _ _ _ => (evc1n vo_tuple (pe_callTy call_tupleN (by rfl) (T_free_tuple KX G c) (by decide +kernel) (pa_cons (pv 6) pa_nil)))))))))))))
theorem sc__law_triples : FnScope ["_law_a", "_law_b", "_law_g", "_law_twist", "_law_holes", "_law_zero", "_law_size", "_law_rows", "_law_x", "_law_row", "_law_y", "_law_j", "_law_i", "_law_turn", "_law_k"] ["_law_a", "_law_b", "_law_g", "_law_twist", "_law_holes", "_law_zero"] (defScope (topS 26)) := ⟨rfl, rfl, rfl, by decide +kernel, rfl, by decide +kernel, by decide +kernel⟩
theorem ok__law_triples (KX : K.In h) (G : h.Ns mainGlobals mg) (c : Says fa fn xn ex K) : Fk PP w K mg base "_law_triples" 1 (He.fAd K ("_law_triples", none)) ["_law_a", "_law_b", "_law_g", "_law_twist", "_law_holes", "_law_zero"] (spD ⟨K, mg, none, TK⟩ d__law_triples) := by
  obtain ⟨fd, F⟩ := c.def_ 4 (d := dd__law_triples) rfl
  have sc := sc__law_triples
  refine ⟨⟨fd, fn_data F sc (by decide) fun cdv A outer s H E hr tk po => ?_, F.bindsN (ps := ["_law_a", "_law_b", "_law_g", "_law_twist", "_law_holes", "_law_zero"]) fun _ _ _ _ _ _ us hl => match us, hl with | [_, _, _, _, _, _], _ => rfl⟩, He.glo_ok KX G (c.fact 35 (f := .glo "_law_triples") rfl), F.kp⟩
  exact (ess_cons (es_set (ps_set (i := 6) sc.nd rfl (by first | exact Or.inl rfl | exact Or.inr rfl) (ev2 vo_mul (pe_op op_mulD (ev2 vo_mul (pe_op op_mulD (ev_var (pv 0)) (ev_var (pv 1)))) (ev_var (pv 2))))))
    (ess_cons (es_own (ps_set (i := 7) sc.nd rfl (by first | exact Or.inl rfl | exact Or.inr rfl) (evN_lst (pe_lst ea_nil'))))
    (ess_cons (es_for (ps_for po rfl (ei_rng (pi_range1 (by rfl) (T_free_range KX G c) (pa_cons (ev_var (pv 6)) pa_nil))) (eg_nm (pg_name (i := 8) sc.nd rfl (by first | exact .inl rfl | exact .inr rfl))) (ess_cons (es_own (ps_set (i := 9) sc.nd rfl (by first | exact Or.inl rfl | exact Or.inr rfl) (evN_lst (pe_lst ea_nil'))))
    (ess_cons (es_for (ps_for po rfl (ei_rng (pi_range1 (by rfl) (T_free_range KX G c) (pa_cons (ev_var (pv 6)) pa_nil))) (eg_nm (pg_name (i := 10) sc.nd rfl (by first | exact .inl rfl | exact .inr rfl))) (ess_cons (es_set (ps_set (i := 11) sc.nd rfl (by first | exact Or.inl rfl | exact Or.inr rfl) (ev2 vo_mod (pe_op op_modN (evc1n vo_int (pe_callTy call_int1 (by rfl) (T_free_int KX G c) (by decide +kernel) (pa_cons (pv 8) pa_nil))) (ev_var (pv 1))))))
    (ess_cons (es_set (ps_set (i := 12) sc.nd rfl (by first | exact Or.inl rfl | exact Or.inr rfl) (ev2 vo_div (pe_op op_fdivN (ev_var (pv 10)) (ev2 vo_mul (pe_op op_mulD (ev_var (pv 2)) (ev_var (pv 1))))))))
    (ess_one (es_if (ps_if (PW.pt (et_and (pw_and (et_tst (pt_val (ev_var (pv 5)))) (pw_and1 (et_tst (pt_val (ev2 vo_ix (pe_ix ix_seq (ev2n vo_ix (pe_ix ix_seq (pv 4) (ev_var (pv 11)) (fun _ _ => rfl))) (ev_var (pv 12)) (fun _ _ => rfl))))))))) (ess_one (es_expr (ps_expr (ev_append (pe_bm PySem.F.plainAttrs_list PySem.F.slot_list_append PySem.F.type_list_append mt_append (pv 9) (pa_cons (ev_var (pv 6)) pa_nil)))))) (ess_cons (es_set (ps_set (i := 13) sc.nd rfl (by first | exact Or.inl rfl | exact Or.inr rfl) (ev2 vo_mod (pe_op op_modN (evc1 vo_int (pe_callTy call_int1 (by rfl) (T_free_int KX G c) (by decide +kernel) (pa_cons (ev2 vo_add (pe_op op_addD (ev2 vo_add (pe_op op_addD (ev2 vo_div (pe_op op_fdivN (ev_var (pv 8)) (ev_var (pv 1)))) (ev2 vo_ix (pe_ix ix_seq (ev2n vo_ix (pe_ix ix_seq (pv 3) (ev_var (pv 11)) (fun _ _ => rfl))) (ev_var (pv 12)) (fun _ _ => rfl))))) (ev2 vo_div (pe_op op_fdivN (ev_var (pv 10)) (ev_var (pv 1)))))) pa_nil))) (ev_var (pv 2))))))
    (ess_one (es_expr (ps_expr (ev_append (pe_bm PySem.F.plainAttrs_list PySem.F.slot_list_append PySem.F.type_list_append mt_append (pv 9) (pa_cons (ev2 vo_add (pe_op op_addD (ev2 vo_mul (pe_op op_mulD (ev2 vo_add (pe_op op_addD (ev2 vo_mul (pe_op op_mulD (ev2 vo_div (pe_op op_fdivN (ev_var (pv 8)) (ev2 vo_mul (pe_op op_mulD (ev_var (pv 2)) (ev_var (pv 1)))))) (ev_var (pv 2)))) (ev_var (pv 13)))) (ev_var (pv 1)))) (ev2 vo_mod (pe_op op_modN (evc1n vo_int (pe_callTy call_int1 (by rfl) (T_free_int KX G c) (by decide +kernel) (pa_cons (pv 10) pa_nil))) (ev_var (pv 1)))))) pa_nil))))))))))))))
    (ess_one (es_expr (ps_expr (ev_append (pe_bm PySem.F.plainAttrs_list PySem.F.slot_list_append PySem.F.type_list_append mt_append (pv 7) (pa_cons (evc1 vo_tuple (pe_callTy call_tupleN (by rfl) (T_free_tuple KX G c) (by decide +kernel) (pa_cons (ev_frz (evN2 vn_add (pe_op op_addD (ev_var (pv 9)) (ev_frz (ev_comp (pe_lc (own := [("_law_k", 14)]) rfl sc.nd (ei_rng (pi_range1 (by rfl) (T_free_range KX G c) (pa_cons (evc1n vo_int (pe_callTy call_int1 (by rfl) (T_free_int KX G c) (by decide +kernel) (pa_cons (pv 5) pa_nil))) pa_nil))) (blkOk_by (own := [("_law_k", 14)]) (by first | decide +kernel | rfl)) (fun _ _ _ _ _ => (eg_nm (pg_name (i := 14) sc.nd rfl (by first | exact .inl rfl | exact .inr rfl)))) (fun _ _ _ _ _ => ets_nil) (fun _ _ _ _ _ => (ev_var (pv 6))))))))) pa_nil))) pa_nil))))))))))
    (ess_cons (es_if (ps_if (et_tst (pt_val (ev_var (pv 5)))) (ess_one (es_expr (ps_expr (ev_append (pe_bm PySem.F.plainAttrs_list PySem.F.slot_list_append PySem.F.type_list_append mt_append (pv 7) (pa_cons (evc1 vo_tuple (pe_callTy call_tupleN (by rfl) (T_free_tuple KX G c) (by decide +kernel) (pa_cons (ev_frz (ev_comp (pe_lc (own := [("_law_k", 14)]) rfl sc.nd (ei_rng (pi_range1 (by rfl) (T_free_range KX G c) (pa_cons (ev2 vo_add (pe_op op_addD (ev_var (pv 6)) (ev_int pe_int))) pa_nil))) (blkOk_by (own := [("_law_k", 14)]) (by first | decide +kernel | rfl)) (fun _ _ _ _ _ => (eg_nm (pg_name (i := 14) sc.nd rfl (by first | exact .inl rfl | exact .inr rfl)))) (fun _ _ _ _ _ => ets_nil) (fun _ _ _ _ _ => (ev_var (pv 6)))))) pa_nil))) pa_nil)))))) ess_nil))
    (ess_one (es_ret (ps_ret (ev_var (pv 7)))))))))
theorem sc__law_blocks : FnScope ["_law_state_here", "_law_most", "_law_a", "_law_b", "_law_g", "_law_twist", "_law_holes", "_law_zero", "_law_j", "_law_i"] ["_law_state_here", "_law_most"] (defScope (topS 27)) := ⟨rfl, rfl, rfl, by decide +kernel, rfl, by decide +kernel, by decide +kernel⟩
theorem ok__law_blocks (KX : K.In h) (G : h.Ns mainGlobals mg) (c : Says fa fn xn ex K) : Fk PP w K mg base "_law_blocks" 2 (He.fAd K ("_law_blocks", none)) ["_law_state_here", "_law_most"] (spR ⟨K, mg, none, TK⟩ d__law_blocks) := by
  obtain ⟨fd, F⟩ := c.def_ 5 (d := dd__law_blocks) rfl
  have sc := sc__law_blocks
  refine ⟨⟨fd, fn_dataR F sc (by decide) fun cdv A outer s H E hr tk po => ?_, F.bindsN (ps := ["_law_state_here", "_law_most"]) fun _ _ _ _ _ _ us hl => match us, hl with | [_, _], _ => rfl⟩, He.glo_ok KX G (c.fact 36 (f := .glo "_law_blocks") rfl), F.kp⟩
  exact (ess_cons (es_set (ps_set (i := 2) sc.nd rfl (by first | exact Or.inl rfl | exact Or.inr rfl) (ev2 vo_add (pe_op op_addD (ev_int pe_int) (ev_callR (runR_nox _ _ _) ((ok__law_take KX G c).pe (hr.mono (by decide)) (by rfl) tk (pa_cons (pv 0) (ea_cons (ev_int pe_int) ea_nil'))))))))
    (ess_cons (es_set (ps_set (i := 3) sc.nd rfl (by first | exact Or.inl rfl | exact Or.inr rfl) (ev2 vo_add (pe_op op_addD (ev_int pe_int) (ev_callR (runR_nox _ _ _) ((ok__law_take KX G c).pe (hr.mono (by decide)) (by rfl) tk (pa_cons (pv 0) (ea_cons (ev_int pe_int) ea_nil'))))))))
    (ess_cons (es_set (ps_set (i := 4) sc.nd rfl (by first | exact Or.inl rfl | exact Or.inr rfl) (ev2 vo_add (pe_op op_addD (ev_int pe_int) (ev_callR (runR_nox _ _ _) ((ok__law_take KX G c).pe (hr.mono (by decide)) (by rfl) tk (pa_cons (pv 0) (ea_cons (ev_int pe_int) ea_nil'))))))))
    (ess_cons (es_if (ps_if (et2 (vo_cmpI _) (pt_cmpR op_gt (ev2 vo_add (pe_op op_addD (ev2 vo_mul (pe_op op_mulD (ev2 vo_mul (pe_op op_mulD (ev_var (pv 2)) (ev_var (pv 3)))) (ev_var (pv 4)))) (ev_int pe_int))) (ev_var (pv 1)) (nomark _))) (ess_one (es_asg (ps_asg (ev_tup (pe_tupN (ea_cons (ev_int pe_int) (ea_cons (ev_int pe_int) (ea_cons (evc2 vo_min2 (pe_callB (call_min2 rfl) (by rfl) (T_free_min KX G c) (by decide +kernel) (pa_cons (ev_int pe_int) (pa_cons (ev_var (pv 1)) pa_nil)))) ea_nil'))))) (eg_nms (pg_tup rfl (pgs_cons (pg_name (i := 2) sc.nd rfl (by first | exact .inl rfl | exact .inr rfl)) (pgs_cons (pg_name (i := 3) sc.nd rfl (by first | exact .inl rfl | exact .inr rfl)) (pgs_cons (pg_name (i := 4) sc.nd rfl (by first | exact .inl rfl | exact .inr rfl)) pgs_nil)))) rfl)))) ess_nil))
    (ess_cons (es_ownLc (ps_setLc (i := 5) (own := [("_law_j", 8)]) rfl sc.nd rfl rfl (sw_true rfl rfl rfl (by decide +kernel)) (ei_rng (pi_range1 (by rfl) (T_free_range KX G c) (pa_cons (ev_var (pv 3)) pa_nil))) (blkOk_by (own := [("_law_j", 8)]) (by first | decide +kernel | rfl)) (fun _ _ _ _ _ => (eg_nm (pg_name (i := 8) sc.nd rfl (by first | exact .inl rfl | exact .inr rfl)))) (fun _ _ _ _ _ => ets_nil) (fun _ _ _ _ _ => (ev_frz (ev_comp (pe_lc (own := [("_law_i", 9)]) rfl sc.nd (ei_rng (pi_range1 (by rfl) (T_free_range KX G c) (pa_cons (ev_var (pv 2)) pa_nil))) (blkOk_by (own := [("_law_i", 9)]) (by first | decide +kernel | rfl)) (fun _ _ _ _ _ => (eg_nm (pg_name (i := 9) sc.nd rfl (by first | exact .inl rfl | exact .inr rfl)))) (fun _ _ _ _ _ => ets_nil) (fun _ _ _ _ _ => (ev_callR (runR_nox _ _ _) ((ok__law_take KX G c).pe (hr.mono (by decide)) (by rfl) takes0 (pa_cons (pv 0) (ea_cons (ev_var (pv 4)) ea_nil')))))))))))
    (ess_cons (es_ownLc (ps_setLc (i := 6) (own := [("_law_j", 8)]) rfl sc.nd rfl rfl (sw_true rfl rfl rfl (by decide +kernel)) (ei_rng (pi_range1 (by rfl) (T_free_range KX G c) (pa_cons (ev_var (pv 3)) pa_nil))) (blkOk_by (own := [("_law_j", 8)]) (by first | decide +kernel | rfl)) (fun _ _ _ _ _ => (eg_nm (pg_name (i := 8) sc.nd rfl (by first | exact .inl rfl | exact .inr rfl)))) (fun _ _ _ _ _ => ets_nil) (fun _ _ _ _ _ => (ev_frz (ev_comp (pe_lc (own := [("_law_i", 9)]) rfl sc.nd (ei_rng (pi_range1 (by rfl) (T_free_range KX G c) (pa_cons (ev_var (pv 2)) pa_nil))) (blkOk_by (own := [("_law_i", 9)]) (by first | decide +kernel | rfl)) (fun _ _ _ _ _ => (eg_nm (pg_name (i := 9) sc.nd rfl (by first | exact .inl rfl | exact .inr rfl)))) (fun _ _ _ _ _ => ets_nil) (fun _ _ _ _ _ => (ev2 vo_eq (pe_cmpR (op_eqD (room_u4 hr)) (ev_callR (runR_nox _ _ _) ((ok__law_take KX G c).pe (hr.mono (by decide)) (by rfl) takes0 (pa_cons (pv 0) (ea_cons (ev_int pe_int) ea_nil')))) (ev_int pe_int) (nomark _))))))))))
    (ess_cons (es_set (ps_set (i := 7) sc.nd rfl (by first | exact Or.inl rfl | exact Or.inr rfl) (ev_andV (pe_and (ev2 vo_eq (pe_cmpR (op_eqD (room_u4 hr)) (ev_callR (runR_nox _ _ _) ((ok__law_take KX G c).pe (hr.mono (by decide)) (by rfl) tk (pa_cons (pv 0) (ea_cons (ev_int pe_int) ea_nil')))) (ev_int pe_int) (nomark _))) (pe_one (ev2 (vo_cmpI _) (pe_cmpR op_lt (ev2 vo_mul (pe_op op_mulD (ev2 vo_mul (pe_op op_mulD (ev_var (pv 2)) (ev_var (pv 3)))) (ev_var (pv 4)))) (ev_var (pv 1)) (nomark _))))))))
    (ess_one (es_ret (ps_ret (ev_call ((ok__law_triples KX G c).pe (hr.mono (by decide)) (by rfl) tk (ea_cons (ev_var (pv 2)) (ea_cons (ev_var (pv 3)) (ea_cons (ev_var (pv 4)) (ea_cons (ev_var (pv 5)) (ea_cons (ev_var (pv 6)) (ea_cons (ev_var (pv 7)) ea_nil'))))))))))))))))))
theorem sc__law_monogenic : FnScope ["_law_state_here", "_law_most", "_law_n", "_law_period", "_law_index", "_law_rows", "_law_x", "_law_row", "_law_y", "_law_k"] ["_law_state_here", "_law_most"] (defScope (topS 25)) := ⟨rfl, rfl, rfl, by decide +kernel, rfl, by decide +kernel, by decide +kernel⟩
theorem ok__law_monogenic (KX : K.In h) (G : h.Ns mainGlobals mg) (c : Says fa fn xn ex K) : Fk PP w K mg base "_law_monogenic" 2 (He.fAd K ("_law_monogenic", none)) ["_law_state_here", "_law_most"] (spR ⟨K, mg, none, TK⟩ d__law_monogenic) := by
  obtain ⟨fd, F⟩ := c.def_ 6 (d := dd__law_monogenic) rfl
  have sc := sc__law_monogenic
  refine ⟨⟨fd, fn_dataR F sc (by decide) fun cdv A outer s H E hr tk po => ?_, F.bindsN (ps := ["_law_state_here", "_law_most"]) fun _ _ _ _ _ _ us hl => match us, hl with | [_, _], _ => rfl⟩, He.glo_ok KX G (c.fact 37 (f := .glo "_law_monogenic") rfl), F.kp⟩
  exact (ess_cons (es_set (ps_set (i := 2) sc.nd rfl (by first | exact Or.inl rfl | exact Or.inr rfl) (ev2 vo_add (pe_op op_addD (ev_int pe_int) (ev_callR (runR_nox _ _ _) ((ok__law_take KX G c).pe (hr.mono (by decide)) (by rfl) tk (pa_cons (pv 0) (ea_cons (ev_var (pv 1)) ea_nil'))))))))
    (ess_cons (es_set (ps_set (i := 3) sc.nd rfl (by first | exact Or.inl rfl | exact Or.inr rfl) (ev2 vo_add (pe_op op_addD (ev_int pe_int) (ev_callR (runR_nox _ _ _) ((ok__law_take KX G c).pe (hr.mono (by decide)) (by rfl) tk (pa_cons (pv 0) (ea_cons (ev_var (pv 2)) ea_nil'))))))))
    (ess_cons (es_set (ps_set (i := 4) sc.nd rfl (by first | exact Or.inl rfl | exact Or.inr rfl) (ev2 vo_sub (pe_op op_sub (ev2 vo_add (pe_op op_addD (ev_var (pv 2)) (ev_int pe_int))) (ev_var (pv 3))))))
    (ess_cons (es_own (ps_set (i := 5) sc.nd rfl (by first | exact Or.inl rfl | exact Or.inr rfl) (evN_lst (pe_lst ea_nil'))))
    (ess_cons (es_for (ps_for po rfl (ei_rng (pi_range1 (by rfl) (T_free_range KX G c) (pa_cons (ev_var (pv 2)) pa_nil))) (eg_nm (pg_name (i := 6) sc.nd rfl (by first | exact .inl rfl | exact .inr rfl))) (ess_cons (es_own (ps_set (i := 7) sc.nd rfl (by first | exact Or.inl rfl | exact Or.inr rfl) (evN_lst (pe_lst ea_nil'))))
    (ess_cons (es_for (ps_for po rfl (ei_rng (pi_range1 (by rfl) (T_free_range KX G c) (pa_cons (ev_var (pv 2)) pa_nil))) (eg_nm (pg_name (i := 8) sc.nd rfl (by first | exact .inl rfl | exact .inr rfl))) (ess_cons (es_set (ps_set (i := 9) sc.nd rfl (by first | exact Or.inl rfl | exact Or.inr rfl) (ev2 vo_add (pe_op op_addD (ev2 vo_add (pe_op op_addD (ev_var (pv 6)) (ev_var (pv 8)))) (ev_int pe_int)))))
    (ess_cons (es_if (ps_if (et2 (vo_cmpI _) (pt_cmpR op_gt (ev_var (pv 9)) (ev_var (pv 2)) (nomark _))) (ess_one (es_set (ps_set (i := 9) sc.nd rfl (by first | exact Or.inl rfl | exact Or.inr rfl) (ev2 vo_add (pe_op op_addD (ev_var (pv 4)) (ev2 vo_mod (pe_op op_modN (evc1 vo_int (pe_callTy call_int1 (by rfl) (T_free_int KX G c) (by decide +kernel) (pa_cons (ev2 vo_sub (pe_op op_sub (ev_var (pv 9)) (ev_var (pv 4)))) pa_nil))) (ev_var (pv 3))))))))) ess_nil))
    (ess_one (es_expr (ps_expr (ev_append (pe_bm PySem.F.plainAttrs_list PySem.F.slot_list_append PySem.F.type_list_append mt_append (pv 7) (pa_cons (ev2 vo_sub (pe_op op_sub (ev_var (pv 9)) (ev_int pe_int))) pa_nil))))))))))
    (ess_one (es_expr (ps_expr (ev_append (pe_bm PySem.F.plainAttrs_list PySem.F.slot_list_append PySem.F.type_list_append mt_append (pv 5) (pa_cons (evc1n vo_tuple (pe_callTy call_tupleN (by rfl) (T_free_tuple KX G c) (by decide +kernel) (pa_cons (pv 7) pa_nil))) pa_nil))))))))))
    (ess_one (es_ret (ps_ret (ev_var (pv 5))))))))))
theorem sc__law_after : FnScope ["_law_f", "_law_g", "_law_x"] ["_law_f", "_law_g"] (defScope (topS 22)) := ⟨rfl, rfl, rfl, by decide +kernel, rfl, by decide +kernel, by decide +kernel⟩
theorem ok__law_after (KX : K.In h) (G : h.Ns mainGlobals mg) (c : Says fa fn xn ex K) : Fk PP w K mg base "_law_after" 1 (He.fAd K ("_law_after", none)) ["_law_f", "_law_g"] (spD ⟨K, mg, none, TK⟩ d__law_after) := by
  obtain ⟨fd, F⟩ := c.def_ 7 (d := dd__law_after) rfl
  have sc := sc__law_after
  refine ⟨⟨fd, fn_data F sc (by decide) fun cdv A outer s H E hr tk po => ?_, F.bindsN (ps := ["_law_f", "_law_g"]) fun _ _ _ _ _ _ us hl => match us, hl with | [_, _], _ => rfl⟩, He.glo_ok KX G (c.fact 38 (f := .glo "_law_after") rfl), F.kp⟩
  exact (ess_one (es_ret (ps_ret (evc1 vo_tuple (pe_callTy call_tupleN (by rfl) (T_free_tuple KX G c) (by decide +kernel) (pa_cons (ev_frz (ev_comp (pe_lc (own := [("_law_x", 2)]) rfl sc.nd (ei_any (pi_any (ev_var (pv 0)))) (blkOk_by (own := [("_law_x", 2)]) (by first | decide +kernel | rfl)) (fun _ _ _ _ _ => (eg_nm (pg_name (i := 2) sc.nd rfl (by first | exact .inl rfl | exact .inr rfl)))) (fun _ _ _ _ _ => ets_nil) (fun _ _ _ _ _ => (ev2n vo_ix (pe_ix ix_seq (pv 1) (ev_var (pv 2)) (fun _ _ => rfl))))))) pa_nil))))))
theorem sc__law_closed : FnScope ["_law_maps", "_law_found", "_law_f", "_law_turn", "_law_g", "_law_h"] ["_law_maps"] (defScope (topS 23)) := ⟨rfl, rfl, rfl, by decide +kernel, rfl, by decide +kernel, by decide +kernel⟩
theorem ok__law_closed (KX : K.In h) (G : h.Ns mainGlobals mg) (c : Says fa fn xn ex K) : Fk PP w K mg base "_law_closed" 2 (He.fAd K ("_law_closed", none)) ["_law_maps"] (spD ⟨K, mg, none, TK⟩ d__law_closed) := by
  obtain ⟨fd, F⟩ := c.def_ 8 (d := dd__law_closed) rfl
  have sc := sc__law_closed
  refine ⟨⟨fd, fn_data F sc (by decide) fun cdv A outer s H E hr tk po => ?_, F.bindsN (ps := ["_law_maps"]) fun _ _ _ _ _ _ us hl => match us, hl with | [_], _ => rfl⟩, He.glo_ok KX G (c.fact 39 (f := .glo "_law_closed") rfl), F.kp⟩
  exact (ess_cons (es_own (ps_set (i := 1) sc.nd rfl (by first | exact Or.inl rfl | exact Or.inr rfl) (evN_lst (pe_lst ea_nil'))))
    (ess_cons (es_for (ps_for po rfl (ei_any (pi_any (ev_var (pv 0)))) (eg_nm (pg_name (i := 2) sc.nd rfl (by first | exact .inl rfl | exact .inr rfl))) (ess_one (es_if (ps_if (et2m vo_notin (pt_cmpR (op_notInA (room_u hr)) (ev_var (pv 2)) (pv 1) (by with_unfolding_all rfl))) (ess_one (es_expr (ps_expr (ev_append (pe_bm PySem.F.plainAttrs_list PySem.F.slot_list_append PySem.F.type_list_append mt_append (pv 1) (pa_cons (ev_var (pv 2)) pa_nil)))))) ess_nil)))))
    (ess_cons (es_for (ps_for po rfl (ei_rng (pi_range1 (by rfl) (T_free_range KX G c) (pa_cons (ev_int pe_int) pa_nil))) (eg_nm (pg_name (i := 3) sc.nd rfl (by first | exact .inl rfl | exact .inr rfl))) (ess_one (es_for (ps_for po rfl (ei_any (pi_any (ev_frz (evN1n vn_list (pe_callTy call_list_of (by rfl) (T_free_list KX G c) (by decide +kernel) (pa_cons (pv 1) pa_nil)))))) (eg_nm (pg_name (i := 2) sc.nd rfl (by first | exact .inl rfl | exact .inr rfl))) (ess_one (es_for (ps_for po rfl (ei_any (pi_any (ev_var (pv 0)))) (eg_nm (pg_name (i := 4) sc.nd rfl (by first | exact .inl rfl | exact .inr rfl))) (ess_cons (es_set (ps_set (i := 5) sc.nd rfl (by first | exact Or.inl rfl | exact Or.inr rfl) (ev_call ((ok__law_after KX G c).pe (hr.mono (by decide)) (by rfl) tk (ea_cons (ev_var (pv 2)) (ea_cons (ev_var (pv 4)) ea_nil'))))))
    (ess_one (es_if (ps_if (PW.pt (et_and (pw_and (et2m vo_notin (pt_cmpR (op_notInA (room_u hr)) (ev_var (pv 5)) (pv 1) (by with_unfolding_all rfl))) (pw_and1 (et2 (vo_cmpI _) (pt_cmpR op_lt (evc1n vo_len (pe_callB call_lenD (by rfl) (T_free_len KX G c) (by decide +kernel) (pa_cons (pv 1) pa_nil))) (ev_int pe_int) (nomark _))))))) (ess_one (es_expr (ps_expr (ev_append (pe_bm PySem.F.plainAttrs_list PySem.F.slot_list_append PySem.F.type_list_append mt_append (pv 1) (pa_cons (ev_var (pv 5)) pa_nil)))))) ess_nil))))))))))))
    (ess_one (es_ret (ps_ret (ev_var (pv 1))))))))
theorem sc__law_of_maps : FnScope ["_law_state_here", "_law_most", "_law_k", "_law_maps", "_law_turn", "_law_found", "_law_x", "_law_f", "_law_g"] ["_law_state_here", "_law_most"] (defScope (topS 24)) := ⟨rfl, rfl, rfl, by decide +kernel, rfl, by decide +kernel, by decide +kernel⟩
theorem ok__law_of_maps (KX : K.In h) (G : h.Ns mainGlobals mg) (c : Says fa fn xn ex K) : Fk PP w K mg base "_law_of_maps" 3 (He.fAd K ("_law_of_maps", none)) ["_law_state_here", "_law_most"] (spR ⟨K, mg, none, TK⟩ d__law_of_maps) := by
  obtain ⟨fd, F⟩ := c.def_ 9 (d := dd__law_of_maps) rfl
  have sc := sc__law_of_maps
  refine ⟨⟨fd, fn_dataR F sc (by decide) fun cdv A outer s H E hr tk po => ?_, F.bindsN (ps := ["_law_state_here", "_law_most"]) fun _ _ _ _ _ _ us hl => match us, hl with | [_, _], _ => rfl⟩, He.glo_ok KX G (c.fact 40 (f := .glo "_law_of_maps") rfl), F.kp⟩
  exact (ess_cons (es_set (ps_set (i := 2) sc.nd rfl (by first | exact Or.inl rfl | exact Or.inr rfl) (ev2 vo_add (pe_op op_addD (ev_int pe_int) (ev_callR (runR_nox _ _ _) ((ok__law_take KX G c).pe (hr.mono (by decide)) (by rfl) tk (pa_cons (pv 0) (ea_cons (ev_int pe_int) ea_nil'))))))))
    (ess_cons (es_own (ps_set (i := 3) sc.nd rfl (by first | exact Or.inl rfl | exact Or.inr rfl) (evN_lst (pe_lst ea_nil'))))
    (ess_cons (es_for (ps_for po rfl (ei_rng (pi_range1 (by rfl) (T_free_range KX G c) (pa_cons (ev2 vo_add (pe_op op_addD (ev_int pe_int) (ev_callR (runR_nox _ _ _) ((ok__law_take KX G c).pe (hr.mono (by decide)) (by rfl) tk (pa_cons (pv 0) (ea_cons (ev_int pe_int) ea_nil')))))) pa_nil))) (eg_nm (pg_name (i := 4) sc.nd rfl (by first | exact .inl rfl | exact .inr rfl))) (ess_one (es_expr (ps_expr (ev_append (pe_bm PySem.F.plainAttrs_list PySem.F.slot_list_append PySem.F.type_list_append mt_append (pv 3) (pa_cons (evc1 vo_tuple (pe_callTy call_tupleN (by rfl) (T_free_tuple KX G c) (by decide +kernel) (pa_cons (ev_frz (ev_comp (pe_lc (own := [("_law_x", 6)]) rfl sc.nd (ei_rng (pi_range1 (by rfl) (T_free_range KX G c) (pa_cons (ev_var (pv 2)) pa_nil))) (blkOk_by (own := [("_law_x", 6)]) (by first | decide +kernel | rfl)) (fun _ _ _ _ _ => (eg_nm (pg_name (i := 6) sc.nd rfl (by first | exact .inl rfl | exact .inr rfl)))) (fun _ _ _ _ _ => ets_nil) (fun _ _ _ _ _ => (ev_callR (runR_nox _ _ _) ((ok__law_take KX G c).pe (hr.mono (by decide)) (by rfl) takes0 (pa_cons (pv 0) (ea_cons (ev_var (pv 2)) ea_nil')))))))) pa_nil))) pa_nil))))))))
    (ess_cons (es_set (ps_set (i := 5) sc.nd rfl (by first | exact Or.inl rfl | exact Or.inr rfl) (ev_call ((ok__law_closed KX G c).pe (hr.mono (by decide)) (by rfl) tk (ea_cons (ev_var (pv 3)) ea_nil')))))
    (ess_cons (es_if (ps_if (et2 (vo_cmpI _) (pt_cmpR op_gt (evc1n vo_len (pe_callB call_lenD (by rfl) (T_free_len KX G c) (by decide +kernel) (pa_cons (pv 5) pa_nil))) (ev_var (pv 1)) (nomark _))) (ess_one (es_set (ps_set (i := 5) sc.nd rfl (by first | exact Or.inl rfl | exact Or.inr rfl) (ev_call ((ok__law_closed KX G c).pe (hr.mono (by decide)) (by rfl) tk (ea_cons (ev_sln (pe_slice sl_D (pv 3) eo_none (eo_some (ev_int pe_int)))) ea_nil')))))) ess_nil))
    (ess_cons (es_if (ps_if (et2 (vo_cmpI _) (pt_cmpR op_gt (evc1n vo_len (pe_callB call_lenD (by rfl) (T_free_len KX G c) (by decide +kernel) (pa_cons (pv 5) pa_nil))) (ev_var (pv 1)) (nomark _))) (ess_one (es_own (ps_set (i := 5) sc.nd rfl (by first | exact Or.inl rfl | exact Or.inr rfl) (evN_lst (pe_lst (ea_cons (evc1 vo_tuple (pe_callTy call_tupleN (by rfl) (T_free_tuple KX G c) (by decide +kernel) (pa_cons (ev_frz (ev_comp (pe_lc (own := [("_law_x", 6)]) rfl sc.nd (ei_rng (pi_range1 (by rfl) (T_free_range KX G c) (pa_cons (ev_var (pv 2)) pa_nil))) (blkOk_by (own := [("_law_x", 6)]) (by first | decide +kernel | rfl)) (fun _ _ _ _ _ => (eg_nm (pg_name (i := 6) sc.nd rfl (by first | exact .inl rfl | exact .inr rfl)))) (fun _ _ _ _ _ => ets_nil) (fun _ _ _ _ _ => (ev2 vo_ix (pe_ix ix_seq (ev2n vo_ix (pe_ix ix_seq (pv 3) (ev_int pe_int) (fun _ _ => rfl))) (ev_int pe_int) (fun _ _ => rfl))))))) pa_nil))) ea_nil')))))) ess_nil))
    (ess_one (es_ret (ps_ret (ev_frz (ev_pre (ev_comp (pe_lc (own := [("_law_f", 7)]) rfl sc.nd (ei_any (pi_any (ev_var (pv 5)))) (blkOk_by (own := [("_law_f", 7)]) (by first | decide +kernel | rfl)) (fun _ _ _ _ _ => (eg_nm (pg_name (i := 7) sc.nd rfl (by first | exact .inl rfl | exact .inr rfl)))) (fun _ _ _ _ _ => ets_nil) (fun _ _ _ _ _ => (evc1 vo_tuple (pe_callTy call_tupleN (by rfl) (T_free_tuple KX G c) (by decide +kernel) (pa_cons (ev_frz (ev_comp (pe_lc (own := [("_law_g", 8)]) rfl sc.nd (ei_any (pi_any (ev_var (pv 5)))) (blkOk_by (own := [("_law_g", 8)]) (by first | decide +kernel | rfl)) (fun _ _ _ _ _ => (eg_nm (pg_name (i := 8) sc.nd rfl (by first | exact .inl rfl | exact .inr rfl)))) (fun _ _ _ _ _ => ets_nil) (fun _ _ _ _ _ => (ev_indexAN rfl (pe_bmA PySem.F.plainAttrs_list PySem.F.slot_list_index PySem.F.type_list_index (mt_indexA (room_u hr)) PySem.F.plainAttrs_tuple PySem.F.slot_tuple_index PySem.F.type_tuple_index mt_indexT (pv 5) (pa_cons (ev_call ((ok__law_after KX G c).pe (hr.mono (by decide)) (by rfl) takes0 (ea_cons (ev_var (pv 7)) (ea_cons (ev_var (pv 8)) ea_nil')))) pa_nil))))))) pa_nil)))))))))))))))))
theorem sc__law_plain : FnScope ["_law_state_here", "_law_most", "_law_pick", "_law_n", "_law_x", "_law_y"] ["_law_state_here", "_law_most"] (defScope (topS 28)) := ⟨rfl, rfl, rfl, by decide +kernel, rfl, by decide +kernel, by decide +kernel⟩
theorem ok__law_plain (KX : K.In h) (G : h.Ns mainGlobals mg) (c : Says fa fn xn ex K) : Fk PP w K mg base "_law_plain" 4 (He.fAd K ("_law_plain", none)) ["_law_state_here", "_law_most"] (spR ⟨K, mg, none, TK⟩ d__law_plain) := by
  obtain ⟨fd, F⟩ := c.def_ 10 (d := dd__law_plain) rfl
  have sc := sc__law_plain
  refine ⟨⟨fd, fn_dataR F sc (by decide) fun cdv A outer s H E hr tk po => ?_, F.bindsN (ps := ["_law_state_here", "_law_most"]) fun _ _ _ _ _ _ us hl => match us, hl with | [_, _], _ => rfl⟩, He.glo_ok KX G (c.fact 41 (f := .glo "_law_plain") rfl), F.kp⟩
  exact (ess_cons (es_set (ps_set (i := 2) sc.nd rfl (by first | exact Or.inl rfl | exact Or.inr rfl) (ev_callR (runR_nox _ _ _) ((ok__law_take KX G c).pe (hr.mono (by decide)) (by rfl) tk (pa_cons (pv 0) (ea_cons (ev_int pe_int) ea_nil'))))))
    (ess_cons (es_set (ps_set (i := 3) sc.nd rfl (by first | exact Or.inl rfl | exact Or.inr rfl) (ev2 vo_add (pe_op op_addD (ev_int pe_int) (ev_callR (runR_nox _ _ _) ((ok__law_take KX G c).pe (hr.mono (by decide)) (by rfl) tk (pa_cons (pv 0) (ea_cons (ev_var (pv 1)) ea_nil'))))))))
    (ess_cons (es_if (ps_if (et2 vo_eq (pt_cmpR (op_eqD (room_u4 hr)) (ev_var (pv 2)) (ev_int pe_int) (nomark _))) (ess_one (es_ret (ps_ret (ev_frz (ev_comp (pe_lc (own := [("_law_x", 4)]) rfl sc.nd (ei_rng (pi_range1 (by rfl) (T_free_range KX G c) (pa_cons (ev_var (pv 3)) pa_nil))) (blkOk_by (own := [("_law_x", 4)]) (by first | decide +kernel | rfl)) (fun _ _ _ _ _ => (eg_nm (pg_name (i := 4) sc.nd rfl (by first | exact .inl rfl | exact .inr rfl)))) (fun _ _ _ _ _ => ets_nil) (fun _ _ _ _ _ => (evc1 vo_tuple (pe_callTy call_tupleN (by rfl) (T_free_tuple KX G c) (by decide +kernel) (pa_cons (ev_frz (ev_comp (pe_lc (own := [("_law_y", 5)]) rfl sc.nd (ei_rng (pi_range1 (by rfl) (T_free_range KX G c) (pa_cons (ev_var (pv 3)) pa_nil))) (blkOk_by (own := [("_law_y", 5)]) (by first | decide +kernel | rfl)) (fun _ _ _ _ _ => (eg_nm (pg_name (i := 5) sc.nd rfl (by first | exact .inl rfl | exact .inr rfl)))) (fun _ _ _ _ _ => ets_nil) (fun _ _ _ _ _ => (ev_var (pv 4)))))) pa_nil)))))))))) ess_nil))
    (ess_cons (es_if (ps_if (et2 vo_eq (pt_cmpR (op_eqD (room_u4 hr)) (ev_var (pv 2)) (ev_int pe_int) (nomark _))) (ess_one (es_ret (ps_ret (ev_frz (ev_comp (pe_lc (own := [("_law_x", 4)]) rfl sc.nd (ei_rng (pi_range1 (by rfl) (T_free_range KX G c) (pa_cons (ev_var (pv 3)) pa_nil))) (blkOk_by (own := [("_law_x", 4)]) (by first | decide +kernel | rfl)) (fun _ _ _ _ _ => (eg_nm (pg_name (i := 4) sc.nd rfl (by first | exact .inl rfl | exact .inr rfl)))) (fun _ _ _ _ _ => ets_nil) (fun _ _ _ _ _ => (evc1 vo_tuple (pe_callTy call_tupleN (by rfl) (T_free_tuple KX G c) (by decide +kernel) (pa_cons (ev_frz (ev_comp (pe_lc (own := [("_law_y", 5)]) rfl sc.nd (ei_rng (pi_range1 (by rfl) (T_free_range KX G c) (pa_cons (ev_var (pv 3)) pa_nil))) (blkOk_by (own := [("_law_y", 5)]) (by first | decide +kernel | rfl)) (fun _ _ _ _ _ => (eg_nm (pg_name (i := 5) sc.nd rfl (by first | exact .inl rfl | exact .inr rfl)))) (fun _ _ _ _ _ => ets_nil) (fun _ _ _ _ _ => (ev_int pe_int))))) pa_nil)))))))))) ess_nil))
    (ess_cons (es_if (ps_if (et2 vo_eq (pt_cmpR (op_eqD (room_u4 hr)) (ev_var (pv 2)) (ev_int pe_int) (nomark _))) (ess_one (es_ret (ps_ret (ev_callR (runR_nox _ _ _) ((ok__law_monogenic KX G c).pe (hr.mono (by decide)) (by rfl) tk (pa_cons (pv 0) (ea_cons (ev_var (pv 1)) ea_nil'))))))) ess_nil))
    (ess_cons (es_if (ps_if (et2 vo_eq (pt_cmpR (op_eqD (room_u4 hr)) (ev_var (pv 2)) (ev_int pe_int) (nomark _))) (ess_one (es_ret (ps_ret (ev_frz (ev_comp (pe_lc (own := [("_law_x", 4)]) rfl sc.nd (ei_rng (pi_range1 (by rfl) (T_free_range KX G c) (pa_cons (ev_var (pv 3)) pa_nil))) (blkOk_by (own := [("_law_x", 4)]) (by first | decide +kernel | rfl)) (fun _ _ _ _ _ => (eg_nm (pg_name (i := 4) sc.nd rfl (by first | exact .inl rfl | exact .inr rfl)))) (fun _ _ _ _ _ => ets_nil) (fun _ _ _ _ _ => (evc1 vo_tuple (pe_callTy call_tupleN (by rfl) (T_free_tuple KX G c) (by decide +kernel) (pa_cons (ev_frz (ev_comp (pe_lc (own := [("_law_y", 5)]) rfl sc.nd (ei_rng (pi_range1 (by rfl) (T_free_range KX G c) (pa_cons (ev_var (pv 3)) pa_nil))) (blkOk_by (own := [("_law_y", 5)]) (by first | decide +kernel | rfl)) (fun _ _ _ _ _ => (eg_nm (pg_name (i := 5) sc.nd rfl (by first | exact .inl rfl | exact .inr rfl)))) (fun _ _ _ _ _ => ets_nil) (fun _ _ _ _ _ => (evc2 vo_min2 (pe_callB (call_min2 rfl) (by rfl) (T_free_min KX G c) (by decide +kernel) (pa_cons (ev_var (pv 4)) (pa_cons (ev_var (pv 5)) pa_nil)))))))) pa_nil)))))))))) ess_nil))
    (ess_cons (es_if (ps_if (et2 (vo_cmpI _) (pt_cmpR op_lt (ev_var (pv 2)) (ev_int pe_int) (nomark _))) (ess_one (es_ret (ps_ret (ev_callR (runR_nox _ _ _) ((ok__law_of_maps KX G c).pe (hr.mono (by decide)) (by rfl) tk (pa_cons (pv 0) (ea_cons (ev_var (pv 1)) ea_nil'))))))) ess_nil))
    (ess_one (es_ret (ps_ret (ev_callR (runR_nox _ _ _) ((ok__law_blocks KX G c).pe (hr.mono (by decide)) (by rfl) tk (pa_cons (pv 0) (ea_cons (ev_var (pv 1)) ea_nil'))))))))))))))
theorem sc__law_order_of : FnScope ["_law_state_here", "_law_n", "_law_left", "_law_found", "_law_k"] ["_law_state_here", "_law_n"] (defScope (topS 20)) := ⟨rfl, rfl, rfl, by decide +kernel, rfl, by decide +kernel, by decide +kernel⟩
theorem ok__law_order_of (KX : K.In h) (G : h.Ns mainGlobals mg) (c : Says fa fn xn ex K) : Fk PP w K mg base "_law_order_of" 2 (He.fAd K ("_law_order_of", none)) ["_law_state_here", "_law_n"] (spR ⟨K, mg, none, TK⟩ d__law_order_of) := by
  obtain ⟨fd, F⟩ := c.def_ 11 (d := dd__law_order_of) rfl
  have sc := sc__law_order_of
  refine ⟨⟨fd, fn_dataR F sc (by decide) fun cdv A outer s H E hr tk po => ?_, F.bindsN (ps := ["_law_state_here", "_law_n"]) fun _ _ _ _ _ _ us hl => match us, hl with | [_, _], _ => rfl⟩, He.glo_ok KX G (c.fact 42 (f := .glo "_law_order_of") rfl), F.kp⟩
  exact (ess_cons (es_own (ps_set (i := 2) sc.nd rfl (by first | exact Or.inl rfl | exact Or.inr rfl) (evN_rg (pe_listRg rfl (by rfl) (T_free_list KX G c) (erg1 (prg_1 (by rfl) (T_free_range KX G c) (ev_var (pv 1))))))))
    (ess_cons (es_own (ps_set (i := 3) sc.nd rfl (by first | exact Or.inl rfl | exact Or.inr rfl) (evN_lst (pe_lst ea_nil'))))
    (ess_cons (es_for (ps_for po rfl (ei_rng (pi_range1 (by rfl) (T_free_range KX G c) (pa_cons (ev_var (pv 1)) pa_nil))) (eg_nm (pg_name (i := 4) sc.nd rfl (by first | exact .inl rfl | exact .inr rfl))) (ess_one (es_expr (ps_expr (ev_append (pe_bm PySem.F.plainAttrs_list PySem.F.slot_list_append PySem.F.type_list_append mt_append (pv 3) (pa_cons (ev_popAt (pe_bm PySem.F.plainAttrs_list PySem.F.slot_list_pop PySem.F.type_list_pop mt_popAt (pv 2) (pa_cons (ev_callR (runR_nox _ _ _) ((ok__law_take KX G c).pe (hr.mono (by decide)) (by rfl) tk (pa_cons (pv 0) (ea_cons (evc1n vo_len (pe_callB call_lenD (by rfl) (T_free_len KX G c) (by decide +kernel) (pa_cons (pv 2) pa_nil))) ea_nil')))) pa_nil))) pa_nil))))))))
    (ess_one (es_ret (ps_ret (ev_var (pv 3))))))))
theorem sc__law_semigroup : FnScope ["_law_state_here", "_law_most", "_law_table"] ["_law_state_here", "_law_most"] (defScope (topS 30)) := ⟨rfl, rfl, rfl, by decide +kernel, rfl, by decide +kernel, by decide +kernel⟩
theorem ok__law_semigroup (KX : K.In h) (G : h.Ns mainGlobals mg) (c : Says fa fn xn ex K) : Fk PP w K mg base "_law_semigroup" 5 (He.fAd K ("_law_semigroup", none)) ["_law_state_here", "_law_most"] (spR ⟨K, mg, none, TK⟩ d__law_semigroup) := by
  obtain ⟨fd, F⟩ := c.def_ 12 (d := dd__law_semigroup) rfl
  have sc := sc__law_semigroup
  refine ⟨⟨fd, fn_dataR F sc (by decide) fun cdv A outer s H E hr tk po => ?_, F.bindsN (ps := ["_law_state_here", "_law_most"]) fun _ _ _ _ _ _ us hl => match us, hl with | [_, _], _ => rfl⟩, He.glo_ok KX G (c.fact 43 (f := .glo "_law_semigroup") rfl), F.kp⟩
  exact (ess_cons (es_set (ps_set (i := 2) sc.nd rfl (by first | exact Or.inl rfl | exact Or.inr rfl) (ev_callR (runR_nox _ _ _) ((ok__law_extended KX G c).pe (hr.mono (by decide)) (by rfl) tk (pa_cons (pv 0) (ea_cons (ev_callR (runR_nox _ _ _) ((ok__law_plain KX G c).pe (hr.mono (by decide)) (by rfl) tk (pa_cons (pv 0) (ea_cons (ev_var (pv 1)) ea_nil')))) (ea_cons (ev_var (pv 1)) ea_nil')))))))
    (ess_one (es_ret (ps_ret (ev_call ((ok__law_renamed KX G c).pe (hr.mono (by decide)) (by rfl) tk (ea_cons (ev_var (pv 2)) (ea_cons (ev_callR (runR_nox _ _ _) ((ok__law_order_of KX G c).pe (hr.mono (by decide)) (by rfl) tk (pa_cons (pv 0) (ea_cons (evc1n vo_len (pe_callB call_lenD (by rfl) (T_free_len KX G c) (by decide +kernel) (pa_cons (pv 2) pa_nil))) ea_nil')))) ea_nil'))))))))
theorem sc_is_integer : FnScope ["value"] ["value"] (defScope (topS 6)) := ⟨rfl, rfl, rfl, by decide +kernel, rfl, by decide +kernel, by decide +kernel⟩
theorem ok_is_integer (KX : K.In h) (G : h.Ns mainGlobals mg) (c : Says fa fn xn ex K) : Fk PP w K mg base "is_integer" 1 (He.fAd K ("is_integer", none)) ["value"] (spD ⟨K, mg, none, TK⟩ d_is_integer) := by
  obtain ⟨fd, F⟩ := c.def_ 13 (d := dd_is_integer) rfl
  have sc := sc_is_integer
  refine ⟨⟨fd, fn_data F sc (by decide) fun cdv A outer s H E hr tk po => ?_, F.bindsN (ps := ["value"]) fun _ _ _ _ _ _ us hl => match us, hl with | [_], _ => rfl⟩, He.glo_ok KX G (c.fact 44 (f := .glo "is_integer") rfl), F.kp⟩
  exact (ess_one (es_ret (ps_ret (ev_andV (pe_and (ev_isi (by decide) (pe_callB call_isi (by rfl) (T_free_isinstance KX G c) (by decide +kernel) (pa_cons (ev_var (pv 0)) (pa_cons (pe_bltn (by rfl) (T_free_int KX G c) (by decide +kernel) rfl) pa_nil)))) (pe_one (ev_notV (pe_not (ev_isi (by decide) (pe_callB call_isi (by rfl) (T_free_isinstance KX G c) (by decide +kernel) (pa_cons (ev_var (pv 0)) (pa_cons (pe_bltn (by rfl) (T_free_bool KX G c) (by decide +kernel) rfl) pa_nil))))))))))))
theorem sc_is_item : FnScope ["value", "n"] ["value", "n"] (defScope (topS 9)) := ⟨rfl, rfl, rfl, by decide +kernel, rfl, by decide +kernel, by decide +kernel⟩
theorem ok_is_item (KX : K.In h) (G : h.Ns mainGlobals mg) (c : Says fa fn xn ex K) : Fk PP w K mg base "is_item" 2 (He.fAd K ("is_item", none)) ["value", "n"] (spD ⟨K, mg, none, TK⟩ d_is_item) := by
  obtain ⟨fd, F⟩ := c.def_ 14 (d := dd_is_item) rfl
  have sc := sc_is_item
  refine ⟨⟨fd, fn_data F sc (by decide) fun cdv A outer s H E hr tk po => ?_, F.bindsN (ps := ["value", "n"]) fun _ _ _ _ _ _ us hl => match us, hl with | [_, _], _ => rfl⟩, He.glo_ok KX G (c.fact 45 (f := .glo "is_item") rfl), F.kp⟩
  exact (ess_one (es_ret (ps_ret (ev_andV (pe_and (ev_call ((ok_is_integer KX G c).pe (hr.mono (by decide)) (by rfl) tk (ea_cons (ev_var (pv 0)) ea_nil'))) (pe_one (ev_chain (vo_cmpI _) (vo_cmpI _) (pe_chain op_le op_lt (ev_int pe_int) (ev_var (pv 0)) (ev_var (pv 1))))))))))
theorem sc_taken_table : FnScope ["table", "found", "row", "item"] ["table"] (defScope (topS 10)) := ⟨rfl, rfl, rfl, by decide +kernel, rfl, by decide +kernel, by decide +kernel⟩
theorem ok_taken_table (KX : K.In h) (G : h.Ns mainGlobals mg) (c : Says fa fn xn ex K) : Fk PP w K mg base "taken_table" 3 (He.fAd K ("taken_table", none)) ["table"] (spD ⟨K, mg, none, TK⟩ d_taken_table) := by
  obtain ⟨fd, F⟩ := c.def_ 15 (d := dd_taken_table) rfl
  have sc := sc_taken_table
  refine ⟨⟨fd, fn_data F sc (by decide) fun cdv A outer s H E hr tk po => ?_, F.bindsN (ps := ["table"]) fun _ _ _ _ _ _ us hl => match us, hl with | [_], _ => rfl⟩, He.glo_ok KX G (c.fact 46 (f := .glo "taken_table") rfl), F.kp⟩
  exact (ess_cons (es_if (ps_if (PW.pt (et_or (pw_or (et_not (pt_not (et_tst (pt_val (ev_isi2 (by decide) (by decide) (pe_callB call_isiT (by rfl) (T_free_isinstance KX G c) (by decide +kernel) (pa_cons (ev_var (pv 0)) (pa_cons (pe_tup (pa_cons (pe_bltn (by rfl) (T_free_list KX G c) (by decide +kernel) rfl) (pa_cons (pe_bltn (by rfl) (T_free_tuple KX G c) (by decide +kernel) rfl) pa_nil))) pa_nil)))))))) (pw_or1 (et2 vo_eq (pt_cmpR (op_eqD (room_u4 hr)) (evc1n vo_len (pe_callB call_lenD (by rfl) (T_free_len KX G c) (by decide +kernel) (pa_cons (pv 0) pa_nil))) (ev_int pe_int) (nomark _))))))) (ess_one (es_raise0 (T_glo_Malformed KX G c) tk (pmk_own PySem.F.excBase_ValueError (T_exc_Malformed KX G c).1 (T_glo_Malformed KX G c) (T_exc_Malformed KX G c).2.1 (raises_own (T_exc_Malformed KX G c).2.2.1 (T_exc_Malformed KX G c).2.2.2) (by rfl)))) ess_nil))
    (ess_cons (es_own (ps_set (i := 1) sc.nd rfl (by first | exact Or.inl rfl | exact Or.inr rfl) (evN_lst (pe_lst ea_nil'))))
    (ess_cons (es_for (ps_for po rfl (ei_any (pi_any (ev_var (pv 0)))) (eg_nm (pg_name (i := 2) sc.nd rfl (by first | exact .inl rfl | exact .inr rfl))) (ess_cons (es_if (ps_if (PW.pt (et_or (pw_or (et_not (pt_not (et_tst (pt_val (ev_isi2 (by decide) (by decide) (pe_callB call_isiT (by rfl) (T_free_isinstance KX G c) (by decide +kernel) (pa_cons (ev_var (pv 2)) (pa_cons (pe_tup (pa_cons (pe_bltn (by rfl) (T_free_list KX G c) (by decide +kernel) rfl) (pa_cons (pe_bltn (by rfl) (T_free_tuple KX G c) (by decide +kernel) rfl) pa_nil))) pa_nil)))))))) (pw_or1 (et2 vo_ne (pt_cmpR (op_neD (room_u4 hr)) (evc1n vo_len (pe_callB call_lenD (by rfl) (T_free_len KX G c) (by decide +kernel) (pa_cons (pv 2) pa_nil))) (evc1n vo_len (pe_callB call_lenD (by rfl) (T_free_len KX G c) (by decide +kernel) (pa_cons (pv 0) pa_nil))) (nomark _))))))) (ess_one (es_raise0 (T_glo_Malformed KX G c) tk (pmk_own PySem.F.excBase_ValueError (T_exc_Malformed KX G c).1 (T_glo_Malformed KX G c) (T_exc_Malformed KX G c).2.1 (raises_own (T_exc_Malformed KX G c).2.2.1 (T_exc_Malformed KX G c).2.2.2) (by rfl)))) ess_nil))
    (ess_cons (es_for (ps_for po rfl (ei_any (pi_any (ev_var (pv 2)))) (eg_nm (pg_name (i := 3) sc.nd rfl (by first | exact .inl rfl | exact .inr rfl))) (ess_one (es_if (ps_if (et_not (pt_not (et_tst (pt_val (ev_call ((ok_is_item KX G c).pe (hr.mono (by decide)) (by rfl) tk (ea_cons (ev_var (pv 3)) (ea_cons (evc1n vo_len (pe_callB call_lenD (by rfl) (T_free_len KX G c) (by decide +kernel) (pa_cons (pv 0) pa_nil))) ea_nil')))))))) (ess_one (es_raise0 (T_glo_Malformed KX G c) tk (pmk_own PySem.F.excBase_ValueError (T_exc_Malformed KX G c).1 (T_glo_Malformed KX G c) (T_exc_Malformed KX G c).2.1 (raises_own (T_exc_Malformed KX G c).2.2.1 (T_exc_Malformed KX G c).2.2.2) (by rfl)))) ess_nil)))))
    (ess_one (es_expr (ps_expr (ev_append (pe_bm PySem.F.plainAttrs_list PySem.F.slot_list_append PySem.F.type_list_append mt_append (pv 1) (pa_cons (evc1n vo_tuple (pe_callTy call_tupleN (by rfl) (T_free_tuple KX G c) (by decide +kernel) (pa_cons (pv 2) pa_nil))) pa_nil))))))))))
    (ess_one (es_ret (ps_ret (evc1n vo_tuple (pe_callTy call_tupleN (by rfl) (T_free_tuple KX G c) (by decide +kernel) (pa_cons (pv 1) pa_nil)))))))))
theorem sc_is_associative : FnScope ["table", "row", "y", "z", "item"] ["table"] (defScope (topS 11)) := ⟨rfl, rfl, rfl, by decide +kernel, rfl, by decide +kernel, by decide +kernel⟩
theorem ok_is_associative (KX : K.In h) (G : h.Ns mainGlobals mg) (c : Says fa fn xn ex K) : Fk PP w K mg base "is_associative" 1 (He.fAd K ("is_associative", none)) ["table"] (spD ⟨K, mg, none, TK⟩ d_is_associative) := by
  obtain ⟨fd, F⟩ := c.def_ 16 (d := dd_is_associative) rfl
  have sc := sc_is_associative
  refine ⟨⟨fd, fn_data F sc (by decide) fun cdv A outer s H E hr tk po => ?_, F.bindsN (ps := ["table"]) fun _ _ _ _ _ _ us hl => match us, hl with | [_], _ => rfl⟩, He.glo_ok KX G (c.fact 47 (f := .glo "is_associative") rfl), F.kp⟩
  exact (ess_cons (es_for (ps_for po rfl (ei_any (pi_any (ev_var (pv 0)))) (eg_nm (pg_name (i := 1) sc.nd rfl (by first | exact .inl rfl | exact .inr rfl))) (ess_one (es_for (ps_for po rfl (ei_rng (pi_range1 (by rfl) (T_free_range KX G c) (pa_cons (evc1n vo_len (pe_callB call_lenD (by rfl) (T_free_len KX G c) (by decide +kernel) (pa_cons (pv 0) pa_nil))) pa_nil))) (eg_nm (pg_name (i := 2) sc.nd rfl (by first | exact .inl rfl | exact .inr rfl))) (ess_one (es_if (ps_if (et2 vo_ne (pt_cmpR (op_neD (room_u4 hr)) (ev_frz (ev_comp (pe_lc (own := [("z", 3)]) rfl sc.nd (ei_rng (pi_range1 (by rfl) (T_free_range KX G c) (pa_cons (evc1n vo_len (pe_callB call_lenD (by rfl) (T_free_len KX G c) (by decide +kernel) (pa_cons (pv 0) pa_nil))) pa_nil))) (blkOk_by (own := [("z", 3)]) (by first | decide +kernel | rfl)) (fun _ _ _ _ _ => (eg_nm (pg_name (i := 3) sc.nd rfl (by first | exact .inl rfl | exact .inr rfl)))) (fun _ _ _ _ _ => ets_nil) (fun _ _ _ _ _ => (ev2 vo_ix (pe_ix ix_seq (ev2n vo_ix (pe_ix ix_seq (pv 0) (ev2n vo_ix (pe_ix ix_seq (pv 1) (ev_var (pv 2)) (fun _ _ => rfl))) (fun _ _ => rfl))) (ev_var (pv 3)) (fun _ _ => rfl))))))) (ev_frz (ev_comp (pe_lc (own := [("item", 4)]) rfl sc.nd (ei_any (pi_any (ev2n vo_ix (pe_ix ix_seq (pv 0) (ev_var (pv 2)) (fun _ _ => rfl))))) (blkOk_by (own := [("item", 4)]) (by first | decide +kernel | rfl)) (fun _ _ _ _ _ => (eg_nm (pg_name (i := 4) sc.nd rfl (by first | exact .inl rfl | exact .inr rfl)))) (fun _ _ _ _ _ => ets_nil) (fun _ _ _ _ _ => (ev2n vo_ix (pe_ix ix_seq (pv 1) (ev_var (pv 4)) (fun _ _ => rfl))))))) (nomark _))) (ess_one (es_ret (ps_ret (ev_bl pe_bl)))) ess_nil))))))))
    (ess_one (es_ret (ps_ret (ev_bl pe_bl)))))
theorem sc_Semigroup___init__ : FnScope ["self", "table", "own"] ["self", "table"] (defScope (inClass (topS 12) 0)) := ⟨rfl, rfl, rfl, by decide +kernel, rfl, by decide +kernel, by decide +kernel⟩
theorem ok_Semigroup (KX : K.In h) (G : h.Ns mainGlobals mg) (c : Says fa fn xn ex K) : Kf PP w K mg base "Semigroup" 4 (He.ga K "Semigroup") (He.fAd K ("Semigroup", some "__init__")) ["self", "table"] (spI ⟨K, mg, none, TK⟩ "Semigroup" d_Semigroup___init__) := by
  obtain ⟨fd, F⟩ := c.def_ 17 (d := dd_Semigroup___init__) rfl
  have sc := sc_Semigroup___init__
  refine ⟨⟨fd, fn_init F sc (by decide) fun cdv A outer s H E hr tk po => ?_, F.bindsN (ps := ["self", "table"]) fun _ _ _ _ _ _ us hl => match us, hl with | [_, _], _ => rfl⟩, He.mkr_ok (c.fact 48 (f := .mkr "Semigroup") rfl), He.glo_ok KX G (c.fact 13 (f := .glo "Semigroup") rfl)⟩
  exact (ess_cons (es_set (ps_set (i := 2) sc.nd rfl (by first | exact Or.inl rfl | exact Or.inr rfl) (ev_call ((ok_taken_table KX G c).pe (hr.mono (by decide)) (by rfl) tk (ea_cons (ev_var (pv 1)) ea_nil')))))
    (ess_cons (es_if (ps_if (et2 (vo_cmpI _) (pt_cmpR op_gt (evc1n vo_len (pe_callB call_lenD (by rfl) (T_free_len KX G c) (by decide +kernel) (pa_cons (pv 2) pa_nil))) (ev_gint (T_int_MOST KX G c) (by rfl)) (nomark _))) (ess_one (es_raise1 (T_glo_Refused KX G c) tk (pmk_err (k := 1) (T_err_Refused KX G c).1 (T_glo_Refused KX G c) (T_free_super KX G c) (hr.mono (by decide)) (pa_cons (ev_str pe_str) pa_nil) (by rfl)))) ess_nil))
    (ess_cons (es_if (ps_if (et_not (pt_not (et_tst (pt_val (ev_call ((ok_is_associative KX G c).pe (hr.mono (by decide)) (by rfl) tk (ea_cons (ev_var (pv 2)) ea_nil'))))))) (ess_one (es_raise1 (T_glo_Refused KX G c) tk (pmk_err (k := 1) (T_err_Refused KX G c).1 (T_glo_Refused KX G c) (T_free_super KX G c) (hr.mono (by decide)) (pa_cons (ev_str pe_str) pa_nil) (by rfl)))) ess_nil))
    (ess_cons (es_self (T_cls_Semigroup KX G c) (T_noat_Semigroup_n KX G c) (ps_fld (pv 0) (evc1n vo_len (pe_callB call_lenD (by rfl) (T_free_len KX G c) (by decide +kernel) (pa_cons (pv 2) pa_nil))) rfl))
    (ess_one (es_self (T_cls_Semigroup KX G c) (T_noat_Semigroup_table KX G c) (ps_fld (pv 0) (ev_var (pv 2)) rfl)))))))
theorem sc__law_grown : FnScope ["_law_table", "_law_items", "_law_found", "_law_turn", "_law_steps", "_law_y", "_law_x", "_law_z"] ["_law_table", "_law_items"] (defScope (topS 32)) := ⟨rfl, rfl, rfl, by decide +kernel, rfl, by decide +kernel, by decide +kernel⟩
theorem ok__law_grown (KX : K.In h) (G : h.Ns mainGlobals mg) (c : Says fa fn xn ex K) : Fk PP w K mg base "_law_grown" 1 (He.fAd K ("_law_grown", none)) ["_law_table", "_law_items"] (spD ⟨K, mg, none, TK⟩ d__law_grown) := by
  obtain ⟨fd, F⟩ := c.def_ 18 (d := dd__law_grown) rfl
  have sc := sc__law_grown
  refine ⟨⟨fd, fn_data F sc (by decide) fun cdv A outer s H E hr tk po => ?_, F.bindsN (ps := ["_law_table", "_law_items"]) fun _ _ _ _ _ _ us hl => match us, hl with | [_, _], _ => rfl⟩, He.glo_ok KX G (c.fact 49 (f := .glo "_law_grown") rfl), F.kp⟩
  exact (ess_cons (es_own (ps_set (i := 2) sc.nd rfl (by first | exact Or.inl rfl | exact Or.inr rfl) (evN1 vn_sortedA (pe_callB cr_sortedA (by rfl) (T_free_sorted KX G c) (by decide +kernel) (pa_cons (ev_frz (ev_comp (pe_lc (own := [("_law_x", 6)]) rfl sc.nd (ei_rng (pi_range1 (by rfl) (T_free_range KX G c) (pa_cons (evc1n vo_len (pe_callB call_lenD (by rfl) (T_free_len KX G c) (by decide +kernel) (pa_cons (pv 0) pa_nil))) pa_nil))) (blkOk_by (own := [("_law_x", 6)]) (by first | decide +kernel | rfl)) (fun _ _ _ _ _ => (eg_nm (pg_name (i := 6) sc.nd rfl (by first | exact .inl rfl | exact .inr rfl)))) (fun _ _ _ _ _ => (pts_one (et2m vo_in (pt_cmpR (op_inA (room_u hr)) (ev_var (pv 6)) (pv 1) (by with_unfolding_all rfl))))) (fun _ _ _ _ _ => (ev_var (pv 6)))))) pa_nil)))))
    (ess_cons (es_for (ps_for po rfl (ei_rng (pi_range1 (by rfl) (T_free_range KX G c) (pa_cons (evc1n vo_len (pe_callB call_lenD (by rfl) (T_free_len KX G c) (by decide +kernel) (pa_cons (pv 0) pa_nil))) pa_nil))) (eg_nm (pg_name (i := 3) sc.nd rfl (by first | exact .inl rfl | exact .inr rfl))) (ess_cons (es_own (ps_set (i := 4) sc.nd rfl (by first | exact Or.inl rfl | exact Or.inr rfl) (evN_lst (pe_lst ea_nil'))))
    (ess_cons (es_for (ps_for po rfl (ei_any (pi_any (ev_var (pv 2)))) (eg_nm (pg_name (i := 5) sc.nd rfl (by first | exact .inl rfl | exact .inr rfl))) (ess_one (es_own (ps_set (i := 4) sc.nd rfl (by first | exact Or.inl rfl | exact Or.inr rfl) (evN2 vn_add (pe_op op_addD (ev_var (pv 4)) (ev_frz (ev_comp (pe_lc (own := [("_law_z", 7)]) rfl sc.nd (ei_any (pi_any (ev_var (pv 1)))) (blkOk_by (own := [("_law_z", 7)]) (by first | decide +kernel | rfl)) (fun _ _ _ _ _ => (eg_nm (pg_name (i := 7) sc.nd rfl (by first | exact .inl rfl | exact .inr rfl)))) (fun _ _ _ _ _ => ets_nil) (fun _ _ _ _ _ => (ev2 vo_ix (pe_ix ix_seq (ev2n vo_ix (pe_ix ix_seq (pv 0) (ev_var (pv 5)) (fun _ _ => rfl))) (ev_var (pv 7)) (fun _ _ => rfl))))))))))))))
    (ess_one (es_own (ps_set (i := 2) sc.nd rfl (by first | exact Or.inl rfl | exact Or.inr rfl) (ev_comp (pe_lc (own := [("_law_x", 6)]) rfl sc.nd (ei_rng (pi_range1 (by rfl) (T_free_range KX G c) (pa_cons (evc1n vo_len (pe_callB call_lenD (by rfl) (T_free_len KX G c) (by decide +kernel) (pa_cons (pv 0) pa_nil))) pa_nil))) (blkOk_by (own := [("_law_x", 6)]) (by first | decide +kernel | rfl)) (fun _ _ _ _ _ => (eg_nm (pg_name (i := 6) sc.nd rfl (by first | exact .inl rfl | exact .inr rfl)))) (fun _ _ _ _ _ => (pts_one (PW.pt (et_or (pw_or (et2m vo_in (pt_cmpR (op_inA (room_u hr)) (ev_var (pv 6)) (pv 2) (by with_unfolding_all rfl))) (pw_or1 (et2m vo_in (pt_cmpR (op_inA (room_u hr)) (ev_var (pv 6)) (pv 4) (by with_unfolding_all rfl))))))))) (fun _ _ _ _ _ => (ev_var (pv 6))))))))))))
    (ess_one (es_ret (ps_ret (evc1n vo_tuple (pe_callTy call_tupleN (by rfl) (T_free_tuple KX G c) (by decide +kernel) (pa_cons (pv 2) pa_nil))))))))
theorem sc_Semigroup_is_element : FnScope ["self", "value"] ["self", "value"] (defScope (inClass (topS 12) 3)) := ⟨rfl, rfl, rfl, by decide +kernel, rfl, by decide +kernel, by decide +kernel⟩
theorem ok_Semigroup_is_element (KX : K.In h) (G : h.Ns mainGlobals mg) (c : Says fa fn xn ex K) : Mf PP w K mg base (He.ga K "Semigroup") "is_element" 3 (He.fAd K ("Semigroup", some "is_element")) ["self", "value"] (spD ⟨K, mg, none, TK⟩ d_Semigroup_is_element) := by
  obtain ⟨fd, F⟩ := c.def_ 19 (d := dd_Semigroup_is_element) rfl
  have sc := sc_Semigroup_is_element
  refine ⟨⟨fd, fn_data F sc (by decide) fun cdv A outer s H E hr tk po => ?_, F.bindsN (ps := ["self", "value"]) fun _ _ _ _ _ _ us hl => match us, hl with | [_, _], _ => rfl⟩, He.meth_ok (c.fact 50 (f := .meth "Semigroup" "is_element") rfl)⟩
  exact (ess_one (es_ret (ps_ret (ev_call ((ok_is_item KX G c).pe (hr.mono (by decide)) (by rfl) tk (ea_cons (ev_var (pv 1)) (ea_cons (ev_fld (T_cls_Semigroup KX G c) (T_noat_Semigroup_n KX G c) (pe_fld (ev_var (pv 0)) rfl)) ea_nil')))))))
theorem sc_is_subset : FnScope ["s", "value", "k"] ["s", "value"] (defScope (topS 14)) := ⟨rfl, rfl, rfl, by decide +kernel, rfl, by decide +kernel, by decide +kernel⟩
theorem ok_is_subset (KX : K.In h) (G : h.Ns mainGlobals mg) (c : Says fa fn xn ex K) : Fk PP w K mg base "is_subset" 4 (He.fAd K ("is_subset", none)) ["s", "value"] (spD ⟨K, mg, none, TK⟩ d_is_subset) := by
  obtain ⟨fd, F⟩ := c.def_ 20 (d := dd_is_subset) rfl
  have sc := sc_is_subset
  refine ⟨⟨fd, fn_data F sc (by decide) fun cdv A outer s H E hr tk po => ?_, F.bindsN (ps := ["s", "value"]) fun _ _ _ _ _ _ us hl => match us, hl with | [_, _], _ => rfl⟩, He.glo_ok KX G (c.fact 51 (f := .glo "is_subset") rfl), F.kp⟩
  exact (ess_cons (es_if (ps_if (PW.pt (et_or (pw_or (et_not (pt_not (et_tst (pt_val (ev_isi (by decide) (pe_callB call_isi (by rfl) (T_free_isinstance KX G c) (by decide +kernel) (pa_cons (ev_var (pv 1)) (pa_cons (pe_bltn (by rfl) (T_free_tuple KX G c) (by decide +kernel) rfl) pa_nil)))))))) (pw_or1 (et2 vo_eq (pt_cmpR (op_eqD (room_u4 hr)) (evc1n vo_len (pe_callB call_lenD (by rfl) (T_free_len KX G c) (by decide +kernel) (pa_cons (pv 1) pa_nil))) (ev_int pe_int) (nomark _))))))) (ess_one (es_ret (ps_ret (ev_bl pe_bl)))) ess_nil))
    (ess_cons (es_for (ps_for po rfl (ei_rng (pi_range1 (by rfl) (T_free_range KX G c) (pa_cons (evc1n vo_len (pe_callB call_lenD (by rfl) (T_free_len KX G c) (by decide +kernel) (pa_cons (pv 1) pa_nil))) pa_nil))) (eg_nm (pg_name (i := 2) sc.nd rfl (by first | exact .inl rfl | exact .inr rfl))) (ess_one (es_if (ps_if (PW.pt (et_or (pw_or (et_not (pt_not (et_tst (pt_val (ev_meth (T_cls_Semigroup KX G c) ((ok_Semigroup_is_element KX G c).pe (hr.mono (by decide)) (T_cls_Semigroup KX G c).cl (ev_var (pv 0)) (ea_cons (ev2n vo_ix (pe_ix ix_seq (pv 1) (ev_var (pv 2)) (fun _ _ => rfl))) ea_nil'))))))) (pw_or1 (PW.pt (et_and (pw_and (et2 (vo_cmpI _) (pt_cmpR op_gt (ev_var (pv 2)) (ev_int pe_int) (nomark _))) (pw_and1 (et2 (vo_cmpI _) (pt_cmpR op_le (ev2n vo_ix (pe_ix ix_seq (pv 1) (ev_var (pv 2)) (fun _ _ => rfl))) (ev2n vo_ix (pe_ix ix_seq (pv 1) (ev2 vo_sub (pe_op op_sub (ev_var (pv 2)) (ev_int pe_int))) (fun _ _ => rfl))) (nomark _))))))))))) (ess_one (es_ret (ps_ret (ev_bl pe_bl)))) ess_nil)))))
    (ess_one (es_ret (ps_ret (ev_bl pe_bl))))))
theorem sc_is_subsemigroup : FnScope ["s", "value", "x", "y"] ["s", "value"] (defScope (topS 15)) := ⟨rfl, rfl, rfl, by decide +kernel, rfl, by decide +kernel, by decide +kernel⟩
theorem ok_is_subsemigroup (KX : K.In h) (G : h.Ns mainGlobals mg) (c : Says fa fn xn ex K) : Fk PP w K mg base "is_subsemigroup" 5 (He.fAd K ("is_subsemigroup", none)) ["s", "value"] (spD ⟨K, mg, none, TK⟩ d_is_subsemigroup) := by
  obtain ⟨fd, F⟩ := c.def_ 21 (d := dd_is_subsemigroup) rfl
  have sc := sc_is_subsemigroup
  refine ⟨⟨fd, fn_data F sc (by decide) fun cdv A outer s H E hr tk po => ?_, F.bindsN (ps := ["s", "value"]) fun _ _ _ _ _ _ us hl => match us, hl with | [_, _], _ => rfl⟩, He.glo_ok KX G (c.fact 52 (f := .glo "is_subsemigroup") rfl), F.kp⟩
  exact (ess_cons (es_if (ps_if (et_not (pt_not (et_tst (pt_val (ev_call ((ok_is_subset KX G c).pe (hr.mono (by decide)) (by rfl) tk (ea_cons (ev_var (pv 0)) (ea_cons (ev_var (pv 1)) ea_nil')))))))) (ess_one (es_ret (ps_ret (ev_bl pe_bl)))) ess_nil))
    (ess_one (es_ret (ps_ret (evc1 vo_all (pe_callB (cr_all rfl) (by rfl) (T_free_all KX G c) (by decide +kernel) (pa_cons (ev_frz (ev_compB (pe_lc2 (own := [("x", 2), ("y", 3)]) rfl sc.nd (ei_any (pi_any (ev_var (pv 1)))) (blkOk_by (own := [("x", 2), ("y", 3)]) (by first | decide +kernel | rfl)) (vs1 := [3]) (by decide) (fun _ _ _ _ _ => (eg_nm (pg_name (i := 2) sc.nd rfl (by first | exact .inl rfl | exact .inr rfl)))) (fun _ _ _ _ _ => ets_nil) (fun _ _ _ _ _ => (ei_any (pi_any (ev_var (pv 1))))) (fun _ _ _ _ _ => (eg_nm (pg_name (i := 3) sc.nd rfl (by first | exact .inl rfl | exact .inr rfl)))) (fun _ _ _ _ _ => ets_nil) (fun _ _ _ _ _ => (ev2m vo_in (pe_cmpR (op_inA (room_u hr)) (ev2 vo_ix (pe_ix ix_seq (ev2 vo_ix (pe_ix ix_seq (ev_fld (T_cls_Semigroup KX G c) (T_noat_Semigroup_table KX G c) (pe_fld (ev_var (pv 0)) rfl)) (ev_var (pv 2)) (fun _ _ => rfl))) (ev_var (pv 3)) (fun _ _ => rfl))) (pv 1) (by with_unfolding_all rfl))))))) pa_nil)))))))
theorem sc_restricted : FnScope ["s", "value", "x", "y"] ["s", "value"] (defScope (topS 16)) := ⟨rfl, rfl, rfl, by decide +kernel, rfl, by decide +kernel, by decide +kernel⟩
theorem ok_restricted (KX : K.In h) (G : h.Ns mainGlobals mg) (c : Says fa fn xn ex K) : Fk PP w K mg base "restricted" 6 (He.fAd K ("restricted", none)) ["s", "value"] (spD ⟨K, mg, none, TK⟩ d_restricted) := by
  obtain ⟨fd, F⟩ := c.def_ 22 (d := dd_restricted) rfl
  have sc := sc_restricted
  refine ⟨⟨fd, fn_data F sc (by decide) fun cdv A outer s H E hr tk po => ?_, F.bindsN (ps := ["s", "value"]) fun _ _ _ _ _ _ us hl => match us, hl with | [_, _], _ => rfl⟩, He.glo_ok KX G (c.fact 53 (f := .glo "restricted") rfl), F.kp⟩
  exact (ess_cons (es_if (ps_if (et_not (pt_not (et_tst (pt_val (ev_call ((ok_is_subsemigroup KX G c).pe (hr.mono (by decide)) (by rfl) tk (ea_cons (ev_var (pv 0)) (ea_cons (ev_var (pv 1)) ea_nil')))))))) (ess_one (es_raise0 (T_glo_Malformed KX G c) tk (pmk_own PySem.F.excBase_ValueError (T_exc_Malformed KX G c).1 (T_glo_Malformed KX G c) (T_exc_Malformed KX G c).2.1 (raises_own (T_exc_Malformed KX G c).2.2.1 (T_exc_Malformed KX G c).2.2.2) (by rfl)))) ess_nil))
    (ess_one (es_ret (ps_ret (ev_make (T_cls_Semigroup KX G c).gC ((ok_Semigroup KX G c).pe (hr.mono (by decide)) (by rfl) tk (ea_cons (ev_frz (ev_comp (pe_lc (own := [("x", 2)]) rfl sc.nd (ei_any (pi_any (ev_var (pv 1)))) (blkOk_by (own := [("x", 2)]) (by first | decide +kernel | rfl)) (fun _ _ _ _ _ => (eg_nm (pg_name (i := 2) sc.nd rfl (by first | exact .inl rfl | exact .inr rfl)))) (fun _ _ _ _ _ => ets_nil) (fun _ _ _ _ _ => (ev_frz (ev_comp (pe_lc (own := [("y", 3)]) rfl sc.nd (ei_any (pi_any (ev_var (pv 1)))) (blkOk_by (own := [("y", 3)]) (by first | decide +kernel | rfl)) (fun _ _ _ _ _ => (eg_nm (pg_name (i := 3) sc.nd rfl (by first | exact .inl rfl | exact .inr rfl)))) (fun _ _ _ _ _ => ets_nil) (fun _ _ _ _ _ => (ev_indexAN rfl (pe_bmA PySem.F.plainAttrs_list PySem.F.slot_list_index PySem.F.type_list_index (mt_indexA (room_u hr)) PySem.F.plainAttrs_tuple PySem.F.slot_tuple_index PySem.F.type_tuple_index mt_indexT (pv 1) (pa_cons (ev2 vo_ix (pe_ix ix_seq (ev2 vo_ix (pe_ix ix_seq (ev_fld (T_cls_Semigroup KX G c) (T_noat_Semigroup_table KX G c) (pe_fld (ev_var (pv 0)) rfl)) (ev_var (pv 2)) (fun _ _ => rfl))) (ev_var (pv 3)) (fun _ _ => rfl))) pa_nil))))))))))) ea_nil')))))))
theorem sc__law_told : FnScope ["_law_s", "_law_value"] ["_law_s", "_law_value"] (defScope (topS 31)) := ⟨rfl, rfl, rfl, by decide +kernel, rfl, by decide +kernel, by decide +kernel⟩
theorem ok__law_told (KX : K.In h) (G : h.Ns mainGlobals mg) (c : Says fa fn xn ex K) : Fk PP w K mg base "_law_told" 7 (He.fAd K ("_law_told", none)) ["_law_s", "_law_value"] (spD ⟨K, mg, none, TK⟩ d__law_told) := by
  obtain ⟨fd, F⟩ := c.def_ 23 (d := dd__law_told) rfl
  have sc := sc__law_told
  refine ⟨⟨fd, fn_data F sc (by decide) fun cdv A outer s H E hr tk po => ?_, F.bindsN (ps := ["_law_s", "_law_value"]) fun _ _ _ _ _ _ us hl => match us, hl with | [_, _], _ => rfl⟩, He.glo_ok KX G (c.fact 54 (f := .glo "_law_told") rfl), F.kp⟩
  exact (ess_one (es_try (T_mt KX G c) tk rfl (fun W' pn xe tk => (ess_one (es_ret (ps_ret (ev_call ((ok_restricted KX G c).pe (hr.mono (by decide)) (by rfl) tk (ea_cons (ev_var (pv 0)) (ea_cons (ev_var (pv 1)) ea_nil')))))))) (HdsD.un (T_glo_Malformed KX G c) ⟨by rfl, by decide, .inl (T_glo_Malformed KX G c)⟩ (fun a oe cls d pn hz hf => (ess_one (es_ret (ps_ret (ev_non pe_non))))) HdsD.nil) rfl rfl sc.nd))
theorem sc_law : FnScope ["_law_script", "_law_state_here", "_law_table", "_law_n", "_law_s", "_law_items", "_law_drawn", "_law_part", "_law_closed_here", "_law_x", "_law_told_here", "_law_value", "_law_k", "_law_y"] ["_law_script"] (defScope (topS 33)) := ⟨rfl, rfl, rfl, by decide +kernel, rfl, by decide +kernel, by decide +kernel⟩
theorem ok_law (KX : K.In h) (G : h.Ns mainGlobals mg) (c : Says fa fn xn ex K) : mg ("law" : Str) = some (.ref (He.fAd K ("law", none))) ∧ ∃ fd : FuncData, (∀ (s : Shared) (u : Value), BindsTo s fd ⟨[u], []⟩ [(("_law_script" : Str), u)]) ∧ ∀ base : Heap, FnOk PP w K mg base (L2.CX PP w) 8 (He.fAd K ("law", none)) fd ["_law_script"] (spD ⟨K, mg, none, TK⟩ d_law) := by
  obtain ⟨fd, F⟩ := c.def_ 24 (d := dd_law) rfl
  have sc := sc_law
  have b := FunD.bindsA (ps := ["_law_script"]) F fun _ _ _ _ _ _ us hl => match us, hl with | [_], _ => rfl
  refine ⟨He.glo_ok KX G (c.fact 55 (f := .glo "law") rfl), fd, fun s u => b s [u] rfl, fun base => fn_data F sc (by decide) fun cdv A outer s H E hr tk po => ?_⟩
  exact (ess_cons (es_own (ps_set (i := 1) sc.nd rfl (by first | exact Or.inl rfl | exact Or.inr rfl) (ev_callO ((ok__law_state KX G c).pe (hr.mono (by decide)) (by rfl) tk (ea_cons (ev_var (pv 0)) ea_nil')))))
    (ess_cons (es_set (ps_set (i := 2) sc.nd rfl (by first | exact Or.inl rfl | exact Or.inr rfl) (ev_callR (runR_nox _ _ _) ((ok__law_semigroup KX G c).pe (hr.mono (by decide)) (by rfl) tk (pa_cons (pv 1) (ea_cons (ev_int pe_int) ea_nil'))))))
    (ess_cons (es_set (ps_set (i := 3) sc.nd rfl (by first | exact Or.inl rfl | exact Or.inr rfl) (evc1n vo_len (pe_callB call_lenD (by rfl) (T_free_len KX G c) (by decide +kernel) (pa_cons (pv 2) pa_nil)))))
    (ess_cons (es_set (ps_set (i := 4) sc.nd rfl (by first | exact Or.inl rfl | exact Or.inr rfl) (ev_make (T_cls_Semigroup KX G c).gC ((ok_Semigroup KX G c).pe (hr.mono (by decide)) (by rfl) tk (ea_cons (ev_var (pv 2)) ea_nil')))))
    (ess_cons (es_ownLc (ps_setLc (i := 5) (own := [("_law_k", 12)]) rfl sc.nd rfl rfl (sw_true rfl rfl rfl (by decide +kernel)) (ei_rng (pi_range1 (by rfl) (T_free_range KX G c) (pa_cons (ev2 vo_add (pe_op op_addD (ev_int pe_int) (ev_callR (runR_nox _ _ _) ((ok__law_take KX G c).pe (hr.mono (by decide)) (by rfl) tk (pa_cons (pv 1) (ea_cons (ev_int pe_int) ea_nil')))))) pa_nil))) (blkOk_by (own := [("_law_k", 12)]) (by first | decide +kernel | rfl)) (fun _ _ _ _ _ => (eg_nm (pg_name (i := 12) sc.nd rfl (by first | exact .inl rfl | exact .inr rfl)))) (fun _ _ _ _ _ => ets_nil) (fun _ _ _ _ _ => (ev_callR (runR_nox _ _ _) ((ok__law_take KX G c).pe (hr.mono (by decide)) (by rfl) takes0 (pa_cons (pv 1) (ea_cons (ev_var (pv 3)) ea_nil')))))))
    (ess_cons (es_set (ps_set (i := 6) sc.nd rfl (by first | exact Or.inl rfl | exact Or.inr rfl) (evc1 vo_tuple (pe_callTy call_tupleN (by rfl) (T_free_tuple KX G c) (by decide +kernel) (pa_cons (ev_frz (ev_comp (pe_lc (own := [("_law_x", 9)]) rfl sc.nd (ei_rng (pi_range1 (by rfl) (T_free_range KX G c) (pa_cons (ev_var (pv 3)) pa_nil))) (blkOk_by (own := [("_law_x", 9)]) (by first | decide +kernel | rfl)) (fun _ _ _ _ _ => (eg_nm (pg_name (i := 9) sc.nd rfl (by first | exact .inl rfl | exact .inr rfl)))) (fun _ _ _ _ _ => (pts_one (et2 vo_eq (pt_cmpR (op_eqD (room_u4 hr)) (ev_callR (runR_nox _ _ _) ((ok__law_take KX G c).pe (hr.mono (by decide)) (by rfl) takes0 (pa_cons (pv 1) (ea_cons (ev_int pe_int) ea_nil')))) (ev_int pe_int) (nomark _))))) (fun _ _ _ _ _ => (ev_var (pv 9)))))) pa_nil)))))
    (ess_cons (es_for (ps_for po rfl (ei_any (pi_any (ev_frz (evN_lst (pe_lst (ea_cons (ev_call ((ok__law_grown KX G c).pe (hr.mono (by decide)) (by rfl) tk (ea_cons (ev_var (pv 2)) (ea_cons (ev_var (pv 5)) ea_nil')))) (ea_cons (ev_var (pv 6)) (ea_cons (ev_tupRg (pe_tupRgN rfl (by rfl) (T_free_tuple KX G c) (erg1 (prg_1 (by rfl) (T_free_range KX G c) (ev_var (pv 3)))))) ea_nil')))))))) (eg_nm (pg_name (i := 7) sc.nd rfl (by first | exact .inl rfl | exact .inr rfl))) (ess_cons (es_set (ps_set (i := 8) sc.nd rfl (by first | exact Or.inl rfl | exact Or.inr rfl) (ev2 (vo_cmpI _) (pe_cmpR op_gt (evc1n vo_len (pe_callB call_lenD (by rfl) (T_free_len KX G c) (by decide +kernel) (pa_cons (pv 7) pa_nil))) (ev_int pe_int) (nomark _)))))
    (ess_cons (es_for (ps_for po rfl (ei_any (pi_any (ev_var (pv 7)))) (eg_nm (pg_name (i := 9) sc.nd rfl (by first | exact .inl rfl | exact .inr rfl))) (ess_one (es_set (ps_set (i := 8) sc.nd rfl (by first | exact Or.inl rfl | exact Or.inr rfl) (ev_andV (pe_and (ev_var (pv 8)) (pe_one (ev2 vo_eq (pe_cmpR (op_eqD (room_u4 hr)) (evc1 vo_len (pe_callB call_lenD (by rfl) (T_free_len KX G c) (by decide +kernel) (pa_cons (ev_frz (ev_comp (pe_lc (own := [("_law_y", 13)]) rfl sc.nd (ei_any (pi_any (ev_var (pv 7)))) (blkOk_by (own := [("_law_y", 13)]) (by first | decide +kernel | rfl)) (fun _ _ _ _ _ => (eg_nm (pg_name (i := 13) sc.nd rfl (by first | exact .inl rfl | exact .inr rfl)))) (fun _ _ _ _ _ => (pts_one (et2m vo_notin (pt_cmpR (op_notInA (room_u hr)) (ev2 vo_ix (pe_ix ix_seq (ev2n vo_ix (pe_ix ix_seq (pv 2) (ev_var (pv 9)) (fun _ _ => rfl))) (ev_var (pv 13)) (fun _ _ => rfl))) (pv 7) (by with_unfolding_all rfl))))) (fun _ _ _ _ _ => (ev_var (pv 13)))))) pa_nil))) (ev_int pe_int) (nomark _)))))))))))
    (ess_cons (es_set (ps_set (i := 10) sc.nd rfl (by first | exact Or.inl rfl | exact Or.inr rfl) (ev_call ((ok__law_told KX G c).pe (hr.mono (by decide)) (by rfl) tk (ea_cons (ev_var (pv 4)) (ea_cons (ev_var (pv 7)) ea_nil'))))))
    (ess_one (es_if (ps_if (et_not (pt_not (et_tst (pt_val (ev_var (pv 8)))))) (ess_one (es_if (ps_if (et2 vo_isnot (pt_cmpR op_isNotD (ev_var (pv 10)) (ev_non pe_non) (nomark _))) (ess_one (es_ret (ps_ret (ev_bl pe_bl)))) ess_nil))) (ess_one (es_if (ps_if (PW.pt (et_or (pw_or (et_not (pt_not (et_tst (pt_val (ev_isC (T_isf_Semigroup KX G c) (pe_callB call_isi (by rfl) (T_free_isinstance KX G c) (by decide +kernel) (pa_cons (ev_var (pv 10)) (pa_cons (pe_glob (by rfl) (T_isf_Semigroup KX G c).gC rfl) pa_nil)))))))) (pw_or1 (et2 vo_ne (pt_cmpR (op_neD (room_u4 hr)) (ev_fld (T_cls_Semigroup KX G c) (T_noat_Semigroup_table KX G c) (pe_fld (ev_var (pv 10)) rfl)) (evc1 vo_tuple (pe_callTy call_tupleN (by rfl) (T_free_tuple KX G c) (by decide +kernel) (pa_cons (ev_frz (ev_comp (pe_lc (own := [("_law_x", 9)]) rfl sc.nd (ei_any (pi_any (ev_var (pv 7)))) (blkOk_by (own := [("_law_x", 9)]) (by first | decide +kernel | rfl)) (fun _ _ _ _ _ => (eg_nm (pg_name (i := 9) sc.nd rfl (by first | exact .inl rfl | exact .inr rfl)))) (fun _ _ _ _ _ => ets_nil) (fun _ _ _ _ _ => (evc1 vo_tuple (pe_callTy call_tupleN (by rfl) (T_free_tuple KX G c) (by decide +kernel) (pa_cons (ev_frz (ev_comp (pe_lc (own := [("_law_y", 13)]) rfl sc.nd (ei_any (pi_any (ev_var (pv 7)))) (blkOk_by (own := [("_law_y", 13)]) (by first | decide +kernel | rfl)) (fun _ _ _ _ _ => (eg_nm (pg_name (i := 13) sc.nd rfl (by first | exact .inl rfl | exact .inr rfl)))) (fun _ _ _ _ _ => ets_nil) (fun _ _ _ _ _ => (ev_indexAN rfl (pe_bmA PySem.F.plainAttrs_list PySem.F.slot_list_index PySem.F.type_list_index (mt_indexA (room_u hr)) PySem.F.plainAttrs_tuple PySem.F.slot_tuple_index PySem.F.type_tuple_index mt_indexT (pv 7) (pa_cons (ev2 vo_ix (pe_ix ix_seq (ev2n vo_ix (pe_ix ix_seq (pv 2) (ev_var (pv 9)) (fun _ _ => rfl))) (ev_var (pv 13)) (fun _ _ => rfl))) pa_nil))))))) pa_nil))))))) pa_nil))) (nomark _))))))) (ess_one (es_ret (ps_ret (ev_bl pe_bl)))) ess_nil)))))))))))
    (ess_cons (es_for (ps_for po rfl (ei_any (pi_any (ev_frz (evN_lst (pe_lst (ea_cons (ev_tup (pe_tupN ea_nil')) (ea_cons (ev_non pe_non) (ea_cons (ev_int pe_int) (ea_cons (ev_frz (evN_rg (pe_listRg rfl (by rfl) (T_free_list KX G c) (erg1 (prg_1 (by rfl) (T_free_range KX G c) (ev_var (pv 3))))))) (ea_cons (ev_tup (pe_tupN (ea_cons (ev_int pe_int) (ea_cons (ev_int pe_int) ea_nil')))) (ea_cons (ev_tup (pe_tupN (ea_cons (ev_var (pv 3)) ea_nil'))) (ea_cons (ev_tup (pe_tupN (ea_cons (ev1 vo_neg (pe_un un_neg (ev_int pe_int))) ea_nil'))) (ea_cons (ev_tup (pe_tupN (ea_cons (ev_bl pe_bl) ea_nil'))) (ea_cons (ev_tup (pe_tupN (ea_cons (ev_non pe_non) ea_nil'))) (ea_cons (ev_str pe_str) ea_nil'))))))))))))))) (eg_nm (pg_name (i := 11) sc.nd rfl (by first | exact .inl rfl | exact .inr rfl))) (ess_one (es_if (ps_if (et2 vo_isnot (pt_cmpR op_isNotD (ev_call ((ok__law_told KX G c).pe (hr.mono (by decide)) (by rfl) tk (ea_cons (ev_var (pv 4)) (ea_cons (ev_var (pv 11)) ea_nil')))) (ev_non pe_non) (nomark _))) (ess_one (es_ret (ps_ret (ev_bl pe_bl)))) ess_nil)))))
    (ess_one (es_ret (ps_ret (ev_bl pe_bl))))))))))))
end

abbrev R : PySem.W.OpenRow := PySem.W.OpenLaw.row PySem.Challenge.rw_reesblocks_k06_restricted_semigroups
abbrev hk : PySem.W.Hook := hookB 5 fa fn xn ex
def ob (s : PySem.W.SharedT) : AlB := obsBG 5 fa fn xn ex (HandSHeadRun.getT s)
theorem ob_eq (s : PySem.W.SharedT) : ob s = hk.obs s.abs := obsBG_eq (HandSHeadRun.getT_eq s)
theorem run (w : World) : HandSHeadRun.RunEq R (PySem.W.view R.prog [33]) hk ob 4000 ((["_wall", "Fault", "Malformed", "Refused", "is_integer", "MOST", "is_item", "taken_table", "is_associative", "Semigroup", "is_subset", "is_subsemigroup", "restricted", "_law_state", "_law_take", "_law_order_of", "_law_renamed", "_law_after", "_law_closed", "_law_of_maps", "_law_monogenic", "_law_triples", "_law_blocks", "_law_plain", "_law_extended"] : List PySem.Str) ++ (["_law_semigroup", "_law_told", "_law_grown"] : List PySem.Str)) w := by
  intro os
  kernel_rfl
end LAW

namespace LAW
open DL PySem L2
def P__law_state (script : (List Int)) : M (List Int) := M.bind (pfold (fun (x10 : Int) (a11 : (Int × Int)) => M.bind (M.bind (pMul a11.1 1000003) fun c13 => .ok (c13 + (if x10 < 0 then -x10 else x10))) fun c14 => M.bind (M.bind (M.bind (pMul a11.2 48271) fun c15 => .ok (c15 + x10)) fun c17 => pMod c17 2147483647) fun c18 => .ok (c14, c18)) (cutD script none (some 63)) (0, 1)) fun (a19 : (Int × Int)) => .ok [a19.1, a19.2]
theorem S__law_state (script : (List Int)) : DO (d__law_state [D.scr script]) (P__law_state script) eI := fn_O rfl (show RO (sSeq (sSet 1 (dC (.int 0))) (sSeq (sSet 2 (dC (.int 1))) (sSeq (sFor (.nm 3) (dItems (dSln 0 dNoP (dPart (dC (.int 63))))) (sSeq (sSet 1 (dOp2 opAdd (dOp2 opMul (dVar 1) (dC (.int 1000003))) (dOp1n opAbs 3))) (sSet 2 (dOp2 opMod (dOp1 opInt (dOp2 opAdd (dOp2 opMul (dVar 2) (dC (.int 48271))) (dVar 3))) (dC (.int 2147483647)))))) sPass))) (dLst (dCons (dVar 1) (dCons (dVar 2) dNil))) [.sh (D.scr script), .no, .no, .no] (P__law_state script) (List.map eI) from
  (rs_bindP rv_ret (rs_put (st1 := [.sh (D.scr script), .sh (eI 0), .no, .no]) rfl (rs_bindP rv_ret (rs_put (st1 := [.sh (D.scr script), .sh (eI 0), .sh (eI 1), .no]) rfl (rs_bindP (rv_dItems (rv_bind (rv_dSln (rv_bind (rv_rd rfl) (rv_bind rv_ret (rv_bind (rv_dPart (rv_bind rv_ret (rv_lift (y := (some 63)) rfl))) (rv_bind (rv_rd rfl) (rv_lift op_slScr)))))) (rv_lift (y := ((List.map eI) (cutD script none (some 63)))) rfl))) (rs_for0 (e := eI) (xs := (cutD script none (some 63))) (a := (0, 1)) (f := fun (x10 : Int) (a11 : (Int × Int)) => M.bind (M.bind (pMul a11.1 1000003) fun c13 => .ok (c13 + (if x10 < 0 then -x10 else x10))) fun c14 => M.bind (M.bind (M.bind (pMul a11.2 48271) fun c15 => .ok (c15 + x10)) fun c17 => pMod c17 2147483647) fun c18 => .ok (c14, c18)) (fun (a21 : (Int × Int)) (st : DSt) => ∃ (j22 : (Option D)), st = [.sh (D.scr script), .sh (eI a21.1), .sh (eI a21.2), jk j22]) ⟨none, rfl⟩ (fun | x10, a11, _, ⟨j12, rfl⟩ => ⟨[.sh (D.scr script), .sh (eI a11.1), .sh (eI a11.2), .sh (eI x10)], rfl, (rs_bindG (re_dOp2 (re_bindG (re_dOp2 (re_bindP (rv_var rfl) (re_bindP rv_ret (re_lift op_mul)))) fun c13 => (re_bindP (rv_dOp1n (rv_bind (rv_rd rfl) (rv_lift (y := (eI (if x10 < 0 then -x10 else x10))) rfl))) (re_rv (w := eI) (rv_lift (y := (eI (c13 + (if x10 < 0 then -x10 else x10)))) rfl))))) fun c14 => (rs_put (st1 := [.sh (D.scr script), .sh (eI c14), .sh (eI a11.2), .sh (eI x10)]) rfl (rs_last (rs_bindG (re_dOp2 (re_bindG (re_dOp1 (re_tail (w := eI) (re_dOp2 (re_bindG (re_dOp2 (re_bindP (rv_var rfl) (re_bindP rv_ret (re_lift op_mul)))) fun c15 => (re_bindP (rv_var rfl) (re_rv (w := eI) (rv_lift (y := (eI (c15 + x10))) rfl))))) fun c16 => (rv_lift (y := (eI c16)) rfl))) fun c17 => (re_bindP rv_ret (re_lift op_mod)))) fun c18 => (rs_put (st1 := [.sh (D.scr script), .sh (eI c14), .sh (eI c18), .sh (eI x10)]) rfl (rs_end ⟨rfl, (some (eI x10)), rfl⟩))))))⟩) (fun | a19, _, ⟨j20, rfl⟩ => (rs_endO (re_rv (rv_dLst (rv_cons (rv_var rfl) (rv_cons (rv_var rfl) (rv_nil (rv_lift (y := ((List.map eI) [a19.1, a19.2])) (op_lst (by exact Nat.le_of_ble_eq_true rfl) rfl))))))))))))))))

def P__law_take (state_here : (List Int)) (m : Int) : M (Int × (List Int)) := M.bind (M.bind (pAt state_here 0) fun c1 => .ok (decide (c1 > 0))) fun c2 => if c2 = true then M.bind (M.bind (pAt state_here 0) fun c4 => pMod c4 m) fun c5 => M.bind (M.bind (pAt state_here 0) fun c6 => pDiv c6 m) fun c7 => M.bind (pSet state_here 0 c7) fun c8 => .ok (c5, c8) else M.bind (M.bind (M.bind (M.bind (pAt state_here 1) fun c9 => pMul c9 48271) fun c10 => .ok (c10 + 11)) fun c12 => pMod c12 2147483647) fun c13 => M.bind (pSet state_here 1 c13) fun c14 => M.bind (M.bind (M.bind (pAt c14 1) fun c15 => pDiv c15 7) fun c17 => pMod c17 m) fun c18 => .ok (c18, c14)
theorem S__law_take (state_here : (List Int)) (m : Int) : DR (d__law_take (List.map eI state_here) [eI m]) (P__law_take state_here m) eI eI := fn_R rfl (show RS false (sSeq (sIf (dTst (dOp2 opGt (dOp2n opIx 0 (dC (.int 0))) (dC (.int 0)))) (sSeq (sSet 2 (dOp2 opMod (dOp1 opInt (dOp2n opIx 0 (dC (.int 0)))) (dVar 1))) (sSeq (sStore 0 (dC (.int 0)) (dOp2 opDiv (dOp2n opIx 0 (dC (.int 0))) (dVar 1))) (sRet (dVar 2)))) sPass) (sSeq (sStore 0 (dC (.int 1)) (dOp2 opMod (dOp1 opInt (dOp2 opAdd (dOp2 opMul (dOp2n opIx 0 (dC (.int 1))) (dC (.int 48271))) (dC (.int 11)))) (dC (.int 2147483647)))) (sRet (dOp2 opMod (dOp1 opInt (dOp2 opDiv (dOp2n opIx 0 (dC (.int 1))) (dC (.int 7)))) (dVar 1))))) [.rf 0 (List.map eI state_here), .sh (eI m), .no] (P__law_take state_here m) (Kby eI eI) from
  (rs_bindG (re_tst (re_dOp2 (re_bindG (re_dOp2n (re_bindP (rv_rdR rfl) (re_bindP rv_ret (re_bindP (rv_rdR rfl) (re_lift op_atL))))) fun c1 => (re_bindP rv_ret (re_rv (w := eB) (rv_lift (y := (eB (decide (c1 > 0)))) rfl)))))) fun c2 => (rs_ite (fun _ => (rs_seq (rs_bindG (re_dOp2 (re_bindG (re_dOp1 (re_tail (w := eI) (re_dOp2n (re_bindP (rv_rdR rfl) (re_bindP rv_ret (re_bindP (rv_rdR rfl) (re_lift op_atL))))) fun c3 => (rv_lift (y := (eI c3)) rfl))) fun c4 => (re_bindP (rv_var rfl) (re_lift op_mod)))) fun c5 => (rs_put (st1 := [.rf 0 (List.map eI state_here), .sh (eI m), .sh (eI c5)]) rfl (rs_seq (rs_bindG (re_dOp2 (re_bindG (re_dOp2n (re_bindP (rv_rdR rfl) (re_bindP rv_ret (re_bindP (rv_rdR rfl) (re_lift op_atL))))) fun c6 => (re_bindP (rv_var rfl) (re_lift op_div)))) fun c7 => (rs_bindP (rv_rdR rfl) (rs_bindP rv_ret (rs_x (x_setKr (e := eI) (xs := state_here) (k := 0) (v := c7) rfl) fun c8 => rs_st ([.rf 0 (List.map eI c8), .sh (eI m), .sh (eI c5)]) rfl (rs_bindP (rv_var rfl) (rs_ret ⟨.inl rfl, _, rfl⟩))))))))))) (fun _ => (rs_nx (rs_bindG (re_dOp2 (re_bindG (re_dOp1 (re_tail (w := eI) (re_dOp2 (re_bindG (re_dOp2 (re_bindG (re_dOp2n (re_bindP (rv_rdR rfl) (re_bindP rv_ret (re_bindP (rv_rdR rfl) (re_lift op_atL))))) fun c9 => (re_bindP rv_ret (re_lift op_mul)))) fun c10 => (re_bindP rv_ret (re_rv (w := eI) (rv_lift (y := (eI (c10 + 11))) rfl))))) fun c11 => (rv_lift (y := (eI c11)) rfl))) fun c12 => (re_bindP rv_ret (re_lift op_mod)))) fun c13 => (rs_bindP (rv_rdR rfl) (rs_bindP rv_ret (rs_x (x_setKr (e := eI) (xs := state_here) (k := 1) (v := c13) rfl) fun c14 => rs_st ([.rf 0 (List.map eI c14), .sh (eI m), .no]) rfl (rs_last (rs_bindG (re_dOp2 (re_bindG (re_dOp1 (re_tail (w := eI) (re_dOp2 (re_bindG (re_dOp2n (re_bindP (rv_rdR rfl) (re_bindP rv_ret (re_bindP (rv_rdR rfl) (re_lift op_atL))))) fun c15 => (re_bindP rv_ret (re_lift op_div)))) fun c16 => (rv_lift (y := (eI c16)) rfl))) fun c17 => (re_bindP (rv_var rfl) (re_lift op_mod)))) fun c18 => (rs_ret ⟨.inl rfl, _, rfl⟩))))))))))))

def P__law_monogenic (state_here : (List Int)) (most : Int) : M ((List (List Int)) × (List Int)) := M.bind (M.bind (P__law_take state_here most) fun c3 => .ok ((1 + c3.1), c3.2)) fun c4 => M.bind (M.bind (P__law_take c4.2 c4.1) fun c8 => .ok ((1 + c8.1), c8.2)) fun c9 => M.bind (pRng c4.1) fun c11 => M.bind (pfold (fun (x106 : Int) (a107 : (List (List Int))) => M.bind (pRng c4.1) fun c112 => M.bind (pfold (fun (x135 : Int) (a136 : (List Int)) => M.bind (if (decide (((x106 + x135) + 2) > c4.1)) = true then M.bind (M.bind (pMod (((x106 + x135) + 2) - ((c4.1 + 1) - c9.1)) c9.1) fun c141 => .ok (((c4.1 + 1) - c9.1) + c141)) fun c142 => .ok c142 else .ok ((x106 + x135) + 2) : M Int) fun (a143 : Int) => M.bind (pApp a136 (a143 - 1)) fun c144 => .ok c144) c112 []) fun (a146 : (List Int)) => M.bind (pApp a107 a146) fun c149 => .ok c149) c11 []) fun (a153 : (List (List Int))) => .ok (a153, c9.2)
theorem S__law_monogenic (state_here : (List Int)) (most : Int) : DR (d__law_monogenic (List.map eI state_here) [eI most]) (P__law_monogenic state_here most) (eL (eT eI)) eI := fn_R rfl (show RS false (sSeq (sSet 2 (dOp2 opAdd (dC (.int 1)) (dCallR d__law_take 0 (dCons (dVar 1) dNil)))) (sSeq (sSet 3 (dOp2 opAdd (dC (.int 1)) (dCallR d__law_take 0 (dCons (dVar 2) dNil)))) (sSeq (sSet 4 (dOp2 opSub (dOp2 opAdd (dVar 2) (dC (.int 1))) (dVar 3))) (sSeq (sOwn 5 (dLst dNil)) (sSeq (sFor (.nm 6) (dRng (dVar 2)) (sSeq (sOwn 7 (dLst dNil)) (sSeq (sFor (.nm 8) (dRng (dVar 2)) (sSeq (sSet 9 (dOp2 opAdd (dOp2 opAdd (dVar 6) (dVar 8)) (dC (.int 2)))) (sSeq (sIf (dTst (dOp2 opGt (dVar 9) (dVar 2))) (sSet 9 (dOp2 opAdd (dVar 4) (dOp2 opMod (dOp1 opInt (dOp2 opSub (dVar 9) (dVar 4))) (dVar 3)))) sPass) (sExpr (dAppend 7 (dOp2 opSub (dVar 9) (dC (.int 1)))))))) (sExpr (dAppend 5 (dOp1n opTuple 7)))))) (sRet (dVar 5))))))) [.rf 0 (List.map eI state_here), .sh (eI most), .no, .no, .no, .no, .no, .no, .no, .no] (P__law_monogenic state_here most) (Kby (eL (eT eI)) eI) from
  (rs_bindS (fun (r5 : List Int) => [.rf 0 (List.map eI r5), .sh (eI most), .no, .no, .no, .no, .no, .no, .no, .no]) (rt_dOp2 (rt_bindP rv_ret (rt_bindS (rt_dCallR (rt_bindP (rv_owR rfl) (rt_consP (rv_var rfl) (rt_nil (rt_callR (S := fun r2 => [.rf 0 (List.map eI r2), .sh (eI most), .no, .no, .no, .no, .no, .no, .no, .no]) rfl (fun _ => rfl) (S__law_take state_here most)))))) fun c3 => (rt_rv (v := eI) (rv_lift (y := (eI (1 + c3.1))) rfl))))) fun c4 => (rs_put (st1 := [.rf 0 (List.map eI c4.2), .sh (eI most), .sh (eI c4.1), .no, .no, .no, .no, .no, .no, .no]) rfl (rs_bindS (fun (r10 : List Int) => [.rf 0 (List.map eI r10), .sh (eI most), .sh (eI c4.1), .no, .no, .no, .no, .no, .no, .no]) (rt_dOp2 (rt_bindP rv_ret (rt_bindS (rt_dCallR (rt_bindP (rv_owR rfl) (rt_consP (rv_var rfl) (rt_nil (rt_callR (S := fun r7 => [.rf 0 (List.map eI r7), .sh (eI most), .sh (eI c4.1), .no, .no, .no, .no, .no, .no, .no]) rfl (fun _ => rfl) (S__law_take c4.2 c4.1)))))) fun c8 => (rt_rv (v := eI) (rv_lift (y := (eI (1 + c8.1))) rfl))))) fun c9 => (rs_put (st1 := [.rf 0 (List.map eI c9.2), .sh (eI most), .sh (eI c4.1), .sh (eI c9.1), .no, .no, .no, .no, .no, .no]) rfl (rs_bindP (rv_dOp2 (rv_bind (rv_dOp2 (rv_bind (rv_var rfl) (rv_bind rv_ret (rv_lift (y := (eI (c4.1 + 1))) rfl)))) (rv_bind (rv_var rfl) (rv_lift (y := (eI ((c4.1 + 1) - c9.1))) rfl)))) (rs_put (st1 := [.rf 0 (List.map eI c9.2), .sh (eI most), .sh (eI c4.1), .sh (eI c9.1), .sh (eI ((c4.1 + 1) - c9.1)), .no, .no, .no, .no, .no]) rfl (rs_bindP (rv_dLst (rv_nil (rv_lift (y := ((List.map eI) [])) (op_lst (by exact Nat.le_of_ble_eq_true rfl) rfl)))) (rs_put (st1 := [.rf 0 (List.map eI c9.2), .sh (eI most), .sh (eI c4.1), .sh (eI c9.1), .sh (eI ((c4.1 + 1) - c9.1)), .ow (List.map eI []), .no, .no, .no, .no]) rfl (rs_bindG (re_dRng (re_bindP (rv_var rfl) (re_lift op_rng))) fun c11 => (rs_for0 (e := eI) (xs := c11) (a := []) (f := fun (x106 : Int) (a107 : (List (List Int))) => M.bind (pRng c4.1) fun c112 => M.bind (pfold (fun (x135 : Int) (a136 : (List Int)) => M.bind (if (decide (((x106 + x135) + 2) > c4.1)) = true then M.bind (M.bind (pMod (((x106 + x135) + 2) - ((c4.1 + 1) - c9.1)) c9.1) fun c141 => .ok (((c4.1 + 1) - c9.1) + c141)) fun c142 => .ok c142 else .ok ((x106 + x135) + 2) : M Int) fun (a143 : Int) => M.bind (pApp a136 (a143 - 1)) fun c144 => .ok c144) c112 []) fun (a146 : (List Int)) => M.bind (pApp a107 a146) fun c149 => .ok c149) (fun (a158 : (List (List Int))) (st : DSt) => ∃ (j159 : (Option D)), ∃ (j160 : Slot), ∃ (j161 : (Option D)), ∃ (j162 : (Option D)), st = [.rf 0 (List.map eI c9.2), .sh (eI most), .sh (eI c4.1), .sh (eI c9.1), .sh (eI ((c4.1 + 1) - c9.1)), .ow (List.map (eT eI) a158), jk j159, j160, jk j161, jk j162]) ⟨none, (.no), none, none, rfl⟩ (fun | x106, a107, _, ⟨j108, j109, j110, j111, rfl⟩ => ⟨[.rf 0 (List.map eI c9.2), .sh (eI most), .sh (eI c4.1), .sh (eI c9.1), .sh (eI ((c4.1 + 1) - c9.1)), .ow (List.map (eT eI) a107), .sh (eI x106), j109, jk j110, jk j111], rfl, (rs_bindP (rv_dLst (rv_nil (rv_lift (y := ((List.map eI) [])) (op_lst (by exact Nat.le_of_ble_eq_true rfl) rfl)))) (rs_put (st1 := [.rf 0 (List.map eI c9.2), .sh (eI most), .sh (eI c4.1), .sh (eI c9.1), .sh (eI ((c4.1 + 1) - c9.1)), .ow (List.map (eT eI) a107), .sh (eI x106), .ow (List.map eI []), jk j110, jk j111]) rfl (rs_bindG (re_dRng (re_bindP (rv_var rfl) (re_lift op_rng))) fun c112 => (rs_for0 (e := eI) (xs := c112) (a := []) (f := fun (x135 : Int) (a136 : (List Int)) => M.bind (if (decide (((x106 + x135) + 2) > c4.1)) = true then M.bind (M.bind (pMod (((x106 + x135) + 2) - ((c4.1 + 1) - c9.1)) c9.1) fun c141 => .ok (((c4.1 + 1) - c9.1) + c141)) fun c142 => .ok c142 else .ok ((x106 + x135) + 2) : M Int) fun (a143 : Int) => M.bind (pApp a136 (a143 - 1)) fun c144 => .ok c144) (fun (a150 : (List Int)) (st : DSt) => ∃ (j151 : (Option D)), ∃ (j152 : (Option D)), st = [.rf 0 (List.map eI c9.2), .sh (eI most), .sh (eI c4.1), .sh (eI c9.1), .sh (eI ((c4.1 + 1) - c9.1)), .ow (List.map (eT eI) a107), .sh (eI x106), .ow (List.map eI a150), jk j151, jk j152]) ⟨j110, j111, rfl⟩ (fun | x135, a136, _, ⟨j137, j138, rfl⟩ => ⟨[.rf 0 (List.map eI c9.2), .sh (eI most), .sh (eI c4.1), .sh (eI c9.1), .sh (eI ((c4.1 + 1) - c9.1)), .ow (List.map (eT eI) a107), .sh (eI x106), .ow (List.map eI a136), .sh (eI x135), jk j138], rfl, (rs_bindP (rv_dOp2 (rv_bind (rv_dOp2 (rv_bind (rv_var rfl) (rv_bind (rv_var rfl) (rv_lift (y := (eI (x106 + x135))) rfl)))) (rv_bind rv_ret (rv_lift (y := (eI ((x106 + x135) + 2))) rfl)))) (rs_put (st1 := [.rf 0 (List.map eI c9.2), .sh (eI most), .sh (eI c4.1), .sh (eI c9.1), .sh (eI ((c4.1 + 1) - c9.1)), .ow (List.map (eT eI) a107), .sh (eI x106), .ow (List.map eI a136), .sh (eI x135), .sh (eI ((x106 + x135) + 2))]) rfl (rs_bindP (rv_tst (rv_dOp2 (rv_bind (rv_var rfl) (rv_bind (rv_var rfl) (rv_lift (y := (eB (decide (((x106 + x135) + 2) > c4.1)))) rfl))))) (rs_join (I := (fun (a145 : Int) (st : DSt) => st = [.rf 0 (List.map eI c9.2), .sh (eI most), .sh (eI c4.1), .sh (eI c9.1), .sh (eI ((c4.1 + 1) - c9.1)), .ow (List.map (eT eI) a107), .sh (eI x106), .ow (List.map eI a136), .sh (eI x135), .sh (eI a145)])) (rs_iteN (fun _ => (rs_last (rs_bindG (re_dOp2 (re_bindP (rv_var rfl) (re_bindG (re_dOp2 (re_bindP (rv_dOp1 (rv_bind (rv_dOp2 (rv_bind (rv_var rfl) (rv_bind (rv_var rfl) (rv_lift (y := (eI (((x106 + x135) + 2) - ((c4.1 + 1) - c9.1)))) rfl)))) (rv_lift (y := (eI (((x106 + x135) + 2) - ((c4.1 + 1) - c9.1)))) rfl))) (re_bindP (rv_var rfl) (re_lift op_mod)))) fun c141 => (re_rv (w := eI) (rv_lift (y := (eI (((c4.1 + 1) - c9.1) + c141))) rfl))))) fun c142 => (rs_put (st1 := [.rf 0 (List.map eI c9.2), .sh (eI most), .sh (eI c4.1), .sh (eI c9.1), .sh (eI ((c4.1 + 1) - c9.1)), .ow (List.map (eT eI) a107), .sh (eI x106), .ow (List.map eI a136), .sh (eI x135), .sh (eI c142)]) rfl (rs_end ⟨rfl, rfl⟩))))) (fun _ => (rs_end ⟨rfl, rfl⟩))) fun | a143, _, rfl => (rs_last (rs_x (x_appP (e := eI) (xs := a136) rfl (rv_dOp2 (rv_bind (rv_var rfl) (rv_bind rv_ret (rv_lift (y := (eI (a143 - 1))) rfl)))) rfl) fun c144 => rs_st ([.rf 0 (List.map eI c9.2), .sh (eI most), .sh (eI c4.1), .sh (eI c9.1), .sh (eI ((c4.1 + 1) - c9.1)), .ow (List.map (eT eI) a107), .sh (eI x106), .ow (List.map eI c144), .sh (eI x135), .sh (eI a143)]) rfl (rs_end ⟨rfl, (some (eI x135)), (some (eI a143)), rfl⟩)))))))⟩) (fun | a146, _, ⟨j147, j148, rfl⟩ => (rs_last (rs_x (x_appP (e := (eT eI)) (xs := a107) rfl (rv_dOp1n (rv_bind (rv_rdO rfl) (rv_lift (y := ((eT eI) a146)) rfl))) rfl) fun c149 => rs_st ([.rf 0 (List.map eI c9.2), .sh (eI most), .sh (eI c4.1), .sh (eI c9.1), .sh (eI ((c4.1 + 1) - c9.1)), .ow (List.map (eT eI) c149), .sh (eI x106), .ow (List.map eI a146), jk j147, jk j148]) rfl (rs_end ⟨rfl, (some (eI x106)), (.ow (List.map eI a146)), j147, j148, rfl⟩))))))))⟩) (fun | a153, _, ⟨j154, j155, j156, j157, rfl⟩ => (rs_last (rs_bindP (rv_frz rfl) (rs_ret ⟨.inl rfl, _, rfl⟩)))))))))))))))

def P__law_after (f : (List Int)) (g : (List Int)) : M (List Int) := M.bind (pMap (fun (x1 : Int) => pAt g x1) f) fun c3 => .ok c3
theorem S__law_after (f : (List Int)) (g : (List Int)) : DM (d__law_after [(eT eI) f, (eT eI) g]) (P__law_after f g) (eT eI) := fn_F rfl (show RS true (sRet (dOp1 opTuple (dFrz (dComp [2] (.nm 2) (dItems (dVar 0)) dYes (dOp2n opIx 1 (dVar 2)))))) [.sh ((eT eI) f), .sh ((eT eI) g), .no] (P__law_after f g) (Kfn (eT eI)) from
  (rs_last (rs_bindG (re_dOp1 (re_tail (w := (eT eI)) (re_frzN (re_bindP (rv_dItems (rv_bind (rv_var rfl) (rv_lift (y := ((List.map eI) f)) rfl))) (re_compM (e := eI) (f := fun (x1 : Int) => pAt g x1) ([.sh ((eT eI) f), .sh ((eT eI) g), .no]) rfl rfl rfl (fun x1 => ⟨[.sh ((eT eI) f), .sh ((eT eI) g), .sh (eI x1)], [.sh ((eT eI) f), .sh ((eT eI) g), .sh (eI x1)], rfl, (re_dOp2n (re_bindP (rv_rd rfl) (re_bindP (rv_var rfl) (re_bindP (rv_rd rfl) (re_lift op_atT))))), rfl, rfl⟩)))) fun c2 => (rv_lift (y := ((eT eI) c2)) rfl))) fun c3 => (rs_ret (.inl rfl)))))

def P__law_closed (maps : (List (List Int))) : M (List (List Int)) := M.bind (pfold (fun (x9 : (List Int)) (a10 : (List (List Int))) => if (!has x9 a10) = true then M.bind (pApp a10 x9) fun c12 => .ok c12 else .ok a10) maps []) fun (a13 : (List (List Int))) => M.bind (pRng 30) fun c15 => M.bind (pfold (fun (x76 : Int) (a77 : (List (List Int))) => M.bind (pfold (fun (x105 : (List Int)) (a106 : (List (List Int))) => M.bind (pfold (fun (x116 : (List Int)) (a117 : (List (List Int))) => M.bind (P__law_after x105 x116) fun c120 => if ((!has c120 a117) && (decide ((a117.length : Int) < 30))) = true then M.bind (pApp a117 c120) fun c121 => .ok c121 else .ok a117) maps a106) fun (a122 : (List (List Int))) => .ok a122) a77 a77) fun (a128 : (List (List Int))) => .ok a128) c15 a13) fun (a136 : (List (List Int))) => .ok a136
theorem S__law_closed (maps : (List (List Int))) : DM (d__law_closed [(eL (eT eI)) maps]) (P__law_closed maps) (eL (eT eI)) := fn_F rfl (show RS true (sSeq (sOwn 1 (dLst dNil)) (sSeq (sFor (.nm 2) (dItems (dVar 0)) (sIf (dTst (dOp2m opNotIn (dVar 2) 1)) (sExpr (dAppend 1 (dVar 2))) sPass)) (sSeq (sFor (.nm 3) (dRng (dC (.int 30))) (sFor (.nm 2) (dItems (dFrz (dN1n nList 1))) (sFor (.nm 4) (dItems (dVar 0)) (sSeq (sSet 5 (dCall d__law_after (dCons (dVar 2) (dCons (dVar 4) dNil)))) (sIf (dAnd (dTst (dOp2m opNotIn (dVar 5) 1)) (dTst (dOp2 opLt (dOp1n opLen 1) (dC (.int 30))))) (sExpr (dAppend 1 (dVar 5))) sPass))))) (sRet (dVar 1))))) [.sh ((eL (eT eI)) maps), .no, .no, .no, .no, .no] (P__law_closed maps) (Kfn (eL (eT eI))) from
  (rs_bindP (rv_dLst (rv_nil (rv_lift (y := ((List.map eI) [])) (op_lst (by exact Nat.le_of_ble_eq_true rfl) rfl)))) (rs_put (st1 := [.sh ((eL (eT eI)) maps), .ow (List.map eI []), .no, .no, .no, .no]) rfl (rs_bindP (rv_dItems (rv_bind (rv_var rfl) (rv_lift (y := ((List.map (eT eI)) maps)) rfl))) (rs_for0 (e := (eT eI)) (xs := maps) (a := []) (f := fun (x9 : (List Int)) (a10 : (List (List Int))) => if (!has x9 a10) = true then M.bind (pApp a10 x9) fun c12 => .ok c12 else .ok a10) (fun (a146 : (List (List Int))) (st : DSt) => ∃ (j147 : (Option D)), st = [.sh ((eL (eT eI)) maps), .ow (List.map (eT eI) a146), jk j147, .no, .no, .no]) ⟨none, rfl⟩ (fun | x9, a10, _, ⟨j11, rfl⟩ => ⟨[.sh ((eL (eT eI)) maps), .ow (List.map (eT eI) a10), .sh ((eT eI) x9), .no, .no, .no], rfl, (rs_last (rs_bindP (rv_tst (rv_dOp2m (rv_bind (rv_var rfl) (rv_bind (rv_rdO rfl) (rv_lift (ninL_ (in_py (x := x9) (xs := a10) (pyT pyI)).1)))))) (rs_ite (fun _ => (rs_x (x_appP (e := (eT eI)) (xs := a10) rfl (rv_var rfl) rfl) fun c12 => rs_st ([.sh ((eL (eT eI)) maps), .ow (List.map (eT eI) c12), .sh ((eT eI) x9), .no, .no, .no]) rfl (rs_end ⟨rfl, (some ((eT eI) x9)), rfl⟩))) (fun _ => (rs_nx (rs_end ⟨rfl, (some ((eT eI) x9)), rfl⟩))))))⟩) (fun | a13, _, ⟨j14, rfl⟩ => (rs_bindG (re_dRng (re_bindP rv_ret (re_lift op_rng))) fun c15 => (rs_for0 (e := eI) (xs := c15) (a := a13) (f := fun (x76 : Int) (a77 : (List (List Int))) => M.bind (pfold (fun (x105 : (List Int)) (a106 : (List (List Int))) => M.bind (pfold (fun (x116 : (List Int)) (a117 : (List (List Int))) => M.bind (P__law_after x105 x116) fun c120 => if ((!has c120 a117) && (decide ((a117.length : Int) < 30))) = true then M.bind (pApp a117 c120) fun c121 => .ok c121 else .ok a117) maps a106) fun (a122 : (List (List Int))) => .ok a122) a77 a77) fun (a128 : (List (List Int))) => .ok a128) (fun (a141 : (List (List Int))) (st : DSt) => ∃ (j142 : (Option D)), ∃ (j143 : (Option D)), ∃ (j144 : (Option D)), ∃ (j145 : (Option D)), st = [.sh ((eL (eT eI)) maps), .ow (List.map (eT eI) a141), jk j142, jk j143, jk j144, jk j145]) ⟨j14, none, none, none, rfl⟩ (fun | x76, a77, _, ⟨j78, j79, j80, j81, rfl⟩ => ⟨[.sh ((eL (eT eI)) maps), .ow (List.map (eT eI) a77), jk j78, .sh (eI x76), jk j80, jk j81], rfl, (rs_last (rs_bindP (rv_dItems (rv_bind (rv_frzN (d := ((eL (eT eI)) a77)) (rv_dN1n (rv_bind (rv_rdO rfl) (rv_lift (y := ((List.map (eT eI)) a77)) rfl))) rfl) (rv_lift (y := ((List.map (eT eI)) a77)) rfl))) (rs_for0 (e := (eT eI)) (xs := a77) (a := a77) (f := fun (x105 : (List Int)) (a106 : (List (List Int))) => M.bind (pfold (fun (x116 : (List Int)) (a117 : (List (List Int))) => M.bind (P__law_after x105 x116) fun c120 => if ((!has c120 a117) && (decide ((a117.length : Int) < 30))) = true then M.bind (pApp a117 c120) fun c121 => .ok c121 else .ok a117) maps a106) fun (a122 : (List (List Int))) => .ok a122) (fun (a132 : (List (List Int))) (st : DSt) => ∃ (j133 : (Option D)), ∃ (j134 : (Option D)), ∃ (j135 : (Option D)), st = [.sh ((eL (eT eI)) maps), .ow (List.map (eT eI) a132), jk j133, .sh (eI x76), jk j134, jk j135]) ⟨j78, j80, j81, rfl⟩ (fun | x105, a106, _, ⟨j107, j108, j109, rfl⟩ => ⟨[.sh ((eL (eT eI)) maps), .ow (List.map (eT eI) a106), .sh ((eT eI) x105), .sh (eI x76), jk j108, jk j109], rfl, (rs_last (rs_bindP (rv_dItems (rv_bind (rv_var rfl) (rv_lift (y := ((List.map (eT eI)) maps)) rfl))) (rs_for0 (e := (eT eI)) (xs := maps) (a := a106) (f := fun (x116 : (List Int)) (a117 : (List (List Int))) => M.bind (P__law_after x105 x116) fun c120 => if ((!has c120 a117) && (decide ((a117.length : Int) < 30))) = true then M.bind (pApp a117 c120) fun c121 => .ok c121 else .ok a117) (fun (a125 : (List (List Int))) (st : DSt) => ∃ (j126 : (Option D)), ∃ (j127 : (Option D)), st = [.sh ((eL (eT eI)) maps), .ow (List.map (eT eI) a125), .sh ((eT eI) x105), .sh (eI x76), jk j126, jk j127]) ⟨j108, j109, rfl⟩ (fun | x116, a117, _, ⟨j118, j119, rfl⟩ => ⟨[.sh ((eL (eT eI)) maps), .ow (List.map (eT eI) a117), .sh ((eT eI) x105), .sh (eI x76), .sh ((eT eI) x116), jk j119], rfl, (rs_bindG (re_dCall (re_consP (rv_var rfl) (re_consP (rv_var rfl) (re_nil (re_liftM (S__law_after x105 x116)))))) fun c120 => (rs_put (st1 := [.sh ((eL (eT eI)) maps), .ow (List.map (eT eI) a117), .sh ((eT eI) x105), .sh (eI x76), .sh ((eT eI) x116), .sh ((eT eI) c120)]) rfl (rs_last (rs_bindP (rv_dAnd (rv_bind (rv_tst (rv_dOp2m (rv_bind (rv_var rfl) (rv_bind (rv_rdO rfl) (rv_lift (ninL_ (in_py (x := c120) (xs := a117) (pyT pyI)).1)))))) (rv_and fun _ => (rv_tst (rv_dOp2 (rv_bind (rv_dOp1n (rv_bind (rv_rdO rfl) (rv_lift op_lenL))) (rv_bind rv_ret (rv_lift (y := (eB (decide ((a117.length : Int) < 30)))) rfl)))))))) (rs_ite (fun _ => (rs_x (x_appP (e := (eT eI)) (xs := a117) rfl (rv_var rfl) rfl) fun c121 => rs_st ([.sh ((eL (eT eI)) maps), .ow (List.map (eT eI) c121), .sh ((eT eI) x105), .sh (eI x76), .sh ((eT eI) x116), .sh ((eT eI) c120)]) rfl (rs_end ⟨rfl, (some ((eT eI) x116)), (some ((eT eI) c120)), rfl⟩))) (fun _ => (rs_nx (rs_end ⟨rfl, (some ((eT eI) x116)), (some ((eT eI) c120)), rfl⟩))))))))⟩) (fun | a122, _, ⟨j123, j124, rfl⟩ => (rs_end ⟨rfl, (some ((eT eI) x105)), j123, j124, rfl⟩)))))⟩) (fun | a128, _, ⟨j129, j130, j131, rfl⟩ => (rs_end ⟨rfl, j129, (some (eI x76)), j130, j131, rfl⟩)))))⟩) (fun | a136, _, ⟨j137, j138, j139, j140, rfl⟩ => (rs_last (rs_bindP (rv_frz rfl) (rs_ret (.inl rfl)))))))))))))

def P__law_of_maps (state_here : (List Int)) (most : Int) : M ((List (List Int)) × (List Int)) := M.bind (M.bind (P__law_take state_here 2) fun c3 => .ok ((2 + c3.1), c3.2)) fun c4 => M.bind (M.bind (M.bind (P__law_take c4.2 2) fun c8 => .ok ((1 + c8.1), c8.2)) fun c9 => M.bind (pRng c9.1) fun c10 => .ok (c10, c9.2)) fun c11 => M.bind (pfold (fun (x35 : Int) (a36 : ((List Int) × (List (List Int)))) => M.bind (M.bind (pRng c4.1) fun c38 => pMapS (fun (x39 : Int) (r40 : List Int) => P__law_take r40 c4.1) c38 a36.1) fun c43 => M.bind (pApp a36.2 c43.1) fun c44 => .ok (c43.2, c44)) c11.1 (c11.2, [])) fun (a46 : ((List Int) × (List (List Int)))) => M.bind (P__law_closed a46.2) fun c48 => M.bind (if (decide ((c48.length : Int) > most)) = true then M.bind (P__law_closed (cutD a46.2 none (some 1))) fun c50 => .ok c50 else .ok c48 : M (List (List Int))) fun (a51 : (List (List Int))) => M.bind (if (decide ((a51.length : Int) > most)) = true then M.bind (M.bind (M.bind (pRng c4.1) fun c58 => pMap (fun (x59 : Int) => M.bind (pAt a46.2 0) fun c60 => pAt c60 0) c58) fun c62 => .ok [c62]) fun c63 => .ok c63 else .ok a51 : M (List (List Int))) fun (a64 : (List (List Int))) => M.bind (pMap (fun (x66 : (List Int)) => pMap (fun (x67 : (List Int)) => M.bind (P__law_after x66 x67) fun c68 => pIndex a64 c68) a64) a64) fun c70 => .ok (c70, a46.1)
theorem S__law_of_maps (state_here : (List Int)) (most : Int) : DR (d__law_of_maps (List.map eI state_here) [eI most]) (P__law_of_maps state_here most) (eL (eT eI)) eI := fn_R rfl (show RS false (sSeq (sSet 2 (dOp2 opAdd (dC (.int 2)) (dCallR d__law_take 0 (dCons (dC (.int 2)) dNil)))) (sSeq (sOwn 3 (dLst dNil)) (sSeq (sFor (.nm 4) (dRng (dOp2 opAdd (dC (.int 1)) (dCallR d__law_take 0 (dCons (dC (.int 2)) dNil)))) (sExpr (dAppend 3 (dOp1 opTuple (dFrz (dComp [6] (.nm 6) (dRng (dVar 2)) dYes (dCallR d__law_take 0 (dCons (dVar 2) dNil)))))))) (sSeq (sSet 5 (dCall d__law_closed (dCons (dVar 3) dNil))) (sSeq (sIf (dTst (dOp2 opGt (dOp1n opLen 5) (dVar 1))) (sSet 5 (dCall d__law_closed (dCons (dSln 3 dNoP (dPart (dC (.int 1)))) dNil))) sPass) (sSeq (sIf (dTst (dOp2 opGt (dOp1n opLen 5) (dVar 1))) (sOwn 5 (dLst (dCons (dOp1 opTuple (dFrz (dComp [6] (.nm 6) (dRng (dVar 2)) dYes (dOp2 opIx (dOp2n opIx 3 (dC (.int 0))) (dC (.int 0)))))) dNil))) sPass) (sRet (dFrz (dPre 5 (dComp [7] (.nm 7) (dItems (dVar 5)) dYes (dOp1 opTuple (dFrz (dComp [8] (.nm 8) (dItems (dVar 5)) dYes (dIndexAN 5 (dCall d__law_after (dCons (dVar 7) (dCons (dVar 8) dNil))))))))))))))))) [.rf 0 (List.map eI state_here), .sh (eI most), .no, .no, .no, .no, .no, .no, .no] (P__law_of_maps state_here most) (Kby (eL (eT eI)) eI) from
  (rs_bindS (fun (r5 : List Int) => [.rf 0 (List.map eI r5), .sh (eI most), .no, .no, .no, .no, .no, .no, .no]) (rt_dOp2 (rt_bindP rv_ret (rt_bindS (rt_dCallR (rt_bindP (rv_owR rfl) (rt_consP rv_ret (rt_nil (rt_callR (S := fun r2 => [.rf 0 (List.map eI r2), .sh (eI most), .no, .no, .no, .no, .no, .no, .no]) rfl (fun _ => rfl) (S__law_take state_here 2)))))) fun c3 => (rt_rv (v := eI) (rv_lift (y := (eI (2 + c3.1))) rfl))))) fun c4 => (rs_put (st1 := [.rf 0 (List.map eI c4.2), .sh (eI most), .sh (eI c4.1), .no, .no, .no, .no, .no, .no]) rfl (rs_bindP (rv_dLst (rv_nil (rv_lift (y := ((List.map eI) [])) (op_lst (by exact Nat.le_of_ble_eq_true rfl) rfl)))) (rs_put (st1 := [.rf 0 (List.map eI c4.2), .sh (eI most), .sh (eI c4.1), .ow (List.map eI []), .no, .no, .no, .no, .no]) rfl (rs_bindS (fun (r12 : List Int) => [.rf 0 (List.map eI r12), .sh (eI most), .sh (eI c4.1), .ow (List.map eI []), .no, .no, .no, .no, .no]) (rt_dRng (rt_bindS (rt_dOp2 (rt_bindP rv_ret (rt_bindS (rt_dCallR (rt_bindP (rv_owR rfl) (rt_consP rv_ret (rt_nil (rt_callR (S := fun r7 => [.rf 0 (List.map eI r7), .sh (eI most), .sh (eI c4.1), .ow (List.map eI []), .no, .no, .no, .no, .no]) rfl (fun _ => rfl) (S__law_take c4.2 2)))))) fun c8 => (rt_rv (v := eI) (rv_lift (y := (eI (1 + c8.1))) rfl))))) fun c9 => (rt_re (re_lift op_rng)))) fun c11 => (rs_for0 (e := eI) (xs := c11.1) (a := (c11.2, [])) (f := fun (x35 : Int) (a36 : ((List Int) × (List (List Int)))) => M.bind (M.bind (pRng c4.1) fun c38 => pMapS (fun (x39 : Int) (r40 : List Int) => P__law_take r40 c4.1) c38 a36.1) fun c43 => M.bind (pApp a36.2 c43.1) fun c44 => .ok (c43.2, c44)) (fun (a74 : ((List Int) × (List (List Int)))) (st : DSt) => ∃ (j75 : (Option D)), st = [.rf 0 (List.map eI a74.1), .sh (eI most), .sh (eI c4.1), .ow (List.map (eT eI) a74.2), jk j75, .no, .no, .no, .no]) ⟨none, rfl⟩ (fun | x35, a36, _, ⟨j37, rfl⟩ => ⟨[.rf 0 (List.map eI a36.1), .sh (eI most), .sh (eI c4.1), .ow (List.map (eT eI) a36.2), .sh (eI x35), .no, .no, .no, .no], rfl, (rs_last (rs_appS (e := (eT eI)) (xs := a36.2) (fun (r45 : List Int) => [.rf 0 (List.map eI r45), .sh (eI most), .sh (eI c4.1), .ow (List.map (eT eI) a36.2), .sh (eI x35), .no, .no, .no, .no]) rfl (rt_dOp1 (rt_tail (w := (eT eI)) (rt_frzN (rt_bindG (re_dRng (re_bindP (rv_var rfl) (re_lift op_rng))) fun c38 => (rt_comp (e := eI) (f := fun (x39 : Int) (r40 : List Int) => P__law_take r40 c4.1) (S := fun (r40 : List Int) => [.rf 0 (List.map eI r40), .sh (eI most), .sh (eI c4.1), .ow (List.map (eT eI) a36.2), .sh (eI x35), .no, .no, .no, .no]) (fun (r40 : List Int) => [.rf 0 (List.map eI r40), .sh (eI most), .sh (eI c4.1), .ow (List.map (eT eI) a36.2), .sh (eI x35), .no, .no, .no, .no]) (fun (x39 : Int) (r40 : List Int) => [.rf 0 (List.map eI r40), .sh (eI most), .sh (eI c4.1), .ow (List.map (eT eI) a36.2), .sh (eI x35), .no, .sh (eI x39), .no, .no]) (fun _ => rfl) rfl (fun _ => rfl) (fun x39 r40 => ⟨rfl, (rt_dCallR (rt_bindP (rv_owR rfl) (rt_consP (rv_var rfl) (rt_nil (rt_callR (S := fun r41 => [.rf 0 (List.map eI r41), .sh (eI most), .sh (eI c4.1), .ow (List.map (eT eI) a36.2), .sh (eI x35), .no, .sh (eI x39), .no, .no]) rfl (fun _ => rfl) (S__law_take r40 c4.1)))))), rfl⟩)))) fun c42 => (rv_lift (y := ((eT eI) c42.1)) rfl))) (fun _ => rfl) fun c43 c44 => (rs_end ⟨rfl, (some (eI x35)), rfl⟩)))⟩) (fun | a46, _, ⟨j47, rfl⟩ => (rs_bindG (re_dCall (re_consP (rv_frz rfl) (re_nil (re_liftM (S__law_closed a46.2))))) fun c48 => (rs_put (st1 := [.rf 0 (List.map eI a46.1), .sh (eI most), .sh (eI c4.1), .sh ((eL (eT eI)) a46.2), jk j47, .sh ((eL (eT eI)) c48), .no, .no, .no]) rfl (rs_bindP (rv_tst (rv_dOp2 (rv_bind (rv_dOp1n (rv_bind (rv_rd rfl) (rv_lift op_lenL))) (rv_bind (rv_var rfl) (rv_lift (y := (eB (decide ((c48.length : Int) > most)))) rfl))))) (rs_join (I := (fun (a73 : (List (List Int))) (st : DSt) => st = [.rf 0 (List.map eI a46.1), .sh (eI most), .sh (eI c4.1), .sh ((eL (eT eI)) a46.2), jk j47, .sh ((eL (eT eI)) a73), .no, .no, .no])) (rs_iteN (fun _ => (rs_last (rs_bindG (re_dCall (re_consP (rv_dSln (rv_bind (rv_rd rfl) (rv_bind rv_ret (rv_bind (rv_dPart (rv_bind rv_ret (rv_lift (y := (some 1)) rfl))) (rv_bind (rv_rd rfl) (rv_lift (op_slL (e := (eT eI)) (xs := a46.2)))))))) (re_nil (re_liftM (S__law_closed (cutD a46.2 none (some 1))))))) fun c50 => (rs_put (st1 := [.rf 0 (List.map eI a46.1), .sh (eI most), .sh (eI c4.1), .sh ((eL (eT eI)) a46.2), jk j47, .sh ((eL (eT eI)) c50), .no, .no, .no]) rfl (rs_end ⟨rfl, rfl⟩))))) (fun _ => (rs_end ⟨rfl, rfl⟩))) fun | a51, _, rfl => (rs_bindP (rv_tst (rv_dOp2 (rv_bind (rv_dOp1n (rv_bind (rv_rd rfl) (rv_lift op_lenL))) (rv_bind (rv_var rfl) (rv_lift (y := (eB (decide ((a51.length : Int) > most)))) rfl))))) (rs_join (I := (fun (a71 : (List (List Int))) (st : DSt) => ∃ (z72 : Bool), st = [.rf 0 (List.map eI a46.1), .sh (eI most), .sh (eI c4.1), .sh ((eL (eT eI)) a46.2), jk j47, fz z72 (List.map (eT eI) a71), .no, .no, .no])) (rs_iteN (fun _ => (rs_last (rs_bindG (re_dLst (re_consG (re_dOp1 (re_tail (w := (eT eI)) (re_frzN (re_bindG (re_dRng (re_bindP (rv_var rfl) (re_lift op_rng))) fun c58 => (re_compM (e := eI) (f := fun (x59 : Int) => M.bind (pAt a46.2 0) fun c60 => pAt c60 0) ([.rf 0 (List.map eI a46.1), .sh (eI most), .sh (eI c4.1), .sh ((eL (eT eI)) a46.2), jk j47, .sh ((eL (eT eI)) a51), .no, .no, .no]) rfl rfl rfl (fun x59 => ⟨[.rf 0 (List.map eI a46.1), .sh (eI most), .sh (eI c4.1), .sh ((eL (eT eI)) a46.2), jk j47, .sh ((eL (eT eI)) a51), .sh (eI x59), .no, .no], [.rf 0 (List.map eI a46.1), .sh (eI most), .sh (eI c4.1), .sh ((eL (eT eI)) a46.2), jk j47, .sh ((eL (eT eI)) a51), .sh (eI x59), .no, .no], rfl, (re_dOp2 (re_bindG (re_dOp2n (re_bindP (rv_rd rfl) (re_bindP rv_ret (re_bindP (rv_rd rfl) (re_lift op_atL))))) fun c60 => (re_bindP rv_ret (re_lift op_atT)))), rfl, rfl⟩)))) fun c61 => (rv_lift (y := ((eT eI) c61)) rfl))) fun c62 => (re_nil (re_rv (w := (List.map (eT eI))) (rv_lift (y := ((List.map (eT eI)) [c62])) (op_lst (by exact Nat.le_of_ble_eq_true rfl) rfl)))))) fun c63 => (rs_put (st1 := [.rf 0 (List.map eI a46.1), .sh (eI most), .sh (eI c4.1), .sh ((eL (eT eI)) a46.2), jk j47, .ow (List.map (eT eI) c63), .no, .no, .no]) rfl (rs_end ⟨rfl, true, rfl⟩))))) (fun _ => (rs_end ⟨rfl, false, rfl⟩))) fun | a64, _, ⟨z65, rfl⟩ => (rs_last (rs_bindG (re_frzN (re_pre (st1 := [.rf 0 (List.map eI a46.1), .sh (eI most), .sh (eI c4.1), .sh ((eL (eT eI)) a46.2), jk j47, .sh ((eL (eT eI)) a64), .no, .no, .no]) (pre_fz rfl) (re_bindP (rv_dItems (rv_bind (rv_var rfl) (rv_lift (y := ((List.map (eT eI)) a64)) rfl))) (re_compM (e := (eT eI)) (f := fun (x66 : (List Int)) => pMap (fun (x67 : (List Int)) => M.bind (P__law_after x66 x67) fun c68 => pIndex a64 c68) a64) ([.rf 0 (List.map eI a46.1), .sh (eI most), .sh (eI c4.1), .sh ((eL (eT eI)) a46.2), jk j47, .sh ((eL (eT eI)) a64), .no, .no, .no]) rfl rfl rfl (fun x66 => ⟨[.rf 0 (List.map eI a46.1), .sh (eI most), .sh (eI c4.1), .sh ((eL (eT eI)) a46.2), jk j47, .sh ((eL (eT eI)) a64), .no, .sh ((eT eI) x66), .no], [.rf 0 (List.map eI a46.1), .sh (eI most), .sh (eI c4.1), .sh ((eL (eT eI)) a46.2), jk j47, .sh ((eL (eT eI)) a64), .no, .sh ((eT eI) x66), .no], rfl, (re_dOp1 (re_tail (w := (eT eI)) (re_frzN (re_bindP (rv_dItems (rv_bind (rv_var rfl) (rv_lift (y := ((List.map (eT eI)) a64)) rfl))) (re_compM (e := (eT eI)) (f := fun (x67 : (List Int)) => M.bind (P__law_after x66 x67) fun c68 => pIndex a64 c68) ([.rf 0 (List.map eI a46.1), .sh (eI most), .sh (eI c4.1), .sh ((eL (eT eI)) a46.2), jk j47, .sh ((eL (eT eI)) a64), .no, .sh ((eT eI) x66), .no]) rfl rfl rfl (fun x67 => ⟨[.rf 0 (List.map eI a46.1), .sh (eI most), .sh (eI c4.1), .sh ((eL (eT eI)) a46.2), jk j47, .sh ((eL (eT eI)) a64), .no, .sh ((eT eI) x66), .sh ((eT eI) x67)], [.rf 0 (List.map eI a46.1), .sh (eI most), .sh (eI c4.1), .sh ((eL (eT eI)) a46.2), jk j47, .sh ((eL (eT eI)) a64), .no, .sh ((eT eI) x66), .sh ((eT eI) x67)], rfl, (re_dIndexAN (re_bindP (rv_rd rfl) (re_bindP (rv_lift rfl) (re_bindG (re_dCall (re_consP (rv_var rfl) (re_consP (rv_var rfl) (re_nil (re_liftM (S__law_after x66 x67)))))) fun c68 => (re_bindP (rv_rd rfl) (re_lift (indexA_L (ks := a64) (index_py (x := c68) (xs := a64) (pyT pyI))))))))), rfl, rfl⟩)))) fun c69 => (rv_lift (y := ((eT eI) c69)) rfl))), rfl, rfl⟩))))) fun c70 => (rs_ret ⟨.inl rfl, _, rfl⟩)))))))))))))))))

def P__law_triples (a : Int) (b : Int) (g : Int) (twist : (List (List Int))) (holes : (List (List Bool))) (zero : Bool) : M (List (List Int)) := M.bind (M.bind (pMul a b) fun c1 => pMul c1 g) fun c2 => M.bind (pRng c2) fun c3 => M.bind (pfold (fun (x228 : Int) (a229 : (List (List Int))) => M.bind (pRng c2) fun c236 => M.bind (pfold (fun (x295 : Int) (a296 : (List Int)) => M.bind (pMod x228 b) fun c301 => M.bind (M.bind (pMul g b) fun c302 => pDiv x295 c302) fun c303 => M.bind (if zero = true then M.bind (pAt holes c301) fun c304 => pAt c304 c303 else .ok false) fun c305 => if c305 = true then M.bind (pApp a296 c2) fun c306 => .ok c306 else M.bind (M.bind (M.bind (M.bind (pDiv x228 b) fun c308 => M.bind (M.bind (pAt twist c301) fun c309 => pAt c309 c303) fun c310 => .ok (c308 + c310)) fun c311 => M.bind (pDiv x295 b) fun c312 => .ok (c311 + c312)) fun c314 => pMod c314 g) fun c315 => M.bind (M.bind (M.bind (M.bind (M.bind (M.bind (M.bind (pMul g b) fun c316 => pDiv x228 c316) fun c317 => pMul c317 g) fun c318 => .ok (c318 + c315)) fun c319 => pMul c319 b) fun c320 => M.bind (pMod x295 b) fun c321 => .ok (c320 + c321)) fun c323 => pApp a296 c323) fun c322 => .ok c322) c236 []) fun (a324 : (List Int)) => M.bind (M.bind (M.bind (M.bind (pRng (if zero = true then (1 : Int) else 0)) fun c329 => pMap (fun (x330 : Int) => .ok c2) c329) fun c331 => pCat a324 c331) fun c334 => pApp a229 c334) fun c333 => .ok c333) c3 []) fun (a340 : (List (List Int))) => if zero = true then M.bind (M.bind (M.bind (pRng (c2 + 1)) fun c347 => pMap (fun (x348 : Int) => .ok c2) c347) fun c351 => pApp a340 c351) fun c350 => .ok c350 else .ok a340
theorem S__law_triples (a : Int) (b : Int) (g : Int) (twist : (List (List Int))) (holes : (List (List Bool))) (zero : Bool) : DM (d__law_triples [eI a, eI b, eI g, (eL (eL eI)) twist, (eL (eL eB)) holes, eB zero]) (P__law_triples a b g twist holes zero) (eL (eT eI)) := fn_F rfl (show RS true (sSeq (sSet 6 (dOp2 opMul (dOp2 opMul (dVar 0) (dVar 1)) (dVar 2))) (sSeq (sOwn 7 (dLst dNil)) (sSeq (sFor (.nm 8) (dRng (dVar 6)) (sSeq (sOwn 9 (dLst dNil)) (sSeq (sFor (.nm 10) (dRng (dVar 6)) (sSeq (sSet 11 (dOp2 opMod (dOp1n opInt 8) (dVar 1))) (sSeq (sSet 12 (dOp2 opDiv (dVar 10) (dOp2 opMul (dVar 2) (dVar 1)))) (sIf (dAnd (dTst (dVar 5)) (dTst (dOp2 opIx (dOp2n opIx 4 (dVar 11)) (dVar 12)))) (sExpr (dAppend 9 (dVar 6))) (sSeq (sSet 13 (dOp2 opMod (dOp1 opInt (dOp2 opAdd (dOp2 opAdd (dOp2 opDiv (dVar 8) (dVar 1)) (dOp2 opIx (dOp2n opIx 3 (dVar 11)) (dVar 12))) (dOp2 opDiv (dVar 10) (dVar 1)))) (dVar 2))) (sExpr (dAppend 9 (dOp2 opAdd (dOp2 opMul (dOp2 opAdd (dOp2 opMul (dOp2 opDiv (dVar 8) (dOp2 opMul (dVar 2) (dVar 1))) (dVar 2)) (dVar 13)) (dVar 1)) (dOp2 opMod (dOp1n opInt 10) (dVar 1)))))))))) (sExpr (dAppend 7 (dOp1 opTuple (dFrz (dN2 nAdd (dVar 9) (dFrz (dComp [14] (.nm 14) (dRng (dOp1n opInt 5)) dYes (dVar 6))))))))))) (sSeq (sIf (dTst (dVar 5)) (sExpr (dAppend 7 (dOp1 opTuple (dFrz (dComp [14] (.nm 14) (dRng (dOp2 opAdd (dVar 6) (dC (.int 1)))) dYes (dVar 6)))))) sPass) (sRet (dVar 7)))))) [.sh (eI a), .sh (eI b), .sh (eI g), .sh ((eL (eL eI)) twist), .sh ((eL (eL eB)) holes), .sh (eB zero), .no, .no, .no, .no, .no, .no, .no, .no, .no] (P__law_triples a b g twist holes zero) (Kfn (eL (eT eI))) from
  (rs_bindG (re_dOp2 (re_bindG (re_dOp2 (re_bindP (rv_var rfl) (re_bindP (rv_var rfl) (re_lift op_mul)))) fun c1 => (re_bindP (rv_var rfl) (re_lift op_mul)))) fun c2 => (rs_put (st1 := [.sh (eI a), .sh (eI b), .sh (eI g), .sh ((eL (eL eI)) twist), .sh ((eL (eL eB)) holes), .sh (eB zero), .sh (eI c2), .no, .no, .no, .no, .no, .no, .no, .no]) rfl (rs_bindP (rv_dLst (rv_nil (rv_lift (y := ((List.map eI) [])) (op_lst (by exact Nat.le_of_ble_eq_true rfl) rfl)))) (rs_put (st1 := [.sh (eI a), .sh (eI b), .sh (eI g), .sh ((eL (eL eI)) twist), .sh ((eL (eL eB)) holes), .sh (eB zero), .sh (eI c2), .ow (List.map eI []), .no, .no, .no, .no, .no, .no, .no]) rfl (rs_bindG (re_dRng (re_bindP (rv_var rfl) (re_lift op_rng))) fun c3 => (rs_for0 (e := eI) (xs := c3) (a := []) (f := fun (x228 : Int) (a229 : (List (List Int))) => M.bind (pRng c2) fun c236 => M.bind (pfold (fun (x295 : Int) (a296 : (List Int)) => M.bind (pMod x228 b) fun c301 => M.bind (M.bind (pMul g b) fun c302 => pDiv x295 c302) fun c303 => M.bind (if zero = true then M.bind (pAt holes c301) fun c304 => pAt c304 c303 else .ok false) fun c305 => if c305 = true then M.bind (pApp a296 c2) fun c306 => .ok c306 else M.bind (M.bind (M.bind (M.bind (pDiv x228 b) fun c308 => M.bind (M.bind (pAt twist c301) fun c309 => pAt c309 c303) fun c310 => .ok (c308 + c310)) fun c311 => M.bind (pDiv x295 b) fun c312 => .ok (c311 + c312)) fun c314 => pMod c314 g) fun c315 => M.bind (M.bind (M.bind (M.bind (M.bind (M.bind (M.bind (pMul g b) fun c316 => pDiv x228 c316) fun c317 => pMul c317 g) fun c318 => .ok (c318 + c315)) fun c319 => pMul c319 b) fun c320 => M.bind (pMod x295 b) fun c321 => .ok (c320 + c321)) fun c323 => pApp a296 c323) fun c322 => .ok c322) c236 []) fun (a324 : (List Int)) => M.bind (M.bind (M.bind (M.bind (pRng (if zero = true then (1 : Int) else 0)) fun c329 => pMap (fun (x330 : Int) => .ok c2) c329) fun c331 => pCat a324 c331) fun c334 => pApp a229 c334) fun c333 => .ok c333) (fun (a352 : (List (List Int))) (st : DSt) => ∃ (j353 : (Option D)), ∃ (j354 : (Option D)), ∃ (j355 : (Option D)), ∃ (j356 : (Option D)), ∃ (j357 : (Option D)), ∃ (j358 : (Option D)), st = [.sh (eI a), .sh (eI b), .sh (eI g), .sh ((eL (eL eI)) twist), .sh ((eL (eL eB)) holes), .sh (eB zero), .sh (eI c2), .ow (List.map (eT eI) a352), jk j353, jk j354, jk j355, jk j356, jk j357, jk j358, .no]) ⟨none, none, none, none, none, none, rfl⟩ (fun | x228, a229, _, ⟨j230, j231, j232, j233, j234, j235, rfl⟩ => ⟨[.sh (eI a), .sh (eI b), .sh (eI g), .sh ((eL (eL eI)) twist), .sh ((eL (eL eB)) holes), .sh (eB zero), .sh (eI c2), .ow (List.map (eT eI) a229), .sh (eI x228), jk j231, jk j232, jk j233, jk j234, jk j235, .no], rfl, (rs_bindP (rv_dLst (rv_nil (rv_lift (y := ((List.map eI) [])) (op_lst (by exact Nat.le_of_ble_eq_true rfl) rfl)))) (rs_put (st1 := [.sh (eI a), .sh (eI b), .sh (eI g), .sh ((eL (eL eI)) twist), .sh ((eL (eL eB)) holes), .sh (eB zero), .sh (eI c2), .ow (List.map (eT eI) a229), .sh (eI x228), .ow (List.map eI []), jk j232, jk j233, jk j234, jk j235, .no]) rfl (rs_bindG (re_dRng (re_bindP (rv_var rfl) (re_lift op_rng))) fun c236 => (rs_for0 (e := eI) (xs := c236) (a := []) (f := fun (x295 : Int) (a296 : (List Int)) => M.bind (pMod x228 b) fun c301 => M.bind (M.bind (pMul g b) fun c302 => pDiv x295 c302) fun c303 => M.bind (if zero = true then M.bind (pAt holes c301) fun c304 => pAt c304 c303 else .ok false) fun c305 => if c305 = true then M.bind (pApp a296 c2) fun c306 => .ok c306 else M.bind (M.bind (M.bind (M.bind (pDiv x228 b) fun c308 => M.bind (M.bind (pAt twist c301) fun c309 => pAt c309 c303) fun c310 => .ok (c308 + c310)) fun c311 => M.bind (pDiv x295 b) fun c312 => .ok (c311 + c312)) fun c314 => pMod c314 g) fun c315 => M.bind (M.bind (M.bind (M.bind (M.bind (M.bind (M.bind (pMul g b) fun c316 => pDiv x228 c316) fun c317 => pMul c317 g) fun c318 => .ok (c318 + c315)) fun c319 => pMul c319 b) fun c320 => M.bind (pMod x295 b) fun c321 => .ok (c320 + c321)) fun c323 => pApp a296 c323) fun c322 => .ok c322) (fun (a335 : (List Int)) (st : DSt) => ∃ (j336 : (Option D)), ∃ (j337 : (Option D)), ∃ (j338 : (Option D)), ∃ (j339 : (Option D)), st = [.sh (eI a), .sh (eI b), .sh (eI g), .sh ((eL (eL eI)) twist), .sh ((eL (eL eB)) holes), .sh (eB zero), .sh (eI c2), .ow (List.map (eT eI) a229), .sh (eI x228), .ow (List.map eI a335), jk j336, jk j337, jk j338, jk j339, .no]) ⟨j232, j233, j234, j235, rfl⟩ (fun | x295, a296, _, ⟨j297, j298, j299, j300, rfl⟩ => ⟨[.sh (eI a), .sh (eI b), .sh (eI g), .sh ((eL (eL eI)) twist), .sh ((eL (eL eB)) holes), .sh (eB zero), .sh (eI c2), .ow (List.map (eT eI) a229), .sh (eI x228), .ow (List.map eI a296), .sh (eI x295), jk j298, jk j299, jk j300, .no], rfl, (rs_bindG (re_dOp2 (re_bindP (rv_dOp1n (rv_bind (rv_rd rfl) (rv_lift (y := (eI x228)) rfl))) (re_bindP (rv_var rfl) (re_lift op_mod)))) fun c301 => (rs_put (st1 := [.sh (eI a), .sh (eI b), .sh (eI g), .sh ((eL (eL eI)) twist), .sh ((eL (eL eB)) holes), .sh (eB zero), .sh (eI c2), .ow (List.map (eT eI) a229), .sh (eI x228), .ow (List.map eI a296), .sh (eI x295), .sh (eI c301), jk j299, jk j300, .no]) rfl (rs_bindG (re_dOp2 (re_bindP (rv_var rfl) (re_bindG (re_dOp2 (re_bindP (rv_var rfl) (re_bindP (rv_var rfl) (re_lift op_mul)))) fun c302 => (re_lift op_div)))) fun c303 => (rs_put (st1 := [.sh (eI a), .sh (eI b), .sh (eI g), .sh ((eL (eL eI)) twist), .sh ((eL (eL eB)) holes), .sh (eB zero), .sh (eI c2), .ow (List.map (eT eI) a229), .sh (eI x228), .ow (List.map eI a296), .sh (eI x295), .sh (eI c301), .sh (eI c303), jk j300, .no]) rfl (rs_last (rs_bindG (re_dAnd (re_bindP (rv_tst (rv_var rfl)) (re_ite (fun _ => (re_tst (re_dOp2 (re_bindG (re_dOp2n (re_bindP (rv_rd rfl) (re_bindP (rv_var rfl) (re_bindP (rv_rd rfl) (re_lift op_atL))))) fun c304 => (re_bindP (rv_var rfl) (re_lift op_atL)))))) (fun _ => re_rv rv_ret)))) fun c305 => (rs_ite (fun _ => (rs_x (x_appP (e := eI) (xs := a296) rfl (rv_var rfl) rfl) fun c306 => rs_st ([.sh (eI a), .sh (eI b), .sh (eI g), .sh ((eL (eL eI)) twist), .sh ((eL (eL eB)) holes), .sh (eB zero), .sh (eI c2), .ow (List.map (eT eI) a229), .sh (eI x228), .ow (List.map eI c306), .sh (eI x295), .sh (eI c301), .sh (eI c303), jk j300, .no]) rfl (rs_end ⟨rfl, (some (eI x295)), (some (eI c301)), (some (eI c303)), j300, rfl⟩))) (fun _ => (rs_seq (rs_bindG (re_dOp2 (re_bindG (re_dOp1 (re_tail (w := eI) (re_dOp2 (re_bindG (re_dOp2 (re_bindG (re_dOp2 (re_bindP (rv_var rfl) (re_bindP (rv_var rfl) (re_lift op_div)))) fun c308 => (re_bindG (re_dOp2 (re_bindG (re_dOp2n (re_bindP (rv_rd rfl) (re_bindP (rv_var rfl) (re_bindP (rv_rd rfl) (re_lift op_atL))))) fun c309 => (re_bindP (rv_var rfl) (re_lift op_atL)))) fun c310 => (re_rv (w := eI) (rv_lift (y := (eI (c308 + c310))) rfl))))) fun c311 => (re_bindG (re_dOp2 (re_bindP (rv_var rfl) (re_bindP (rv_var rfl) (re_lift op_div)))) fun c312 => (re_rv (w := eI) (rv_lift (y := (eI (c311 + c312))) rfl))))) fun c313 => (rv_lift (y := (eI c313)) rfl))) fun c314 => (re_bindP (rv_var rfl) (re_lift op_mod)))) fun c315 => (rs_put (st1 := [.sh (eI a), .sh (eI b), .sh (eI g), .sh ((eL (eL eI)) twist), .sh ((eL (eL eB)) holes), .sh (eB zero), .sh (eI c2), .ow (List.map (eT eI) a229), .sh (eI x228), .ow (List.map eI a296), .sh (eI x295), .sh (eI c301), .sh (eI c303), .sh (eI c315), .no]) rfl (rs_x (x_appG (e := eI) (xs := a296) rfl (re_dOp2 (re_bindG (re_dOp2 (re_bindG (re_dOp2 (re_bindG (re_dOp2 (re_bindG (re_dOp2 (re_bindP (rv_var rfl) (re_bindG (re_dOp2 (re_bindP (rv_var rfl) (re_bindP (rv_var rfl) (re_lift op_mul)))) fun c316 => (re_lift op_div)))) fun c317 => (re_bindP (rv_var rfl) (re_lift op_mul)))) fun c318 => (re_bindP (rv_var rfl) (re_rv (w := eI) (rv_lift (y := (eI (c318 + c315))) rfl))))) fun c319 => (re_bindP (rv_var rfl) (re_lift op_mul)))) fun c320 => (re_bindG (re_dOp2 (re_bindP (rv_dOp1n (rv_bind (rv_rd rfl) (rv_lift (y := (eI x295)) rfl))) (re_bindP (rv_var rfl) (re_lift op_mod)))) fun c321 => (re_rv (w := eI) (rv_lift (y := (eI (c320 + c321))) rfl))))) rfl) fun c322 => rs_st ([.sh (eI a), .sh (eI b), .sh (eI g), .sh ((eL (eL eI)) twist), .sh ((eL (eL eB)) holes), .sh (eB zero), .sh (eI c2), .ow (List.map (eT eI) a229), .sh (eI x228), .ow (List.map eI c322), .sh (eI x295), .sh (eI c301), .sh (eI c303), .sh (eI c315), .no]) rfl (rs_end ⟨rfl, (some (eI x295)), (some (eI c301)), (some (eI c303)), (some (eI c315)), rfl⟩)))))))))))))⟩) (fun | a324, _, ⟨j325, j326, j327, j328, rfl⟩ => (rs_last (rs_x (x_appG (e := (eT eI)) (xs := a229) rfl (re_dOp1 (re_tail (w := (eT eI)) (re_frzN (re_dN2 (re_bindP (rv_frz rfl) (re_bindG (re_frzN (re_bindG (re_dRng (re_bindP (rv_dOp1n (rv_bind (rv_rd rfl) (rv_lift (y := (eI (if zero = true then (1 : Int) else 0))) rfl))) (re_lift op_rng))) fun c329 => (re_compM (e := eI) (f := fun (x330 : Int) => .ok c2) ([.sh (eI a), .sh (eI b), .sh (eI g), .sh ((eL (eL eI)) twist), .sh ((eL (eL eB)) holes), .sh (eB zero), .sh (eI c2), .ow (List.map (eT eI) a229), .sh (eI x228), .sh ((eL eI) a324), jk j325, jk j326, jk j327, jk j328, .no]) rfl rfl rfl (fun x330 => ⟨[.sh (eI a), .sh (eI b), .sh (eI g), .sh ((eL (eL eI)) twist), .sh ((eL (eL eB)) holes), .sh (eB zero), .sh (eI c2), .ow (List.map (eT eI) a229), .sh (eI x228), .sh ((eL eI) a324), jk j325, jk j326, jk j327, jk j328, .sh (eI x330)], [.sh (eI a), .sh (eI b), .sh (eI g), .sh ((eL (eL eI)) twist), .sh ((eL (eL eB)) holes), .sh (eB zero), .sh (eI c2), .ow (List.map (eT eI) a229), .sh (eI x228), .sh ((eL eI) a324), jk j325, jk j326, jk j327, jk j328, .sh (eI x330)], rfl, (re_rv (w := eI) (rv_var rfl)), rfl, rfl⟩)))) fun c331 => (re_lift (op_nCat (e := eI) (xs := a324) (ys := c331))))))) fun c332 => (rv_lift (y := ((eT eI) c332)) rfl))) rfl) fun c333 => rs_st ([.sh (eI a), .sh (eI b), .sh (eI g), .sh ((eL (eL eI)) twist), .sh ((eL (eL eB)) holes), .sh (eB zero), .sh (eI c2), .ow (List.map (eT eI) c333), .sh (eI x228), .sh ((eL eI) a324), jk j325, jk j326, jk j327, jk j328, .no]) rfl (rs_end ⟨rfl, (some (eI x228)), (some ((eL eI) a324)), j325, j326, j327, j328, rfl⟩))))))))⟩) (fun | a340, _, ⟨j341, j342, j343, j344, j345, j346, rfl⟩ => (rs_bindP (rv_tst (rv_var rfl)) (rs_ite (fun _ => (rs_x (x_appG (e := (eT eI)) (xs := a340) rfl (re_dOp1 (re_tail (w := (eT eI)) (re_frzN (re_bindG (re_dRng (re_bindP (rv_dOp2 (rv_bind (rv_var rfl) (rv_bind rv_ret (rv_lift (y := (eI (c2 + 1))) rfl)))) (re_lift op_rng))) fun c347 => (re_compM (e := eI) (f := fun (x348 : Int) => .ok c2) ([.sh (eI a), .sh (eI b), .sh (eI g), .sh ((eL (eL eI)) twist), .sh ((eL (eL eB)) holes), .sh (eB zero), .sh (eI c2), .ow (List.map (eT eI) a340), jk j341, jk j342, jk j343, jk j344, jk j345, jk j346, .no]) rfl rfl rfl (fun x348 => ⟨[.sh (eI a), .sh (eI b), .sh (eI g), .sh ((eL (eL eI)) twist), .sh ((eL (eL eB)) holes), .sh (eB zero), .sh (eI c2), .ow (List.map (eT eI) a340), jk j341, jk j342, jk j343, jk j344, jk j345, jk j346, .sh (eI x348)], [.sh (eI a), .sh (eI b), .sh (eI g), .sh ((eL (eL eI)) twist), .sh ((eL (eL eB)) holes), .sh (eB zero), .sh (eI c2), .ow (List.map (eT eI) a340), jk j341, jk j342, jk j343, jk j344, jk j345, jk j346, .sh (eI x348)], rfl, (re_rv (w := eI) (rv_var rfl)), rfl, rfl⟩)))) fun c349 => (rv_lift (y := ((eT eI) c349)) rfl))) rfl) fun c350 => rs_st ([.sh (eI a), .sh (eI b), .sh (eI g), .sh ((eL (eL eI)) twist), .sh ((eL (eL eB)) holes), .sh (eB zero), .sh (eI c2), .ow (List.map (eT eI) c350), jk j341, jk j342, jk j343, jk j344, jk j345, jk j346, .no]) rfl (rs_last (rs_bindP (rv_frz rfl) (rs_ret (.inl rfl)))))) (fun _ => (rs_nx (rs_last (rs_bindP (rv_frz rfl) (rs_ret (.inl rfl))))))))))))))))

def P__law_blocks (state_here : (List Int)) (most : Int) : M ((List (List Int)) × (List Int)) := M.bind (M.bind (P__law_take state_here 2) fun c3 => .ok ((1 + c3.1), c3.2)) fun c4 => M.bind (M.bind (P__law_take c4.2 2) fun c8 => .ok ((1 + c8.1), c8.2)) fun c9 => M.bind (M.bind (P__law_take c9.2 2) fun c13 => .ok ((1 + c13.1), c13.2)) fun c14 => M.bind (M.bind (M.bind (M.bind (pMul c4.1 c9.1) fun c16 => pMul c16 c14.1) fun c17 => .ok (c17 + 1)) fun c18 => .ok (decide (c18 > most))) fun c19 => M.bind (if c19 = true then .ok (1, 1, (if most < 2 then most else 2)) else .ok (c4.1, c9.1, c14.1) : M (Int × Int × Int)) fun (a20 : (Int × Int × Int)) => M.bind (M.bind (pRng a20.2.1) fun c21 => pMapS (fun (x22 : Int) (r23 : List Int) => M.bind (pRng a20.1) fun c24 => pMapS (fun (x25 : Int) (r26 : List Int) => P__law_take r26 a20.2.2) c24 r23) c21 c14.2) fun c28 => M.bind (M.bind (pRng a20.2.1) fun c30 => pMapS (fun (x31 : Int) (r32 : List Int) => M.bind (pRng a20.1) fun c33 => pMapS (fun (x34 : Int) (r35 : List Int) => M.bind (P__law_take r35 3) fun c37 => .ok ((decide (c37.1 = 0)), c37.2)) c33 r32) c30 c28.2) fun c38 => M.bind (M.bind (M.bind (P__law_take c38.2 2) fun c41 => .ok ((decide (c41.1 = 0)), c41.2)) fun c42 => if c42.1 = true then M.bind (M.bind (M.bind (pMul a20.1 a20.2.1) fun c45 => pMul c45 a20.2.2) fun c46 => .ok (decide (c46 < most))) fun z => .ok (z, c42.2) else .ok (false, c42.2)) fun c47 => M.bind (P__law_triples a20.1 a20.2.1 a20.2.2 c28.1 c38.1 c47.1) fun c49 => .ok (c49, c47.2)
theorem S__law_blocks (state_here : (List Int)) (most : Int) : DR (d__law_blocks (List.map eI state_here) [eI most]) (P__law_blocks state_here most) (eL (eT eI)) eI := fn_R rfl (show RS false (sSeq (sSet 2 (dOp2 opAdd (dC (.int 1)) (dCallR d__law_take 0 (dCons (dC (.int 2)) dNil)))) (sSeq (sSet 3 (dOp2 opAdd (dC (.int 1)) (dCallR d__law_take 0 (dCons (dC (.int 2)) dNil)))) (sSeq (sSet 4 (dOp2 opAdd (dC (.int 1)) (dCallR d__law_take 0 (dCons (dC (.int 2)) dNil)))) (sSeq (sIf (dTst (dOp2 opGt (dOp2 opAdd (dOp2 opMul (dOp2 opMul (dVar 2) (dVar 3)) (dVar 4)) (dC (.int 1))) (dVar 1))) (sAsg (.nms [2, 3, 4]) (dTup (dCons (dC (.int 1)) (dCons (dC (.int 1)) (dCons (dOp2 opMin2 (dC (.int 2)) (dVar 1)) dNil))))) sPass) (sSeq (sOwn 5 (dComp [8] (.nm 8) (dRng (dVar 3)) dYes (dFrz (dComp [9] (.nm 9) (dRng (dVar 2)) dYes (dCallR d__law_take 0 (dCons (dVar 4) dNil)))))) (sSeq (sOwn 6 (dComp [8] (.nm 8) (dRng (dVar 3)) dYes (dFrz (dComp [9] (.nm 9) (dRng (dVar 2)) dYes (dOp2 opEq (dCallR d__law_take 0 (dCons (dC (.int 3)) dNil)) (dC (.int 0))))))) (sSeq (sSet 7 (dIf (dTst (dOp2 opEq (dCallR d__law_take 0 (dCons (dC (.int 2)) dNil)) (dC (.int 0)))) (dOp2 opLt (dOp2 opMul (dOp2 opMul (dVar 2) (dVar 3)) (dVar 4)) (dVar 1)) (dC (.bl false)))) (sRet (dCall d__law_triples (dCons (dVar 2) (dCons (dVar 3) (dCons (dVar 4) (dCons (dVar 5) (dCons (dVar 6) (dCons (dVar 7) dNil))))))))))))))) [.rf 0 (List.map eI state_here), .sh (eI most), .no, .no, .no, .no, .no, .no, .no, .no] (P__law_blocks state_here most) (Kby (eL (eT eI)) eI) from
  (rs_bindS (fun (r5 : List Int) => [.rf 0 (List.map eI r5), .sh (eI most), .no, .no, .no, .no, .no, .no, .no, .no]) (rt_dOp2 (rt_bindP rv_ret (rt_bindS (rt_dCallR (rt_bindP (rv_owR rfl) (rt_consP rv_ret (rt_nil (rt_callR (S := fun r2 => [.rf 0 (List.map eI r2), .sh (eI most), .no, .no, .no, .no, .no, .no, .no, .no]) rfl (fun _ => rfl) (S__law_take state_here 2)))))) fun c3 => (rt_rv (v := eI) (rv_lift (y := (eI (1 + c3.1))) rfl))))) fun c4 => (rs_put (st1 := [.rf 0 (List.map eI c4.2), .sh (eI most), .sh (eI c4.1), .no, .no, .no, .no, .no, .no, .no]) rfl (rs_bindS (fun (r10 : List Int) => [.rf 0 (List.map eI r10), .sh (eI most), .sh (eI c4.1), .no, .no, .no, .no, .no, .no, .no]) (rt_dOp2 (rt_bindP rv_ret (rt_bindS (rt_dCallR (rt_bindP (rv_owR rfl) (rt_consP rv_ret (rt_nil (rt_callR (S := fun r7 => [.rf 0 (List.map eI r7), .sh (eI most), .sh (eI c4.1), .no, .no, .no, .no, .no, .no, .no]) rfl (fun _ => rfl) (S__law_take c4.2 2)))))) fun c8 => (rt_rv (v := eI) (rv_lift (y := (eI (1 + c8.1))) rfl))))) fun c9 => (rs_put (st1 := [.rf 0 (List.map eI c9.2), .sh (eI most), .sh (eI c4.1), .sh (eI c9.1), .no, .no, .no, .no, .no, .no]) rfl (rs_bindS (fun (r15 : List Int) => [.rf 0 (List.map eI r15), .sh (eI most), .sh (eI c4.1), .sh (eI c9.1), .no, .no, .no, .no, .no, .no]) (rt_dOp2 (rt_bindP rv_ret (rt_bindS (rt_dCallR (rt_bindP (rv_owR rfl) (rt_consP rv_ret (rt_nil (rt_callR (S := fun r12 => [.rf 0 (List.map eI r12), .sh (eI most), .sh (eI c4.1), .sh (eI c9.1), .no, .no, .no, .no, .no, .no]) rfl (fun _ => rfl) (S__law_take c9.2 2)))))) fun c13 => (rt_rv (v := eI) (rv_lift (y := (eI (1 + c13.1))) rfl))))) fun c14 => (rs_put (st1 := [.rf 0 (List.map eI c14.2), .sh (eI most), .sh (eI c4.1), .sh (eI c9.1), .sh (eI c14.1), .no, .no, .no, .no, .no]) rfl (rs_bindG (re_tst (re_dOp2 (re_bindG (re_dOp2 (re_bindG (re_dOp2 (re_bindG (re_dOp2 (re_bindP (rv_var rfl) (re_bindP (rv_var rfl) (re_lift op_mul)))) fun c16 => (re_bindP (rv_var rfl) (re_lift op_mul)))) fun c17 => (re_bindP rv_ret (re_rv (w := eI) (rv_lift (y := (eI (c17 + 1))) rfl))))) fun c18 => (re_bindP (rv_var rfl) (re_rv (w := eB) (rv_lift (y := (eB (decide (c18 > most)))) rfl)))))) fun c19 => (rs_join (I := (fun (a50 : (Int × Int × Int)) (st : DSt) => st = [.rf 0 (List.map eI c14.2), .sh (eI most), .sh (eI a50.1), .sh (eI a50.2.1), .sh (eI a50.2.2), .no, .no, .no, .no, .no])) (rs_iteN (fun _ => (rs_last (rs_bindP (rv_dTup (rv_cons rv_ret (rv_cons rv_ret (rv_cons (rv_dOp2 (rv_bind rv_ret (rv_bind (rv_var rfl) (rv_lift (y := (eI (if most < 2 then most else 2))) rfl)))) (rv_nil (rv_lift (y := ((eP3 eI eI eI) (1, 1, (if most < 2 then most else 2)))) (op_tup (by exact Nat.le_of_ble_eq_true rfl) rfl))))))) (rs_exec (st1 := [.rf 0 (List.map eI c14.2), .sh (eI most), .sh (eI 1), .sh (eI 1), .sh (eI (if most < 2 then most else 2)), .no, .no, .no, .no, .no]) rfl (rs_end ⟨rfl, rfl⟩))))) (fun _ => (rs_end ⟨rfl, rfl⟩))) fun | a20, _, rfl => (rs_bindS (fun (r29 : List Int) => [.rf 0 (List.map eI r29), .sh (eI most), .sh (eI a20.1), .sh (eI a20.2.1), .sh (eI a20.2.2), .no, .no, .no, .no, .no]) (rt_bindG (re_dRng (re_bindP (rv_var rfl) (re_lift op_rng))) fun c21 => (rt_comp (e := eI) (f := fun (x22 : Int) (r23 : List Int) => M.bind (pRng a20.1) fun c24 => pMapS (fun (x25 : Int) (r26 : List Int) => P__law_take r26 a20.2.2) c24 r23) (S := fun (r23 : List Int) => [.rf 0 (List.map eI r23), .sh (eI most), .sh (eI a20.1), .sh (eI a20.2.1), .sh (eI a20.2.2), .no, .no, .no, .no, .no]) (fun (r23 : List Int) => [.rf 0 (List.map eI r23), .sh (eI most), .sh (eI a20.1), .sh (eI a20.2.1), .sh (eI a20.2.2), .no, .no, .no, .no, .no]) (fun (x22 : Int) (r23 : List Int) => [.rf 0 (List.map eI r23), .sh (eI most), .sh (eI a20.1), .sh (eI a20.2.1), .sh (eI a20.2.2), .no, .no, .no, .sh (eI x22), .no]) (fun _ => rfl) rfl (fun _ => rfl) (fun x22 r23 => ⟨rfl, (rt_frzN (rt_bindG (re_dRng (re_bindP (rv_var rfl) (re_lift op_rng))) fun c24 => (rt_comp (e := eI) (f := fun (x25 : Int) (r26 : List Int) => P__law_take r26 a20.2.2) (S := fun (r26 : List Int) => [.rf 0 (List.map eI r26), .sh (eI most), .sh (eI a20.1), .sh (eI a20.2.1), .sh (eI a20.2.2), .no, .no, .no, .sh (eI x22), .no]) (fun (r26 : List Int) => [.rf 0 (List.map eI r26), .sh (eI most), .sh (eI a20.1), .sh (eI a20.2.1), .sh (eI a20.2.2), .no, .no, .no, .sh (eI x22), .no]) (fun (x25 : Int) (r26 : List Int) => [.rf 0 (List.map eI r26), .sh (eI most), .sh (eI a20.1), .sh (eI a20.2.1), .sh (eI a20.2.2), .no, .no, .no, .sh (eI x22), .sh (eI x25)]) (fun _ => rfl) rfl (fun _ => rfl) (fun x25 r26 => ⟨rfl, (rt_dCallR (rt_bindP (rv_owR rfl) (rt_consP (rv_var rfl) (rt_nil (rt_callR (S := fun r27 => [.rf 0 (List.map eI r27), .sh (eI most), .sh (eI a20.1), .sh (eI a20.2.1), .sh (eI a20.2.2), .no, .no, .no, .sh (eI x22), .sh (eI x25)]) rfl (fun _ => rfl) (S__law_take r26 a20.2.2)))))), rfl⟩)))), rfl⟩))) fun c28 => (rs_put (st1 := [.rf 0 (List.map eI c28.2), .sh (eI most), .sh (eI a20.1), .sh (eI a20.2.1), .sh (eI a20.2.2), .ow (List.map (eL eI) c28.1), .no, .no, .no, .no]) rfl (rs_bindS (fun (r39 : List Int) => [.rf 0 (List.map eI r39), .sh (eI most), .sh (eI a20.1), .sh (eI a20.2.1), .sh (eI a20.2.2), .ow (List.map (eL eI) c28.1), .no, .no, .no, .no]) (rt_bindG (re_dRng (re_bindP (rv_var rfl) (re_lift op_rng))) fun c30 => (rt_comp (e := eI) (f := fun (x31 : Int) (r32 : List Int) => M.bind (pRng a20.1) fun c33 => pMapS (fun (x34 : Int) (r35 : List Int) => M.bind (P__law_take r35 3) fun c37 => .ok ((decide (c37.1 = 0)), c37.2)) c33 r32) (S := fun (r32 : List Int) => [.rf 0 (List.map eI r32), .sh (eI most), .sh (eI a20.1), .sh (eI a20.2.1), .sh (eI a20.2.2), .ow (List.map (eL eI) c28.1), .no, .no, .no, .no]) (fun (r32 : List Int) => [.rf 0 (List.map eI r32), .sh (eI most), .sh (eI a20.1), .sh (eI a20.2.1), .sh (eI a20.2.2), .ow (List.map (eL eI) c28.1), .no, .no, .no, .no]) (fun (x31 : Int) (r32 : List Int) => [.rf 0 (List.map eI r32), .sh (eI most), .sh (eI a20.1), .sh (eI a20.2.1), .sh (eI a20.2.2), .ow (List.map (eL eI) c28.1), .no, .no, .sh (eI x31), .no]) (fun _ => rfl) rfl (fun _ => rfl) (fun x31 r32 => ⟨rfl, (rt_frzN (rt_bindG (re_dRng (re_bindP (rv_var rfl) (re_lift op_rng))) fun c33 => (rt_comp (e := eI) (f := fun (x34 : Int) (r35 : List Int) => M.bind (P__law_take r35 3) fun c37 => .ok ((decide (c37.1 = 0)), c37.2)) (S := fun (r35 : List Int) => [.rf 0 (List.map eI r35), .sh (eI most), .sh (eI a20.1), .sh (eI a20.2.1), .sh (eI a20.2.2), .ow (List.map (eL eI) c28.1), .no, .no, .sh (eI x31), .no]) (fun (r35 : List Int) => [.rf 0 (List.map eI r35), .sh (eI most), .sh (eI a20.1), .sh (eI a20.2.1), .sh (eI a20.2.2), .ow (List.map (eL eI) c28.1), .no, .no, .sh (eI x31), .no]) (fun (x34 : Int) (r35 : List Int) => [.rf 0 (List.map eI r35), .sh (eI most), .sh (eI a20.1), .sh (eI a20.2.1), .sh (eI a20.2.2), .ow (List.map (eL eI) c28.1), .no, .no, .sh (eI x31), .sh (eI x34)]) (fun _ => rfl) rfl (fun _ => rfl) (fun x34 r35 => ⟨rfl, (rt_dOp2 (rt_bindS (rt_dCallR (rt_bindP (rv_owR rfl) (rt_consP rv_ret (rt_nil (rt_callR (S := fun r36 => [.rf 0 (List.map eI r36), .sh (eI most), .sh (eI a20.1), .sh (eI a20.2.1), .sh (eI a20.2.2), .ow (List.map (eL eI) c28.1), .no, .no, .sh (eI x31), .sh (eI x34)]) rfl (fun _ => rfl) (S__law_take r35 3)))))) fun c37 => (rt_bindP rv_ret (rt_rv (v := eB) (rv_lift (eq_py pyI (x := c37.1) (y := 0))))))), rfl⟩)))), rfl⟩))) fun c38 => (rs_put (st1 := [.rf 0 (List.map eI c38.2), .sh (eI most), .sh (eI a20.1), .sh (eI a20.2.1), .sh (eI a20.2.2), .ow (List.map (eL eI) c28.1), .ow (List.map (eL eB) c38.1), .no, .no, .no]) rfl (rs_bindS (fun (r48 : List Int) => [.rf 0 (List.map eI r48), .sh (eI most), .sh (eI a20.1), .sh (eI a20.2.1), .sh (eI a20.2.2), .ow (List.map (eL eI) c28.1), .ow (List.map (eL eB) c38.1), .no, .no, .no]) (rt_dIf (rt_bindS (rt_tst (rt_dOp2 (rt_bindS (rt_dCallR (rt_bindP (rv_owR rfl) (rt_consP rv_ret (rt_nil (rt_callR (S := fun r40 => [.rf 0 (List.map eI r40), .sh (eI most), .sh (eI a20.1), .sh (eI a20.2.1), .sh (eI a20.2.2), .ow (List.map (eL eI) c28.1), .ow (List.map (eL eB) c38.1), .no, .no, .no]) rfl (fun _ => rfl) (S__law_take c38.2 2)))))) fun c41 => (rt_bindP rv_ret (rt_rv (v := eB) (rv_lift (eq_py pyI (x := c41.1) (y := 0)))))))) fun c42 => (rt_ite (fun _ => (rt_re (re_dOp2 (re_bindG (re_dOp2 (re_bindG (re_dOp2 (re_bindP (rv_var rfl) (re_bindP (rv_var rfl) (re_lift op_mul)))) fun c45 => (re_bindP (rv_var rfl) (re_lift op_mul)))) fun c46 => (re_bindP (rv_var rfl) (re_rv (w := eB) (rv_lift (y := (eB (decide (c46 < most)))) rfl))))))) (fun _ => (rt_rv rv_ret))))) fun c47 => (rs_put (st1 := [.rf 0 (List.map eI c47.2), .sh (eI most), .sh (eI a20.1), .sh (eI a20.2.1), .sh (eI a20.2.2), .ow (List.map (eL eI) c28.1), .ow (List.map (eL eB) c38.1), .sh (eB c47.1), .no, .no]) rfl (rs_last (rs_bindG (re_dCall (re_consP (rv_var rfl) (re_consP (rv_var rfl) (re_consP (rv_var rfl) (re_consP (rv_frz rfl) (re_consP (rv_frz rfl) (re_consP (rv_var rfl) (re_nil (re_liftM (S__law_triples a20.1 a20.2.1 a20.2.2 c28.1 c38.1 c47.1)))))))))) fun c49 => (rs_ret ⟨.inl rfl, _, rfl⟩))))))))))))))))))

def P__law_plain (state_here : (List Int)) (most : Int) : M ((List (List Int)) × (List Int)) := M.bind (P__law_take state_here 8) fun c2 => M.bind (M.bind (P__law_take c2.2 most) fun c6 => .ok ((1 + c6.1), c6.2)) fun c7 => if (decide (c2.1 = 0)) = true then M.bind (M.bind (pRng c7.1) fun c9 => pMap (fun (x10 : Int) => M.bind (pRng c7.1) fun c11 => pMap (fun (x12 : Int) => .ok x10) c11) c9) fun c14 => .ok (c14, c7.2) else if (decide (c2.1 = 1)) = true then M.bind (M.bind (pRng c7.1) fun c15 => pMap (fun (x16 : Int) => M.bind (pRng c7.1) fun c17 => pMap (fun (x18 : Int) => .ok 0) c17) c15) fun c20 => .ok (c20, c7.2) else if (decide (c2.1 = 2)) = true then M.bind (P__law_monogenic c7.2 most) fun c22 => .ok (c22.1, c22.2) else if (decide (c2.1 = 3)) = true then M.bind (M.bind (pRng c7.1) fun c24 => pMap (fun (x25 : Int) => M.bind (pRng c7.1) fun c26 => pMap (fun (x27 : Int) => .ok (if x27 < x25 then x27 else x25)) c26) c24) fun c29 => .ok (c29, c7.2) else if (decide (c2.1 < 6)) = true then M.bind (P__law_of_maps c7.2 most) fun c31 => .ok (c31.1, c31.2) else M.bind (P__law_blocks c7.2 most) fun c34 => .ok (c34.1, c34.2)
theorem S__law_plain (state_here : (List Int)) (most : Int) : DR (d__law_plain (List.map eI state_here) [eI most]) (P__law_plain state_here most) (eL (eT eI)) eI := fn_R rfl (show RS false (sSeq (sSet 2 (dCallR d__law_take 0 (dCons (dC (.int 8)) dNil))) (sSeq (sSet 3 (dOp2 opAdd (dC (.int 1)) (dCallR d__law_take 0 (dCons (dVar 1) dNil)))) (sSeq (sIf (dTst (dOp2 opEq (dVar 2) (dC (.int 0)))) (sRet (dFrz (dComp [4] (.nm 4) (dRng (dVar 3)) dYes (dOp1 opTuple (dFrz (dComp [5] (.nm 5) (dRng (dVar 3)) dYes (dVar 4))))))) sPass) (sSeq (sIf (dTst (dOp2 opEq (dVar 2) (dC (.int 1)))) (sRet (dFrz (dComp [4] (.nm 4) (dRng (dVar 3)) dYes (dOp1 opTuple (dFrz (dComp [5] (.nm 5) (dRng (dVar 3)) dYes (dC (.int 0)))))))) sPass) (sSeq (sIf (dTst (dOp2 opEq (dVar 2) (dC (.int 2)))) (sRet (dCallR d__law_monogenic 0 (dCons (dVar 1) dNil))) sPass) (sSeq (sIf (dTst (dOp2 opEq (dVar 2) (dC (.int 3)))) (sRet (dFrz (dComp [4] (.nm 4) (dRng (dVar 3)) dYes (dOp1 opTuple (dFrz (dComp [5] (.nm 5) (dRng (dVar 3)) dYes (dOp2 opMin2 (dVar 4) (dVar 5)))))))) sPass) (sSeq (sIf (dTst (dOp2 opLt (dVar 2) (dC (.int 6)))) (sRet (dCallR d__law_of_maps 0 (dCons (dVar 1) dNil))) sPass) (sRet (dCallR d__law_blocks 0 (dCons (dVar 1) dNil)))))))))) [.rf 0 (List.map eI state_here), .sh (eI most), .no, .no, .no, .no] (P__law_plain state_here most) (Kby (eL (eT eI)) eI) from
  (rs_bindS (fun (r3 : List Int) => [.rf 0 (List.map eI r3), .sh (eI most), .no, .no, .no, .no]) (rt_dCallR (rt_bindP (rv_owR rfl) (rt_consP rv_ret (rt_nil (rt_callR (S := fun r1 => [.rf 0 (List.map eI r1), .sh (eI most), .no, .no, .no, .no]) rfl (fun _ => rfl) (S__law_take state_here 8)))))) fun c2 => (rs_put (st1 := [.rf 0 (List.map eI c2.2), .sh (eI most), .sh (eI c2.1), .no, .no, .no]) rfl (rs_bindS (fun (r8 : List Int) => [.rf 0 (List.map eI r8), .sh (eI most), .sh (eI c2.1), .no, .no, .no]) (rt_dOp2 (rt_bindP rv_ret (rt_bindS (rt_dCallR (rt_bindP (rv_owR rfl) (rt_consP (rv_var rfl) (rt_nil (rt_callR (S := fun r5 => [.rf 0 (List.map eI r5), .sh (eI most), .sh (eI c2.1), .no, .no, .no]) rfl (fun _ => rfl) (S__law_take c2.2 most)))))) fun c6 => (rt_rv (v := eI) (rv_lift (y := (eI (1 + c6.1))) rfl))))) fun c7 => (rs_put (st1 := [.rf 0 (List.map eI c7.2), .sh (eI most), .sh (eI c2.1), .sh (eI c7.1), .no, .no]) rfl (rs_bindP (rv_tst (rv_dOp2 (rv_bind (rv_var rfl) (rv_bind rv_ret (rv_lift (eq_py pyI (x := c2.1) (y := 0))))))) (rs_ite (fun _ => (rs_bindG (re_frzN (re_bindG (re_dRng (re_bindP (rv_var rfl) (re_lift op_rng))) fun c9 => (re_compM (e := eI) (f := fun (x10 : Int) => M.bind (pRng c7.1) fun c11 => pMap (fun (x12 : Int) => .ok x10) c11) ([.rf 0 (List.map eI c7.2), .sh (eI most), .sh (eI c2.1), .sh (eI c7.1), .no, .no]) rfl rfl rfl (fun x10 => ⟨[.rf 0 (List.map eI c7.2), .sh (eI most), .sh (eI c2.1), .sh (eI c7.1), .sh (eI x10), .no], [.rf 0 (List.map eI c7.2), .sh (eI most), .sh (eI c2.1), .sh (eI c7.1), .sh (eI x10), .no], rfl, (re_dOp1 (re_tail (w := (eT eI)) (re_frzN (re_bindG (re_dRng (re_bindP (rv_var rfl) (re_lift op_rng))) fun c11 => (re_compM (e := eI) (f := fun (x12 : Int) => .ok x10) ([.rf 0 (List.map eI c7.2), .sh (eI most), .sh (eI c2.1), .sh (eI c7.1), .sh (eI x10), .no]) rfl rfl rfl (fun x12 => ⟨[.rf 0 (List.map eI c7.2), .sh (eI most), .sh (eI c2.1), .sh (eI c7.1), .sh (eI x10), .sh (eI x12)], [.rf 0 (List.map eI c7.2), .sh (eI most), .sh (eI c2.1), .sh (eI c7.1), .sh (eI x10), .sh (eI x12)], rfl, (re_rv (w := eI) (rv_var rfl)), rfl, rfl⟩)))) fun c13 => (rv_lift (y := ((eT eI) c13)) rfl))), rfl, rfl⟩)))) fun c14 => (rs_ret ⟨.inl rfl, _, rfl⟩))) (fun _ => (rs_nx (rs_bindP (rv_tst (rv_dOp2 (rv_bind (rv_var rfl) (rv_bind rv_ret (rv_lift (eq_py pyI (x := c2.1) (y := 1))))))) (rs_ite (fun _ => (rs_bindG (re_frzN (re_bindG (re_dRng (re_bindP (rv_var rfl) (re_lift op_rng))) fun c15 => (re_compM (e := eI) (f := fun (x16 : Int) => M.bind (pRng c7.1) fun c17 => pMap (fun (x18 : Int) => .ok 0) c17) ([.rf 0 (List.map eI c7.2), .sh (eI most), .sh (eI c2.1), .sh (eI c7.1), .no, .no]) rfl rfl rfl (fun x16 => ⟨[.rf 0 (List.map eI c7.2), .sh (eI most), .sh (eI c2.1), .sh (eI c7.1), .sh (eI x16), .no], [.rf 0 (List.map eI c7.2), .sh (eI most), .sh (eI c2.1), .sh (eI c7.1), .sh (eI x16), .no], rfl, (re_dOp1 (re_tail (w := (eT eI)) (re_frzN (re_bindG (re_dRng (re_bindP (rv_var rfl) (re_lift op_rng))) fun c17 => (re_compM (e := eI) (f := fun (x18 : Int) => .ok 0) ([.rf 0 (List.map eI c7.2), .sh (eI most), .sh (eI c2.1), .sh (eI c7.1), .sh (eI x16), .no]) rfl rfl rfl (fun x18 => ⟨[.rf 0 (List.map eI c7.2), .sh (eI most), .sh (eI c2.1), .sh (eI c7.1), .sh (eI x16), .sh (eI x18)], [.rf 0 (List.map eI c7.2), .sh (eI most), .sh (eI c2.1), .sh (eI c7.1), .sh (eI x16), .sh (eI x18)], rfl, (re_rv (w := eI) rv_ret), rfl, rfl⟩)))) fun c19 => (rv_lift (y := ((eT eI) c19)) rfl))), rfl, rfl⟩)))) fun c20 => (rs_ret ⟨.inl rfl, _, rfl⟩))) (fun _ => (rs_nx (rs_bindP (rv_tst (rv_dOp2 (rv_bind (rv_var rfl) (rv_bind rv_ret (rv_lift (eq_py pyI (x := c2.1) (y := 2))))))) (rs_ite (fun _ => (rs_bindS (fun (r23 : List Int) => [.rf 0 (List.map eI r23), .sh (eI most), .sh (eI c2.1), .sh (eI c7.1), .no, .no]) (rt_dCallR (rt_bindP (rv_owR rfl) (rt_consP (rv_var rfl) (rt_nil (rt_callR (S := fun r21 => [.rf 0 (List.map eI r21), .sh (eI most), .sh (eI c2.1), .sh (eI c7.1), .no, .no]) rfl (fun _ => rfl) (S__law_monogenic c7.2 most)))))) fun c22 => (rs_ret ⟨.inl rfl, _, rfl⟩))) (fun _ => (rs_nx (rs_bindP (rv_tst (rv_dOp2 (rv_bind (rv_var rfl) (rv_bind rv_ret (rv_lift (eq_py pyI (x := c2.1) (y := 3))))))) (rs_ite (fun _ => (rs_bindG (re_frzN (re_bindG (re_dRng (re_bindP (rv_var rfl) (re_lift op_rng))) fun c24 => (re_compM (e := eI) (f := fun (x25 : Int) => M.bind (pRng c7.1) fun c26 => pMap (fun (x27 : Int) => .ok (if x27 < x25 then x27 else x25)) c26) ([.rf 0 (List.map eI c7.2), .sh (eI most), .sh (eI c2.1), .sh (eI c7.1), .no, .no]) rfl rfl rfl (fun x25 => ⟨[.rf 0 (List.map eI c7.2), .sh (eI most), .sh (eI c2.1), .sh (eI c7.1), .sh (eI x25), .no], [.rf 0 (List.map eI c7.2), .sh (eI most), .sh (eI c2.1), .sh (eI c7.1), .sh (eI x25), .no], rfl, (re_dOp1 (re_tail (w := (eT eI)) (re_frzN (re_bindG (re_dRng (re_bindP (rv_var rfl) (re_lift op_rng))) fun c26 => (re_compM (e := eI) (f := fun (x27 : Int) => .ok (if x27 < x25 then x27 else x25)) ([.rf 0 (List.map eI c7.2), .sh (eI most), .sh (eI c2.1), .sh (eI c7.1), .sh (eI x25), .no]) rfl rfl rfl (fun x27 => ⟨[.rf 0 (List.map eI c7.2), .sh (eI most), .sh (eI c2.1), .sh (eI c7.1), .sh (eI x25), .sh (eI x27)], [.rf 0 (List.map eI c7.2), .sh (eI most), .sh (eI c2.1), .sh (eI c7.1), .sh (eI x25), .sh (eI x27)], rfl, (re_rv (w := eI) (rv_dOp2 (rv_bind (rv_var rfl) (rv_bind (rv_var rfl) (rv_lift (y := (eI (if x27 < x25 then x27 else x25))) rfl))))), rfl, rfl⟩)))) fun c28 => (rv_lift (y := ((eT eI) c28)) rfl))), rfl, rfl⟩)))) fun c29 => (rs_ret ⟨.inl rfl, _, rfl⟩))) (fun _ => (rs_nx (rs_bindP (rv_tst (rv_dOp2 (rv_bind (rv_var rfl) (rv_bind rv_ret (rv_lift (y := (eB (decide (c2.1 < 6)))) rfl))))) (rs_ite (fun _ => (rs_bindS (fun (r32 : List Int) => [.rf 0 (List.map eI r32), .sh (eI most), .sh (eI c2.1), .sh (eI c7.1), .no, .no]) (rt_dCallR (rt_bindP (rv_owR rfl) (rt_consP (rv_var rfl) (rt_nil (rt_callR (S := fun r30 => [.rf 0 (List.map eI r30), .sh (eI most), .sh (eI c2.1), .sh (eI c7.1), .no, .no]) rfl (fun _ => rfl) (S__law_of_maps c7.2 most)))))) fun c31 => (rs_ret ⟨.inl rfl, _, rfl⟩))) (fun _ => (rs_nx (rs_last (rs_bindS (fun (r35 : List Int) => [.rf 0 (List.map eI r35), .sh (eI most), .sh (eI c2.1), .sh (eI c7.1), .no, .no]) (rt_dCallR (rt_bindP (rv_owR rfl) (rt_consP (rv_var rfl) (rt_nil (rt_callR (S := fun r33 => [.rf 0 (List.map eI r33), .sh (eI most), .sh (eI c2.1), .sh (eI c7.1), .no, .no]) rfl (fun _ => rfl) (S__law_blocks c7.2 most)))))) fun c34 => (rs_ret ⟨.inl rfl, _, rfl⟩))))))))))))))))))))))))))))

def P__law_extended (state_here : (List Int)) (table : (List (List Int))) (most : Int) : M ((List (List Int)) × (List Int)) := M.bind (P__law_take state_here 6) fun c2 => if (decide (c2.1 = 0)) = true then M.bind (M.bind (pRng (table.length : Int)) fun c4 => pMap (fun (x5 : Int) => M.bind (pRng (table.length : Int)) fun c6 => pMap (fun (x7 : Int) => M.bind (pAt table x7) fun c8 => pAt c8 x5) c6) c4) fun c10 => .ok (c10, c2.2) else if ((decide (c2.1 = 1)) && (decide ((table.length : Int) < most))) = true then M.bind (M.bind (pMap (fun (x11 : (List Int)) => pCat x11 [(table.length : Int)]) table) fun c12 => M.bind (M.bind (M.bind (pRng ((table.length : Int) + 1)) fun c13 => pMap (fun (x14 : Int) => .ok (table.length : Int)) c13) fun c16 => .ok [c16]) fun c17 => pCat c12 c17) fun c18 => .ok (c18, c2.2) else if ((decide (c2.1 = 2)) && (decide ((table.length : Int) < most))) = true then M.bind (M.bind (M.bind (pRng (table.length : Int)) fun c19 => pMap (fun (x20 : Int) => M.bind (pAt table x20) fun c21 => pCat c21 [x20]) c19) fun c22 => M.bind (M.bind (pRng ((table.length : Int) + 1)) fun c23 => .ok [c23]) fun c24 => pCat c22 c24) fun c25 => .ok (c25, c2.2) else M.bind (if (decide (c2.1 = 3)) = true then M.bind (pMul 2 (table.length : Int)) fun c26 => .ok (decide (c26 ≤ most)) else .ok false) fun c27 => if c27 = true then M.bind (M.bind (P__law_take c2.2 2) fun c29 => .ok ((decide (c29.1 = 0)), c29.2)) fun c30 => M.bind (if c30.1 = true then .ok [(0, 1), (1, 0)] else .ok [(0, 0), (0, 1)] : M (List (Int × Int))) fun (a32 : (List (Int × Int))) => M.bind (M.bind (M.bind (pMul 2 (table.length : Int)) fun c33 => pRng c33) fun c34 => pMap (fun (x35 : Int) => M.bind (M.bind (pMul 2 (table.length : Int)) fun c36 => pRng c36) fun c37 => pMap (fun (x38 : Int) => M.bind (M.bind (M.bind (M.bind (pDiv x35 2) fun c42 => pAt table c42) fun c43 => M.bind (pDiv x38 2) fun c44 => pAt c43 c44) fun c45 => pMul 2 c45) fun c49 => M.bind (M.bind (M.bind (pMod x35 2) fun c50 => pAt a32 c50) fun c51 => M.bind (pMod x38 2) fun c52 => pAt [c51.1, c51.2] c52) fun c53 => .ok (c49 + c53)) c37) c34) fun c55 => .ok (c55, c30.2) else .ok (table, c2.2)
theorem S__law_extended (state_here : (List Int)) (table : (List (List Int))) (most : Int) : DR (d__law_extended (List.map eI state_here) [(eL (eT eI)) table, eI most]) (P__law_extended state_here table most) (eL (eT eI)) eI := fn_R rfl (show RS false (sSeq (sSet 3 (dOp1n opLen 1)) (sSeq (sSet 4 (dCallR d__law_take 0 (dCons (dC (.int 6)) dNil))) (sSeq (sIf (dTst (dOp2 opEq (dVar 4) (dC (.int 0)))) (sRet (dFrz (dComp [6] (.nm 6) (dRng (dVar 3)) dYes (dOp1 opTuple (dFrz (dComp [7] (.nm 7) (dRng (dVar 3)) dYes (dOp2 opIx (dOp2n opIx 1 (dVar 7)) (dVar 6)))))))) sPass) (sSeq (sIf (dAnd (dTst (dOp2 opEq (dVar 4) (dC (.int 1)))) (dTst (dOp2 opLt (dVar 3) (dVar 2)))) (sRet (dFrz (dN2 nAdd (dFrz (dComp [8] (.nm 8) (dItems (dVar 1)) dYes (dOp2 opAdd (dVar 8) (dTup (dCons (dVar 3) dNil))))) (dFrz (dLst (dCons (dOp1 opTuple (dFrz (dComp [7] (.nm 7) (dRng (dOp2 opAdd (dVar 3) (dC (.int 1)))) dYes (dVar 3)))) dNil)))))) sPass) (sSeq (sIf (dAnd (dTst (dOp2 opEq (dVar 4) (dC (.int 2)))) (dTst (dOp2 opLt (dVar 3) (dVar 2)))) (sRet (dFrz (dN2 nAdd (dFrz (dComp [6] (.nm 6) (dRng (dVar 3)) dYes (dOp2 opAdd (dOp2n opIx 1 (dVar 6)) (dTup (dCons (dVar 6) dNil))))) (dFrz (dLst (dCons (dTupRg (dRg1 (dOp2 opAdd (dVar 3) (dC (.int 1))))) dNil)))))) sPass) (sSeq (sIf (dAnd (dTst (dOp2 opEq (dVar 4) (dC (.int 3)))) (dTst (dOp2 opLe (dOp2 opMul (dC (.int 2)) (dVar 3)) (dVar 2)))) (sSeq (sOwn 5 (dLst (dCons (dTup (dCons (dC (.int 0)) (dCons (dC (.int 0)) dNil))) (dCons (dTup (dCons (dC (.int 0)) (dCons (dC (.int 1)) dNil))) dNil)))) (sSeq (sIf (dTst (dOp2 opEq (dCallR d__law_take 0 (dCons (dC (.int 2)) dNil)) (dC (.int 0)))) (sOwn 5 (dLst (dCons (dTup (dCons (dC (.int 0)) (dCons (dC (.int 1)) dNil))) (dCons (dTup (dCons (dC (.int 1)) (dCons (dC (.int 0)) dNil))) dNil)))) sPass) (sRet (dFrz (dComp [6] (.nm 6) (dRng (dOp2 opMul (dC (.int 2)) (dVar 3))) dYes (dOp1 opTuple (dFrz (dComp [7] (.nm 7) (dRng (dOp2 opMul (dC (.int 2)) (dVar 3))) dYes (dOp2 opAdd (dOp2 opMul (dC (.int 2)) (dOp2 opIx (dOp2n opIx 1 (dOp2 opDiv (dVar 6) (dC (.int 2)))) (dOp2 opDiv (dVar 7) (dC (.int 2))))) (dOp2 opIx (dOp2n opIx 5 (dOp2 opMod (dOp1n opInt 6) (dC (.int 2)))) (dOp2 opMod (dOp1n opInt 7) (dC (.int 2))))))))))))) sPass) (sRet (dVar 1)))))))) [.rf 0 (List.map eI state_here), .sh ((eL (eT eI)) table), .sh (eI most), .no, .no, .no, .no, .no, .no] (P__law_extended state_here table most) (Kby (eL (eT eI)) eI) from
  (rs_bindP (rv_dOp1n (rv_bind (rv_rd rfl) (rv_lift op_lenL))) (rs_put (st1 := [.rf 0 (List.map eI state_here), .sh ((eL (eT eI)) table), .sh (eI most), .sh (eI (table.length : Int)), .no, .no, .no, .no, .no]) rfl (rs_bindS (fun (r3 : List Int) => [.rf 0 (List.map eI r3), .sh ((eL (eT eI)) table), .sh (eI most), .sh (eI (table.length : Int)), .no, .no, .no, .no, .no]) (rt_dCallR (rt_bindP (rv_owR rfl) (rt_consP rv_ret (rt_nil (rt_callR (S := fun r1 => [.rf 0 (List.map eI r1), .sh ((eL (eT eI)) table), .sh (eI most), .sh (eI (table.length : Int)), .no, .no, .no, .no, .no]) rfl (fun _ => rfl) (S__law_take state_here 6)))))) fun c2 => (rs_put (st1 := [.rf 0 (List.map eI c2.2), .sh ((eL (eT eI)) table), .sh (eI most), .sh (eI (table.length : Int)), .sh (eI c2.1), .no, .no, .no, .no]) rfl (rs_bindP (rv_tst (rv_dOp2 (rv_bind (rv_var rfl) (rv_bind rv_ret (rv_lift (eq_py pyI (x := c2.1) (y := 0))))))) (rs_ite (fun _ => (rs_bindG (re_frzN (re_bindG (re_dRng (re_bindP (rv_var rfl) (re_lift op_rng))) fun c4 => (re_compM (e := eI) (f := fun (x5 : Int) => M.bind (pRng (table.length : Int)) fun c6 => pMap (fun (x7 : Int) => M.bind (pAt table x7) fun c8 => pAt c8 x5) c6) ([.rf 0 (List.map eI c2.2), .sh ((eL (eT eI)) table), .sh (eI most), .sh (eI (table.length : Int)), .sh (eI c2.1), .no, .no, .no, .no]) rfl rfl rfl (fun x5 => ⟨[.rf 0 (List.map eI c2.2), .sh ((eL (eT eI)) table), .sh (eI most), .sh (eI (table.length : Int)), .sh (eI c2.1), .no, .sh (eI x5), .no, .no], [.rf 0 (List.map eI c2.2), .sh ((eL (eT eI)) table), .sh (eI most), .sh (eI (table.length : Int)), .sh (eI c2.1), .no, .sh (eI x5), .no, .no], rfl, (re_dOp1 (re_tail (w := (eT eI)) (re_frzN (re_bindG (re_dRng (re_bindP (rv_var rfl) (re_lift op_rng))) fun c6 => (re_compM (e := eI) (f := fun (x7 : Int) => M.bind (pAt table x7) fun c8 => pAt c8 x5) ([.rf 0 (List.map eI c2.2), .sh ((eL (eT eI)) table), .sh (eI most), .sh (eI (table.length : Int)), .sh (eI c2.1), .no, .sh (eI x5), .no, .no]) rfl rfl rfl (fun x7 => ⟨[.rf 0 (List.map eI c2.2), .sh ((eL (eT eI)) table), .sh (eI most), .sh (eI (table.length : Int)), .sh (eI c2.1), .no, .sh (eI x5), .sh (eI x7), .no], [.rf 0 (List.map eI c2.2), .sh ((eL (eT eI)) table), .sh (eI most), .sh (eI (table.length : Int)), .sh (eI c2.1), .no, .sh (eI x5), .sh (eI x7), .no], rfl, (re_dOp2 (re_bindG (re_dOp2n (re_bindP (rv_rd rfl) (re_bindP (rv_var rfl) (re_bindP (rv_rd rfl) (re_lift op_atL))))) fun c8 => (re_bindP (rv_var rfl) (re_lift op_atT)))), rfl, rfl⟩)))) fun c9 => (rv_lift (y := ((eT eI) c9)) rfl))), rfl, rfl⟩)))) fun c10 => (rs_ret ⟨.inl rfl, _, rfl⟩))) (fun _ => (rs_nx (rs_bindP (rv_dAnd (rv_bind (rv_tst (rv_dOp2 (rv_bind (rv_var rfl) (rv_bind rv_ret (rv_lift (eq_py pyI (x := c2.1) (y := 1))))))) (rv_and fun _ => (rv_tst (rv_dOp2 (rv_bind (rv_var rfl) (rv_bind (rv_var rfl) (rv_lift (y := (eB (decide ((table.length : Int) < most)))) rfl)))))))) (rs_ite (fun _ => (rs_bindG (re_frzN (re_dN2 (re_bindG (re_frzN (re_bindP (rv_dItems (rv_bind (rv_var rfl) (rv_lift (y := ((List.map (eT eI)) table)) rfl))) (re_compM (e := (eT eI)) (f := fun (x11 : (List Int)) => pCat x11 [(table.length : Int)]) ([.rf 0 (List.map eI c2.2), .sh ((eL (eT eI)) table), .sh (eI most), .sh (eI (table.length : Int)), .sh (eI c2.1), .no, .no, .no, .no]) rfl rfl rfl (fun x11 => ⟨[.rf 0 (List.map eI c2.2), .sh ((eL (eT eI)) table), .sh (eI most), .sh (eI (table.length : Int)), .sh (eI c2.1), .no, .no, .no, .sh ((eT eI) x11)], [.rf 0 (List.map eI c2.2), .sh ((eL (eT eI)) table), .sh (eI most), .sh (eI (table.length : Int)), .sh (eI c2.1), .no, .no, .no, .sh ((eT eI) x11)], rfl, (re_dOp2 (re_bindP (rv_var rfl) (re_bindP (rv_dTup (rv_cons (rv_var rfl) (rv_nil (rv_lift (y := ((eT eI) [(table.length : Int)])) (op_tup (by exact Nat.le_of_ble_eq_true rfl) rfl))))) (re_lift (op_catT (e := eI) (xs := x11) (ys := [(table.length : Int)])))))), rfl, rfl⟩)))) fun c12 => (re_bindG (re_frzN (re_dLst (re_consG (re_dOp1 (re_tail (w := (eT eI)) (re_frzN (re_bindG (re_dRng (re_bindP (rv_dOp2 (rv_bind (rv_var rfl) (rv_bind rv_ret (rv_lift (y := (eI ((table.length : Int) + 1))) rfl)))) (re_lift op_rng))) fun c13 => (re_compM (e := eI) (f := fun (x14 : Int) => .ok (table.length : Int)) ([.rf 0 (List.map eI c2.2), .sh ((eL (eT eI)) table), .sh (eI most), .sh (eI (table.length : Int)), .sh (eI c2.1), .no, .no, .no, .no]) rfl rfl rfl (fun x14 => ⟨[.rf 0 (List.map eI c2.2), .sh ((eL (eT eI)) table), .sh (eI most), .sh (eI (table.length : Int)), .sh (eI c2.1), .no, .no, .sh (eI x14), .no], [.rf 0 (List.map eI c2.2), .sh ((eL (eT eI)) table), .sh (eI most), .sh (eI (table.length : Int)), .sh (eI c2.1), .no, .no, .sh (eI x14), .no], rfl, (re_rv (w := eI) (rv_var rfl)), rfl, rfl⟩)))) fun c15 => (rv_lift (y := ((eT eI) c15)) rfl))) fun c16 => (re_nil (re_rv (w := (List.map (eT eI))) (rv_lift (y := ((List.map (eT eI)) [c16])) (op_lst (by exact Nat.le_of_ble_eq_true rfl) rfl))))))) fun c17 => (re_lift (op_nCat (e := (eT eI)) (xs := c12) (ys := c17))))))) fun c18 => (rs_ret ⟨.inl rfl, _, rfl⟩))) (fun _ => (rs_nx (rs_bindP (rv_dAnd (rv_bind (rv_tst (rv_dOp2 (rv_bind (rv_var rfl) (rv_bind rv_ret (rv_lift (eq_py pyI (x := c2.1) (y := 2))))))) (rv_and fun _ => (rv_tst (rv_dOp2 (rv_bind (rv_var rfl) (rv_bind (rv_var rfl) (rv_lift (y := (eB (decide ((table.length : Int) < most)))) rfl)))))))) (rs_ite (fun _ => (rs_bindG (re_frzN (re_dN2 (re_bindG (re_frzN (re_bindG (re_dRng (re_bindP (rv_var rfl) (re_lift op_rng))) fun c19 => (re_compM (e := eI) (f := fun (x20 : Int) => M.bind (pAt table x20) fun c21 => pCat c21 [x20]) ([.rf 0 (List.map eI c2.2), .sh ((eL (eT eI)) table), .sh (eI most), .sh (eI (table.length : Int)), .sh (eI c2.1), .no, .no, .no, .no]) rfl rfl rfl (fun x20 => ⟨[.rf 0 (List.map eI c2.2), .sh ((eL (eT eI)) table), .sh (eI most), .sh (eI (table.length : Int)), .sh (eI c2.1), .no, .sh (eI x20), .no, .no], [.rf 0 (List.map eI c2.2), .sh ((eL (eT eI)) table), .sh (eI most), .sh (eI (table.length : Int)), .sh (eI c2.1), .no, .sh (eI x20), .no, .no], rfl, (re_dOp2 (re_bindG (re_dOp2n (re_bindP (rv_rd rfl) (re_bindP (rv_var rfl) (re_bindP (rv_rd rfl) (re_lift op_atL))))) fun c21 => (re_bindP (rv_dTup (rv_cons (rv_var rfl) (rv_nil (rv_lift (y := ((eT eI) [x20])) (op_tup (by exact Nat.le_of_ble_eq_true rfl) rfl))))) (re_lift (op_catT (e := eI) (xs := c21) (ys := [x20])))))), rfl, rfl⟩)))) fun c22 => (re_bindG (re_frzN (re_dLst (re_consG (re_trgP (rv_dOp2 (rv_bind (rv_var rfl) (rv_bind rv_ret (rv_lift (y := (eI ((table.length : Int) + 1))) rfl))))) fun c23 => (re_nil (re_rv (w := (List.map (eT eI))) (rv_lift (y := ((List.map (eT eI)) [c23])) (op_lst (by exact Nat.le_of_ble_eq_true rfl) rfl))))))) fun c24 => (re_lift (op_nCat (e := (eT eI)) (xs := c22) (ys := c24))))))) fun c25 => (rs_ret ⟨.inl rfl, _, rfl⟩))) (fun _ => (rs_nx (rs_bindG (re_dAnd (re_bindP (rv_tst (rv_dOp2 (rv_bind (rv_var rfl) (rv_bind rv_ret (rv_lift (eq_py pyI (x := c2.1) (y := 3))))))) (re_ite (fun _ => (re_tst (re_dOp2 (re_bindG (re_dOp2 (re_bindP rv_ret (re_bindP (rv_var rfl) (re_lift op_mul)))) fun c26 => (re_bindP (rv_var rfl) (re_rv (w := eB) (rv_lift (y := (eB (decide (c26 ≤ most)))) rfl))))))) (fun _ => re_rv rv_ret)))) fun c27 => (rs_ite (fun _ => (rs_seq (rs_bindP (rv_dLst (rv_cons (rv_dTup (rv_cons rv_ret (rv_cons rv_ret (rv_nil (rv_lift (y := ((eP2 eI eI) (0, 0))) (op_tup (by exact Nat.le_of_ble_eq_true rfl) rfl)))))) (rv_cons (rv_dTup (rv_cons rv_ret (rv_cons rv_ret (rv_nil (rv_lift (y := ((eP2 eI eI) (0, 1))) (op_tup (by exact Nat.le_of_ble_eq_true rfl) rfl)))))) (rv_nil (rv_lift (y := ((List.map (eP2 eI eI)) [(0, 0), (0, 1)])) (op_lst (by exact Nat.le_of_ble_eq_true rfl) rfl)))))) (rs_put (st1 := [.rf 0 (List.map eI c2.2), .sh ((eL (eT eI)) table), .sh (eI most), .sh (eI (table.length : Int)), .sh (eI c2.1), .ow (List.map (eP2 eI eI) [(0, 0), (0, 1)]), .no, .no, .no]) rfl (rs_seq (rs_bindS (fun (r31 : List Int) => [.rf 0 (List.map eI r31), .sh ((eL (eT eI)) table), .sh (eI most), .sh (eI (table.length : Int)), .sh (eI c2.1), .ow (List.map (eP2 eI eI) [(0, 0), (0, 1)]), .no, .no, .no]) (rt_tst (rt_dOp2 (rt_bindS (rt_dCallR (rt_bindP (rv_owR rfl) (rt_consP rv_ret (rt_nil (rt_callR (S := fun r28 => [.rf 0 (List.map eI r28), .sh ((eL (eT eI)) table), .sh (eI most), .sh (eI (table.length : Int)), .sh (eI c2.1), .ow (List.map (eP2 eI eI) [(0, 0), (0, 1)]), .no, .no, .no]) rfl (fun _ => rfl) (S__law_take c2.2 2)))))) fun c29 => (rt_bindP rv_ret (rt_rv (v := eB) (rv_lift (eq_py pyI (x := c29.1) (y := 0)))))))) fun c30 => (rs_join (I := (fun (a56 : (List (Int × Int))) (st : DSt) => st = [.rf 0 (List.map eI c30.2), .sh ((eL (eT eI)) table), .sh (eI most), .sh (eI (table.length : Int)), .sh (eI c2.1), .ow (List.map (eP2 eI eI) a56), .no, .no, .no])) (rs_iteN (fun _ => (rs_last (rs_bindP (rv_dLst (rv_cons (rv_dTup (rv_cons rv_ret (rv_cons rv_ret (rv_nil (rv_lift (y := ((eP2 eI eI) (0, 1))) (op_tup (by exact Nat.le_of_ble_eq_true rfl) rfl)))))) (rv_cons (rv_dTup (rv_cons rv_ret (rv_cons rv_ret (rv_nil (rv_lift (y := ((eP2 eI eI) (1, 0))) (op_tup (by exact Nat.le_of_ble_eq_true rfl) rfl)))))) (rv_nil (rv_lift (y := ((List.map (eP2 eI eI)) [(0, 1), (1, 0)])) (op_lst (by exact Nat.le_of_ble_eq_true rfl) rfl)))))) (rs_put (st1 := [.rf 0 (List.map eI c30.2), .sh ((eL (eT eI)) table), .sh (eI most), .sh (eI (table.length : Int)), .sh (eI c2.1), .ow (List.map (eP2 eI eI) [(0, 1), (1, 0)]), .no, .no, .no]) rfl (rs_end ⟨rfl, rfl⟩))))) (fun _ => (rs_end ⟨rfl, rfl⟩))) fun | a32, _, rfl => (rs_bindG (re_frzN (re_bindG (re_dRng (re_bindG (re_dOp2 (re_bindP rv_ret (re_bindP (rv_var rfl) (re_lift op_mul)))) fun c33 => (re_lift op_rng))) fun c34 => (re_compM (e := eI) (f := fun (x35 : Int) => M.bind (M.bind (pMul 2 (table.length : Int)) fun c36 => pRng c36) fun c37 => pMap (fun (x38 : Int) => M.bind (M.bind (M.bind (M.bind (pDiv x35 2) fun c42 => pAt table c42) fun c43 => M.bind (pDiv x38 2) fun c44 => pAt c43 c44) fun c45 => pMul 2 c45) fun c49 => M.bind (M.bind (M.bind (pMod x35 2) fun c50 => pAt a32 c50) fun c51 => M.bind (pMod x38 2) fun c52 => pAt [c51.1, c51.2] c52) fun c53 => .ok (c49 + c53)) c37) ([.rf 0 (List.map eI c30.2), .sh ((eL (eT eI)) table), .sh (eI most), .sh (eI (table.length : Int)), .sh (eI c2.1), .ow (List.map (eP2 eI eI) a32), .no, .no, .no]) rfl rfl rfl (fun x35 => ⟨[.rf 0 (List.map eI c30.2), .sh ((eL (eT eI)) table), .sh (eI most), .sh (eI (table.length : Int)), .sh (eI c2.1), .ow (List.map (eP2 eI eI) a32), .sh (eI x35), .no, .no], [.rf 0 (List.map eI c30.2), .sh ((eL (eT eI)) table), .sh (eI most), .sh (eI (table.length : Int)), .sh (eI c2.1), .ow (List.map (eP2 eI eI) a32), .sh (eI x35), .no, .no], rfl, (re_dOp1 (re_tail (w := (eT eI)) (re_frzN (re_bindG (re_dRng (re_bindG (re_dOp2 (re_bindP rv_ret (re_bindP (rv_var rfl) (re_lift op_mul)))) fun c36 => (re_lift op_rng))) fun c37 => (re_compM (e := eI) (f := fun (x38 : Int) => M.bind (M.bind (M.bind (M.bind (pDiv x35 2) fun c42 => pAt table c42) fun c43 => M.bind (pDiv x38 2) fun c44 => pAt c43 c44) fun c45 => pMul 2 c45) fun c49 => M.bind (M.bind (M.bind (pMod x35 2) fun c50 => pAt a32 c50) fun c51 => M.bind (pMod x38 2) fun c52 => pAt [c51.1, c51.2] c52) fun c53 => .ok (c49 + c53)) ([.rf 0 (List.map eI c30.2), .sh ((eL (eT eI)) table), .sh (eI most), .sh (eI (table.length : Int)), .sh (eI c2.1), .ow (List.map (eP2 eI eI) a32), .sh (eI x35), .no, .no]) rfl rfl rfl (fun x38 => ⟨[.rf 0 (List.map eI c30.2), .sh ((eL (eT eI)) table), .sh (eI most), .sh (eI (table.length : Int)), .sh (eI c2.1), .ow (List.map (eP2 eI eI) a32), .sh (eI x35), .sh (eI x38), .no], [.rf 0 (List.map eI c30.2), .sh ((eL (eT eI)) table), .sh (eI most), .sh (eI (table.length : Int)), .sh (eI c2.1), .ow (List.map (eP2 eI eI) a32), .sh (eI x35), .sh (eI x38), .no], rfl, (re_dOp2 (re_bindG (re_dOp2 (re_bindP rv_ret (re_bindG (re_dOp2 (re_bindG (re_dOp2n (re_bindP (rv_rd rfl) (re_bindG (re_dOp2 (re_bindP (rv_var rfl) (re_bindP rv_ret (re_lift op_div)))) fun c42 => (re_bindP (rv_rd rfl) (re_lift op_atL))))) fun c43 => (re_bindG (re_dOp2 (re_bindP (rv_var rfl) (re_bindP rv_ret (re_lift op_div)))) fun c44 => (re_lift op_atT)))) fun c45 => (re_lift op_mul)))) fun c49 => (re_bindG (re_dOp2 (re_bindG (re_dOp2n (re_bindP (rv_rdO rfl) (re_bindG (re_dOp2 (re_bindP (rv_dOp1n (rv_bind (rv_rd rfl) (rv_lift (y := (eI x35)) rfl))) (re_bindP rv_ret (re_lift op_mod)))) fun c50 => (re_bindP (rv_rdO rfl) (re_lift op_atL))))) fun c51 => (re_bindG (re_dOp2 (re_bindP (rv_dOp1n (rv_bind (rv_rd rfl) (rv_lift (y := (eI x38)) rfl))) (re_bindP rv_ret (re_lift op_mod)))) fun c52 => (re_lift (op_atT (e := eI) (xs := [c51.1, c51.2])))))) fun c53 => (re_rv (w := eI) (rv_lift (y := (eI (c49 + c53))) rfl))))), rfl, rfl⟩)))) fun c54 => (rv_lift (y := ((eT eI) c54)) rfl))), rfl, rfl⟩)))) fun c55 => (rs_ret ⟨.inl rfl, _, rfl⟩))))))))) (fun _ => (rs_nx (rs_last (rs_bindP (rv_var rfl) (rs_ret ⟨.inl rfl, _, rfl⟩))))))))))))))))))))))))

def P__law_order_of (state_here : (List Int)) (n : Int) : M ((List Int) × (List Int)) := M.bind (pRng n) fun c1 => M.bind (pRng n) fun c2 => M.bind (pfold (fun (x19 : Int) (a20 : ((List Int) × (List Int) × (List Int))) => M.bind (P__law_take a20.1 (a20.2.1.length : Int)) fun c23 => M.bind (pPopAt a20.2.1 c23.1) fun c24 => M.bind (pApp a20.2.2 c24.1) fun c25 => .ok (c23.2, c24.2, c25)) c2 (state_here, c1, [])) fun (a27 : ((List Int) × (List Int) × (List Int))) => .ok (a27.2.2, a27.1)
theorem S__law_order_of (state_here : (List Int)) (n : Int) : DR (d__law_order_of (List.map eI state_here) [eI n]) (P__law_order_of state_here n) (eL eI) eI := fn_R rfl (show RS false (sSeq (sOwn 2 (dLstRg (dRg1 (dVar 1)))) (sSeq (sOwn 3 (dLst dNil)) (sSeq (sFor (.nm 4) (dRng (dVar 1)) (sExpr (dAppend 3 (dPopAt 2 (dCallR d__law_take 0 (dCons (dOp1n opLen 2) dNil)))))) (sRet (dVar 3))))) [.rf 0 (List.map eI state_here), .sh (eI n), .no, .no, .no] (P__law_order_of state_here n) (Kby (eL eI) eI) from
  (rs_bindG (re_lrgP (rv_var rfl)) fun c1 => (rs_put (st1 := [.rf 0 (List.map eI state_here), .sh (eI n), .ow (List.map eI c1), .no, .no]) rfl (rs_bindP (rv_dLst (rv_nil (rv_lift (y := ((List.map eI) [])) (op_lst (by exact Nat.le_of_ble_eq_true rfl) rfl)))) (rs_put (st1 := [.rf 0 (List.map eI state_here), .sh (eI n), .ow (List.map eI c1), .ow (List.map eI []), .no]) rfl (rs_bindG (re_dRng (re_bindP (rv_var rfl) (re_lift op_rng))) fun c2 => (rs_for0 (e := eI) (xs := c2) (a := (state_here, c1, [])) (f := fun (x19 : Int) (a20 : ((List Int) × (List Int) × (List Int))) => M.bind (P__law_take a20.1 (a20.2.1.length : Int)) fun c23 => M.bind (pPopAt a20.2.1 c23.1) fun c24 => M.bind (pApp a20.2.2 c24.1) fun c25 => .ok (c23.2, c24.2, c25)) (fun (a29 : ((List Int) × (List Int) × (List Int))) (st : DSt) => ∃ (j30 : (Option D)), st = [.rf 0 (List.map eI a29.1), .sh (eI n), .ow (List.map eI a29.2.1), .ow (List.map eI a29.2.2), jk j30]) ⟨none, rfl⟩ (fun | x19, a20, _, ⟨j21, rfl⟩ => ⟨[.rf 0 (List.map eI a20.1), .sh (eI n), .ow (List.map eI a20.2.1), .ow (List.map eI a20.2.2), .sh (eI x19)], rfl, (rs_last (rs_appPop (e := eI) (xs := a20.2.1) (ys := a20.2.2) (fun (r26 : List Int) => [.rf 0 (List.map eI r26), .sh (eI n), .ow (List.map eI a20.2.1), .ow (List.map eI a20.2.2), .sh (eI x19)]) rfl rfl (rt_dCallR (rt_bindP (rv_owR rfl) (rt_consP (rv_dOp1n (rv_bind (rv_rdO rfl) (rv_lift op_lenL))) (rt_nil (rt_callR (S := fun r22 => [.rf 0 (List.map eI r22), .sh (eI n), .ow (List.map eI a20.2.1), .ow (List.map eI a20.2.2), .sh (eI x19)]) rfl (fun _ => rfl) (S__law_take a20.1 (a20.2.1.length : Int))))))) (fun _ => rfl) (fun _ => rfl) (by decide) fun c23 c24 c25 => rs_st ([.rf 0 (List.map eI c23.2), .sh (eI n), .ow (List.map eI c24.2), .ow (List.map eI c25), .sh (eI x19)]) rfl (rs_end ⟨rfl, (some (eI x19)), rfl⟩)))⟩) (fun | a27, _, ⟨j28, rfl⟩ => (rs_last (rs_bindP (rv_frz rfl) (rs_ret ⟨.inl rfl, _, rfl⟩)))))))))))

def P__law_renamed (table : (List (List Int))) (order : (List Int)) : M (List (List Int)) := M.bind (M.bind (pRng (table.length : Int)) fun c1 => pMap (fun (x2 : Int) => M.bind (pRng (table.length : Int)) fun c3 => pMap (fun (x4 : Int) => .ok 0) c3) c1) fun c5 => M.bind (pRng (table.length : Int)) fun c6 => M.bind (pfold (fun (x34 : Int) (a35 : (List (List Int))) => M.bind (pRng (table.length : Int)) fun c38 => M.bind (pfold (fun (x48 : Int) (a49 : (List (List Int))) => M.bind (pNX (M.bind (M.bind (M.bind (pAt table x34) fun c51 => pAt c51 x48) fun c52 => pAt order c52) fun c54 => M.bind (pAt order x34) fun c55 => M.bind (pAt order x48) fun c56 => pSet2 a49 c55 c56 c54)) fun c53 => .ok c53) c38 a35) fun (a57 : (List (List Int))) => .ok a57) c6 c5) fun (a61 : (List (List Int))) => M.bind (pMap (fun (x64 : (List Int)) => .ok x64) a61) fun c65 => .ok c65
theorem S__law_renamed (table : (List (List Int))) (order : (List Int)) : DM (d__law_renamed [(eL (eT eI)) table, (eL eI) order]) (P__law_renamed table order) (eL (eT eI)) := fn_F rfl (show RS true (sSeq (sSet 2 (dOp1n opLen 0)) (sSeq (sOwn2 3 (dComp2 [4] (.nm 4) (dRng (dVar 2)) (dComp [5] (.nm 5) (dRng (dVar 2)) dYes (dC (.int 0))))) (sSeq (sFor (.nm 4) (dRng (dVar 2)) (sFor (.nm 5) (dRng (dVar 2)) (sStore2 3 (dOp2n opIx 1 (dVar 4)) (dOp2n opIx 1 (dVar 5)) (dOp2n opIx 1 (dOp2 opIx (dOp2n opIx 0 (dVar 4)) (dVar 5)))))) (sRet (dFrz (dComp [6] (.nm 6) (dItems (dVar 3)) dYes (dOp1n opTuple 6))))))) [.sh ((eL (eT eI)) table), .sh ((eL eI) order), .no, .no, .no, .no, .no] (P__law_renamed table order) (Kfn (eL (eT eI))) from
  (rs_bindP (rv_dOp1n (rv_bind (rv_rd rfl) (rv_lift op_lenL))) (rs_put (st1 := [.sh ((eL (eT eI)) table), .sh ((eL eI) order), .sh (eI (table.length : Int)), .no, .no, .no, .no]) rfl (rs_bindG (re_bindG (re_dRng (re_bindP (rv_var rfl) (re_lift op_rng))) fun c1 => (re_comp2 (e := eI) (f := fun (x2 : Int) => M.bind (pRng (table.length : Int)) fun c3 => pMap (fun (x4 : Int) => .ok 0) c3) ([.sh ((eL (eT eI)) table), .sh ((eL eI) order), .sh (eI (table.length : Int)), .no, .no, .no, .no]) rfl rfl rfl (fun x2 => ⟨[.sh ((eL (eT eI)) table), .sh ((eL eI) order), .sh (eI (table.length : Int)), .no, .sh (eI x2), .no, .no], [.sh ((eL (eT eI)) table), .sh ((eL eI) order), .sh (eI (table.length : Int)), .no, .sh (eI x2), .no, .no], rfl, (re_bindG (re_dRng (re_bindP (rv_var rfl) (re_lift op_rng))) fun c3 => (re_compM (e := eI) (f := fun (x4 : Int) => .ok 0) ([.sh ((eL (eT eI)) table), .sh ((eL eI) order), .sh (eI (table.length : Int)), .no, .sh (eI x2), .no, .no]) rfl rfl rfl (fun x4 => ⟨[.sh ((eL (eT eI)) table), .sh ((eL eI) order), .sh (eI (table.length : Int)), .no, .sh (eI x2), .sh (eI x4), .no], [.sh ((eL (eT eI)) table), .sh ((eL eI) order), .sh (eI (table.length : Int)), .no, .sh (eI x2), .sh (eI x4), .no], rfl, (re_rv (w := eI) rv_ret), rfl, rfl⟩))), rfl, rfl⟩))) fun c5 => (rs_put2 (st1 := [.sh ((eL (eT eI)) table), .sh ((eL eI) order), .sh (eI (table.length : Int)), .o2 (List.map (List.map eI) c5), .no, .no, .no]) rfl (rs_bindG (re_dRng (re_bindP (rv_var rfl) (re_lift op_rng))) fun c6 => (rs_for0 (e := eI) (xs := c6) (a := c5) (f := fun (x34 : Int) (a35 : (List (List Int))) => M.bind (pRng (table.length : Int)) fun c38 => M.bind (pfold (fun (x48 : Int) (a49 : (List (List Int))) => M.bind (pNX (M.bind (M.bind (M.bind (pAt table x34) fun c51 => pAt c51 x48) fun c52 => pAt order c52) fun c54 => M.bind (pAt order x34) fun c55 => M.bind (pAt order x48) fun c56 => pSet2 a49 c55 c56 c54)) fun c53 => .ok c53) c38 a35) fun (a57 : (List (List Int))) => .ok a57) (fun (a66 : (List (List Int))) (st : DSt) => ∃ (j67 : (Option D)), ∃ (j68 : (Option D)), st = [.sh ((eL (eT eI)) table), .sh ((eL eI) order), .sh (eI (table.length : Int)), .o2 (List.map (List.map eI) a66), jk j67, jk j68, .no]) ⟨none, none, rfl⟩ (fun | x34, a35, _, ⟨j36, j37, rfl⟩ => ⟨[.sh ((eL (eT eI)) table), .sh ((eL eI) order), .sh (eI (table.length : Int)), .o2 (List.map (List.map eI) a35), .sh (eI x34), jk j37, .no], rfl, (rs_last (rs_bindG (re_dRng (re_bindP (rv_var rfl) (re_lift op_rng))) fun c38 => (rs_for0 (e := eI) (xs := c38) (a := a35) (f := fun (x48 : Int) (a49 : (List (List Int))) => M.bind (pNX (M.bind (M.bind (M.bind (pAt table x34) fun c51 => pAt c51 x48) fun c52 => pAt order c52) fun c54 => M.bind (pAt order x34) fun c55 => M.bind (pAt order x48) fun c56 => pSet2 a49 c55 c56 c54)) fun c53 => .ok c53) (fun (a59 : (List (List Int))) (st : DSt) => ∃ (j60 : (Option D)), st = [.sh ((eL (eT eI)) table), .sh ((eL eI) order), .sh (eI (table.length : Int)), .o2 (List.map (List.map eI) a59), .sh (eI x34), jk j60, .no]) ⟨j37, rfl⟩ (fun | x48, a49, _, ⟨j50, rfl⟩ => ⟨[.sh ((eL (eT eI)) table), .sh ((eL eI) order), .sh (eI (table.length : Int)), .o2 (List.map (List.map eI) a49), .sh (eI x34), .sh (eI x48), .no], rfl, (rs_last (rs_x (x_set2G (e := eI) rfl (re_dOp2n (re_bindP (rv_rd rfl) (re_bindG (re_dOp2 (re_bindG (re_dOp2n (re_bindP (rv_rd rfl) (re_bindP (rv_var rfl) (re_bindP (rv_rd rfl) (re_lift op_atL))))) fun c51 => (re_bindP (rv_var rfl) (re_lift op_atT)))) fun c52 => (re_bindP (rv_rd rfl) (re_lift op_atL))))) (re_dOp2n (re_bindP (rv_rd rfl) (re_bindP (rv_var rfl) (re_bindP (rv_rd rfl) (re_lift op_atL))))) (re_dOp2n (re_bindP (rv_rd rfl) (re_bindP (rv_var rfl) (re_bindP (rv_rd rfl) (re_lift op_atL)))))) fun c53 => rs_st ([.sh ((eL (eT eI)) table), .sh ((eL eI) order), .sh (eI (table.length : Int)), .o2 (List.map (List.map eI) c53), .sh (eI x34), .sh (eI x48), .no]) rfl (rs_end ⟨rfl, (some (eI x48)), rfl⟩)))⟩) (fun | a57, _, ⟨j58, rfl⟩ => (rs_end ⟨rfl, (some (eI x34)), j58, rfl⟩)))))⟩) (fun | a61, _, ⟨j62, j63, rfl⟩ => (rs_last (rs_bindG (re_frzN (re_bindP (rv_dItems (rv_bind (rv_frzL (e := eI) (xss := a61) rfl) (rv_lift (y := ((List.map (eL eI)) a61)) rfl))) (re_compM (e := (eL eI)) (f := fun (x64 : (List Int)) => .ok x64) ([.sh ((eL (eT eI)) table), .sh ((eL eI) order), .sh (eI (table.length : Int)), .sh ((eL (eL eI)) a61), jk j62, jk j63, .no]) rfl rfl rfl (fun x64 => ⟨[.sh ((eL (eT eI)) table), .sh ((eL eI) order), .sh (eI (table.length : Int)), .sh ((eL (eL eI)) a61), jk j62, jk j63, .sh ((eL eI) x64)], [.sh ((eL (eT eI)) table), .sh ((eL eI) order), .sh (eI (table.length : Int)), .sh ((eL (eL eI)) a61), jk j62, jk j63, .sh ((eL eI) x64)], rfl, (re_rv (w := (eT eI)) (rv_dOp1n (rv_bind (rv_rd rfl) (rv_lift (y := ((eT eI) x64)) rfl)))), rfl, rfl⟩)))) fun c65 => (rs_ret (.inl rfl))))))))))))

def P__law_semigroup (state_here : (List Int)) (most : Int) : M ((List (List Int)) × (List Int)) := M.bind (M.bind (P__law_plain state_here most) fun c2 => P__law_extended c2.2 c2.1 most) fun c4 => M.bind (M.bind (P__law_order_of c4.2 (c4.1.length : Int)) fun c7 => M.bind (P__law_renamed c4.1 c7.1) fun c8 => .ok (c8, c7.2)) fun c9 => .ok (c9.1, c9.2)
theorem S__law_semigroup (state_here : (List Int)) (most : Int) : DR (d__law_semigroup (List.map eI state_here) [eI most]) (P__law_semigroup state_here most) (eL (eT eI)) eI := fn_R rfl (show RS false (sSeq (sSet 2 (dCallR d__law_extended 0 (dCons (dCallR d__law_plain 0 (dCons (dVar 1) dNil)) (dCons (dVar 1) dNil)))) (sRet (dCall d__law_renamed (dCons (dVar 2) (dCons (dCallR d__law_order_of 0 (dCons (dOp1n opLen 2) dNil)) dNil))))) [.rf 0 (List.map eI state_here), .sh (eI most), .no] (P__law_semigroup state_here most) (Kby (eL (eT eI)) eI) from
  (rs_bindS (fun (r5 : List Int) => [.rf 0 (List.map eI r5), .sh (eI most), .no]) (rt_dCallR (rt_bindP (rv_owR rfl) (rt_consS (rt_dCallR (rt_bindP (rv_owR rfl) (rt_consP (rv_var rfl) (rt_nil (rt_callR (S := fun r1 => [.rf 0 (List.map eI r1), .sh (eI most), .no]) rfl (fun _ => rfl) (S__law_plain state_here most)))))) fun c2 => (rt_consP (rv_var rfl) (rt_nil (rt_callR (S := fun r3 => [.rf 0 (List.map eI r3), .sh (eI most), .no]) rfl (fun _ => rfl) (S__law_extended c2.2 c2.1 most))))))) fun c4 => (rs_put (st1 := [.rf 0 (List.map eI c4.2), .sh (eI most), .sh ((eL (eT eI)) c4.1)]) rfl (rs_last (rs_bindS (fun (r10 : List Int) => [.rf 0 (List.map eI r10), .sh (eI most), .sh ((eL (eT eI)) c4.1)]) (rt_dCall (rt_consP (rv_var rfl) (rt_consS (rt_dCallR (rt_bindP (rv_owR rfl) (rt_consP (rv_dOp1n (rv_bind (rv_rd rfl) (rv_lift op_lenL))) (rt_nil (rt_callR (S := fun r6 => [.rf 0 (List.map eI r6), .sh (eI most), .sh ((eL (eT eI)) c4.1)]) rfl (fun _ => rfl) (S__law_order_of c4.2 (c4.1.length : Int))))))) fun c7 => (rt_nil (rt_re (re_liftM (S__law_renamed c4.1 c7.1))))))) fun c9 => (rs_ret ⟨.inl rfl, _, rfl⟩))))))

def P_is_integer (value : Int) : M Bool := .ok (true && (!false))
theorem S_is_integer (value : Int) : DM (d_is_integer [eI value]) (P_is_integer value) eB := fn_F rfl (show RS true (sRet (dIf (dTst (dOp1 (opIsi "int") (dVar 0))) (dVal (dNot (dTst (dOp1 (opIsi "bool") (dVar 0))))) (dC (.bl false)))) [.sh (eI value)] (P_is_integer value) (Kfn eB) from
  (rs_last (rs_bindP (rv_dIf (rv_bind (rv_tst (rv_dOp1 (rv_bind (rv_var rfl) (rv_lift (y := (eB true)) rfl)))) (rv_andE fun _ => (rv_dVal (rv_bind (rv_dNot (rv_bind (rv_tst (rv_dOp1 (rv_bind (rv_var rfl) (rv_lift (y := (eB false)) rfl)))) rv_ret)) rv_ret))))) (rs_ret (.inl rfl)))))

def P_is_item (value : Int) (n : Int) : M Bool := M.bind (M.bind (P_is_integer value) fun c1 => .ok (c1 && ((decide (0 ≤ value)) && (decide (value < n))))) fun c2 => .ok c2
theorem S_is_item (value : Int) (n : Int) : DM (d_is_item [eI value, eI n]) (P_is_item value n) eB := fn_F rfl (show RS true (sRet (dIf (dTst (dCall d_is_integer (dCons (dVar 0) dNil))) (dChain opLe opLt (dC (.int 0)) (dVar 0) (dVar 1)) (dC (.bl false)))) [.sh (eI value), .sh (eI n)] (P_is_item value n) (Kfn eB) from
  (rs_last (rs_bindG (re_dIf (re_bindG (re_tst (re_dCall (re_consP (rv_var rfl) (re_nil (re_liftM (S_is_integer value)))))) fun c1 => (re_rv (w := eB) (rv_andE fun _ => (rv_dChain (rv_bind rv_ret (rv_bind (rv_var rfl) (rv_chain rfl (rv_var rfl) rfl)))))))) fun c2 => (rs_ret (.inl rfl)))))

def P_taken_table (table : (List (List Int))) : M (List (List Int)) := if ((!true) || (decide ((table.length : Int) = 0))) = true then .exn "Malformed" [] else M.bind (pfold (fun (x39 : (List Int)) (a40 : (List (List Int))) => if ((!true) || (!decide ((x39.length : Int) = (table.length : Int)))) = true then .exn "Malformed" [] else M.bind (pfold (fun (x48 : Int) (a49 : Unit) => M.bind (M.bind (P_is_item x48 (table.length : Int)) fun c51 => .ok (!c51)) fun c52 => if c52 = true then .exn "Malformed" [] else .ok ()) x39 ()) fun (a53 : Unit) => M.bind (pApp a40 x39) fun c55 => .ok c55) table []) fun (a58 : (List (List Int))) => .ok a58
theorem S_taken_table (table : (List (List Int))) : DM (d_taken_table [(eL (eT eI)) table]) (P_taken_table table) (eT (eT eI)) := fn_F rfl (show RS true (sSeq (sIf (dOr (dNot (dTst (dOp1 (opIsi2 "list" "tuple") (dVar 0)))) (dTst (dOp2 opEq (dOp1n opLen 0) (dC (.int 0))))) (sRaise0 "Malformed") sPass) (sSeq (sOwn 1 (dLst dNil)) (sSeq (sFor (.nm 2) (dItems (dVar 0)) (sSeq (sIf (dOr (dNot (dTst (dOp1 (opIsi2 "list" "tuple") (dVar 2)))) (dTst (dOp2 opNe (dOp1n opLen 2) (dOp1n opLen 0)))) (sRaise0 "Malformed") sPass) (sSeq (sFor (.nm 3) (dItems (dVar 2)) (sIf (dNot (dTst (dCall d_is_item (dCons (dVar 3) (dCons (dOp1n opLen 0) dNil))))) (sRaise0 "Malformed") sPass)) (sExpr (dAppend 1 (dOp1n opTuple 2)))))) (sRet (dOp1n opTuple 1))))) [.sh ((eL (eT eI)) table), .no, .no, .no] (P_taken_table table) (Kfn (eT (eT eI))) from
  (rs_bindP (rv_dOr (rv_bind (rv_dNot (rv_bind (rv_tst (rv_dOp1 (rv_bind (rv_var rfl) (rv_lift (y := (eB true)) rfl)))) rv_ret)) (rv_or fun _ => (rv_tst (rv_dOp2 (rv_bind (rv_dOp1n (rv_bind (rv_rd rfl) (rv_lift op_lenL))) (rv_bind rv_ret (rv_lift (eq_py pyI (x := (table.length : Int)) (y := 0)))))))))) (rs_ite (fun _ => rs_raise0) (fun _ => (rs_nx (rs_bindP (rv_dLst (rv_nil (rv_lift (y := ((List.map eI) [])) (op_lst (by exact Nat.le_of_ble_eq_true rfl) rfl)))) (rs_put (st1 := [.sh ((eL (eT eI)) table), .ow (List.map eI []), .no, .no]) rfl (rs_bindP (rv_dItems (rv_bind (rv_var rfl) (rv_lift (y := ((List.map (eT eI)) table)) rfl))) (rs_for0 (e := (eT eI)) (xs := table) (a := []) (f := fun (x39 : (List Int)) (a40 : (List (List Int))) => if ((!true) || (!decide ((x39.length : Int) = (table.length : Int)))) = true then .exn "Malformed" [] else M.bind (pfold (fun (x48 : Int) (a49 : Unit) => M.bind (M.bind (P_is_item x48 (table.length : Int)) fun c51 => .ok (!c51)) fun c52 => if c52 = true then .exn "Malformed" [] else .ok ()) x39 ()) fun (a53 : Unit) => M.bind (pApp a40 x39) fun c55 => .ok c55) (fun (a61 : (List (List Int))) (st : DSt) => ∃ (j62 : (Option D)), ∃ (j63 : (Option D)), st = [.sh ((eL (eT eI)) table), .ow (List.map (eT eI) a61), jk j62, jk j63]) ⟨none, none, rfl⟩ (fun | x39, a40, _, ⟨j41, j42, rfl⟩ => ⟨[.sh ((eL (eT eI)) table), .ow (List.map (eT eI) a40), .sh ((eT eI) x39), jk j42], rfl, (rs_bindP (rv_dOr (rv_bind (rv_dNot (rv_bind (rv_tst (rv_dOp1 (rv_bind (rv_var rfl) (rv_lift (y := (eB true)) rfl)))) rv_ret)) (rv_or fun _ => (rv_tst (rv_dOp2 (rv_bind (rv_dOp1n (rv_bind (rv_rd rfl) (rv_lift op_lenT))) (rv_bind (rv_dOp1n (rv_bind (rv_rd rfl) (rv_lift op_lenL))) (rv_lift (ne_py pyI (x := (x39.length : Int)) (y := (table.length : Int))))))))))) (rs_ite (fun _ => rs_raise0) (fun _ => (rs_nx (rs_bindP (rv_dItems (rv_bind (rv_var rfl) (rv_lift (y := ((List.map eI) x39)) rfl))) (rs_for0 (e := eI) (xs := x39) (a := ()) (f := fun (x48 : Int) (a49 : Unit) => M.bind (M.bind (P_is_item x48 (table.length : Int)) fun c51 => .ok (!c51)) fun c52 => if c52 = true then .exn "Malformed" [] else .ok ()) (fun (a56 : Unit) (st : DSt) => ∃ (j57 : (Option D)), st = [.sh ((eL (eT eI)) table), .ow (List.map (eT eI) a40), .sh ((eT eI) x39), jk j57]) ⟨j42, rfl⟩ (fun | x48, a49, _, ⟨j50, rfl⟩ => ⟨[.sh ((eL (eT eI)) table), .ow (List.map (eT eI) a40), .sh ((eT eI) x39), .sh (eI x48)], rfl, (rs_last (rs_bindG (re_dNot (re_bindG (re_tst (re_dCall (re_consP (rv_var rfl) (re_consP (rv_dOp1n (rv_bind (rv_rd rfl) (rv_lift op_lenL))) (re_nil (re_liftM (S_is_item x48 (table.length : Int)))))))) fun c51 => (re_rv (w := (fun b : Bool => b)) rv_ret))) fun c52 => (rs_ite (fun _ => rs_raise0) (fun _ => (rs_nx (rs_end ⟨rfl, (some (eI x48)), rfl⟩))))))⟩) (fun | a53, _, ⟨j54, rfl⟩ => (rs_last (rs_x (x_appP (e := (eT eI)) (xs := a40) rfl (rv_dOp1n (rv_bind (rv_rd rfl) (rv_lift (y := ((eT eI) x39)) rfl))) rfl) fun c55 => rs_st ([.sh ((eL (eT eI)) table), .ow (List.map (eT eI) c55), .sh ((eT eI) x39), jk j54]) rfl (rs_end ⟨rfl, (some ((eT eI) x39)), j54, rfl⟩))))))))))⟩) (fun | a58, _, ⟨j59, j60, rfl⟩ => (rs_last (rs_bindP (rv_dOp1n (rv_bind (rv_rdO rfl) (rv_lift (y := ((eT (eT eI)) a58)) rfl))) (rs_ret (.inl rfl))))))))))))))

def P_is_associative (table : (List (List Int))) : M Bool := M.bind (pfor (fun (x42 : (List Int)) (a43 : Unit) => M.bind (pRng (table.length : Int)) fun c46 => M.bind (pfor (fun (x63 : Int) (a64 : Unit) => M.bind (M.bind (M.bind (pRng (table.length : Int)) fun c66 => pMap (fun (x67 : Int) => M.bind (M.bind (pAt x42 x63) fun c68 => pAt table c68) fun c69 => pAt c69 x67) c66) fun c73 => M.bind (M.bind (pAt table x63) fun c75 => pMap (fun (x76 : Int) => pAt x42 x76) c75) fun c77 => .ok (!decide (c73 = c77))) fun c78 => if c78 = true then .ok (.ret false) else .ok (.nx ())) c46 ()) fun r => pK r (fun (a79 : Unit) => .ok (.nx ())) F.ret) table ()) fun r => pK r (fun (a83 : Unit) => .ok true) (fun q => q)
theorem S_is_associative (table : (List (List Int))) : DM (d_is_associative [(eT (eT eI)) table]) (P_is_associative table) eB := fn_F rfl (show RS true (sSeq (sFor (.nm 1) (dItems (dVar 0)) (sFor (.nm 2) (dRng (dOp1n opLen 0)) (sIf (dTst (dOp2 opNe (dFrz (dComp [3] (.nm 3) (dRng (dOp1n opLen 0)) dYes (dOp2 opIx (dOp2n opIx 0 (dOp2n opIx 1 (dVar 2))) (dVar 3)))) (dFrz (dComp [4] (.nm 4) (dItems (dOp2n opIx 0 (dVar 2))) dYes (dOp2n opIx 1 (dVar 4)))))) (sRet (dC (.bl false))) sPass))) (sRet (dC (.bl true)))) [.sh ((eT (eT eI)) table), .no, .no, .no, .no] (P_is_associative table) (Kfn eB) from
  (rs_bindP (rv_dItems (rv_bind (rv_var rfl) (rv_lift (y := ((List.map (eT eI)) table)) rfl))) (rs_for1 (e := (eT eI)) (xs := table) (a := ()) (f := fun (x42 : (List Int)) (a43 : Unit) => M.bind (pRng (table.length : Int)) fun c46 => M.bind (pfor (fun (x63 : Int) (a64 : Unit) => M.bind (M.bind (M.bind (pRng (table.length : Int)) fun c66 => pMap (fun (x67 : Int) => M.bind (M.bind (pAt x42 x63) fun c68 => pAt table c68) fun c69 => pAt c69 x67) c66) fun c73 => M.bind (M.bind (pAt table x63) fun c75 => pMap (fun (x76 : Int) => pAt x42 x76) c75) fun c77 => .ok (!decide (c73 = c77))) fun c78 => if c78 = true then .ok (.ret false) else .ok (.nx ())) c46 ()) fun r => pK r (fun (a79 : Unit) => .ok (.nx ())) F.ret) (h := (fun q => q)) (fun (a86 : Unit) (st : DSt) => ∃ (j87 : (Option D)), ∃ (j88 : (Option D)), st = [.sh ((eT (eT eI)) table), jk j87, jk j88, .no, .no]) ⟨none, none, rfl⟩ (fun | x42, a43, _, ⟨j44, j45, rfl⟩ => ⟨[.sh ((eT (eT eI)) table), .sh ((eT eI) x42), jk j45, .no, .no], rfl, (rs_last (rs_bindG (re_dRng (re_bindP (rv_dOp1n (rv_bind (rv_rd rfl) (rv_lift op_lenT))) (re_lift op_rng))) fun c46 => (rs_for1 (e := eI) (xs := c46) (a := ()) (f := fun (x63 : Int) (a64 : Unit) => M.bind (M.bind (M.bind (pRng (table.length : Int)) fun c66 => pMap (fun (x67 : Int) => M.bind (M.bind (pAt x42 x63) fun c68 => pAt table c68) fun c69 => pAt c69 x67) c66) fun c73 => M.bind (M.bind (pAt table x63) fun c75 => pMap (fun (x76 : Int) => pAt x42 x76) c75) fun c77 => .ok (!decide (c73 = c77))) fun c78 => if c78 = true then .ok (.ret false) else .ok (.nx ())) (h := F.ret) (fun (a81 : Unit) (st : DSt) => ∃ (j82 : (Option D)), st = [.sh ((eT (eT eI)) table), .sh ((eT eI) x42), jk j82, .no, .no]) ⟨j45, rfl⟩ (fun | x63, a64, _, ⟨j65, rfl⟩ => ⟨[.sh ((eT (eT eI)) table), .sh ((eT eI) x42), .sh (eI x63), .no, .no], rfl, (rs_last (rs_bindG (re_tst (re_dOp2 (re_bindG (re_frzN (re_bindG (re_dRng (re_bindP (rv_dOp1n (rv_bind (rv_rd rfl) (rv_lift op_lenT))) (re_lift op_rng))) fun c66 => (re_compM (e := eI) (f := fun (x67 : Int) => M.bind (M.bind (pAt x42 x63) fun c68 => pAt table c68) fun c69 => pAt c69 x67) ([.sh ((eT (eT eI)) table), .sh ((eT eI) x42), .sh (eI x63), .no, .no]) rfl rfl rfl (fun x67 => ⟨[.sh ((eT (eT eI)) table), .sh ((eT eI) x42), .sh (eI x63), .sh (eI x67), .no], [.sh ((eT (eT eI)) table), .sh ((eT eI) x42), .sh (eI x63), .sh (eI x67), .no], rfl, (re_dOp2 (re_bindG (re_dOp2n (re_bindP (rv_rd rfl) (re_bindG (re_dOp2n (re_bindP (rv_rd rfl) (re_bindP (rv_var rfl) (re_bindP (rv_rd rfl) (re_lift op_atT))))) fun c68 => (re_bindP (rv_rd rfl) (re_lift op_atT))))) fun c69 => (re_bindP (rv_var rfl) (re_lift op_atT)))), rfl, rfl⟩)))) fun c73 => (re_bindG (re_frzN (re_bindG (re_dItems (re_tail (w := (List.map eI)) (re_dOp2n (re_bindP (rv_rd rfl) (re_bindP (rv_var rfl) (re_bindP (rv_rd rfl) (re_lift op_atT))))) fun c74 => (rv_lift (y := ((List.map eI) c74)) rfl))) fun c75 => (re_compM (e := eI) (f := fun (x76 : Int) => pAt x42 x76) ([.sh ((eT (eT eI)) table), .sh ((eT eI) x42), .sh (eI x63), .no, .no]) rfl rfl rfl (fun x76 => ⟨[.sh ((eT (eT eI)) table), .sh ((eT eI) x42), .sh (eI x63), .no, .sh (eI x76)], [.sh ((eT (eT eI)) table), .sh ((eT eI) x42), .sh (eI x63), .no, .sh (eI x76)], rfl, (re_dOp2n (re_bindP (rv_rd rfl) (re_bindP (rv_var rfl) (re_bindP (rv_rd rfl) (re_lift op_atT))))), rfl, rfl⟩)))) fun c77 => (re_rv (w := eB) (rv_lift (ne_py (pyL pyI) (x := c73) (y := c77)))))))) fun c78 => (rs_ite (fun _ => (rs_bindP rv_ret (rs_ret ⟨⟨_, rfl⟩, ⟨⟨_, rfl⟩, (.inl rfl)⟩⟩))) (fun _ => (rs_nx (rs_end ⟨rfl, (some (eI x63)), rfl⟩))))))⟩) (fun | a79, _, ⟨j80, rfl⟩ => (rs_end ⟨rfl, (some ((eT eI) x42)), j80, rfl⟩)))))⟩) (fun | a83, _, ⟨j84, j85, rfl⟩ => (rs_last (rs_bindP rv_ret (rs_ret (.inl rfl))))))))

def P_Semigroup___init__ (table : (List (List Int))) : M (Int × (List (List Int))) := M.bind (P_taken_table table) fun c1 => if (decide ((c1.length : Int) > 24)) = true then .exn "Refused" [("reason", eS ("large" : Str))] else M.bind (M.bind (P_is_associative c1) fun c2 => .ok (!c2)) fun c3 => if c3 = true then .exn "Refused" [("reason", eS ("associative" : Str))] else .ok ((c1.length : Int), c1)
theorem S_Semigroup___init__ (table : (List (List Int))) : DM (makeM "Semigroup" d_Semigroup___init__ [(eL (eT eI)) table]) (P_Semigroup___init__ table) (eC2 "Semigroup" "n" "table" eI (eT (eT eI))) := fn_I (nd := (fun (r : (Int × (List (List Int)))) => (["n", "table"], [eI r.1, (eT (eT eI)) r.2]))) rfl (show RS true (sSeq (sSet 2 (dCall d_taken_table (dCons (dVar 1) dNil))) (sSeq (sIf (dTst (dOp2 opGt (dOp1n opLen 2) (dC (.int 24)))) (sRaise1 "Refused" "reason" (dC (.str "large"))) sPass) (sSeq (sIf (dNot (dTst (dCall d_is_associative (dCons (dVar 2) dNil)))) (sRaise1 "Refused" "reason" (dC (.str "associative"))) sPass) (sSeq (sSelf 0 "Semigroup" "n" (dOp1n opLen 2)) (sSelf 0 "Semigroup" "table" (dVar 2)))))) [.oi 0 "Semigroup" [] [], .sh ((eL (eT eI)) table), .no] (P_Semigroup___init__ table) (Kini (fun (r : (Int × (List (List Int)))) => (["n", "table"], [eI r.1, (eT (eT eI)) r.2])) "Semigroup") from
  (rs_bindG (re_dCall (re_consP (rv_var rfl) (re_nil (re_liftM (S_taken_table table))))) fun c1 => (rs_put (st1 := [.oi 0 "Semigroup" [] [], .sh ((eL (eT eI)) table), .sh ((eT (eT eI)) c1)]) rfl (rs_bindP (rv_tst (rv_dOp2 (rv_bind (rv_dOp1n (rv_bind (rv_rd rfl) (rv_lift op_lenT))) (rv_bind rv_ret (rv_lift (y := (eB (decide ((c1.length : Int) > 24)))) rfl))))) (rs_ite (fun _ => (rs_bindP rv_ret rs_raise1)) (fun _ => (rs_nx (rs_bindG (re_dNot (re_bindG (re_tst (re_dCall (re_consP (rv_var rfl) (re_nil (re_liftM (S_is_associative c1)))))) fun c2 => (re_rv (w := (fun b : Bool => b)) rv_ret))) fun c3 => (rs_ite (fun _ => (rs_bindP rv_ret rs_raise1)) (fun _ => (rs_nx (rs_bindP (rv_dOp1n (rv_bind (rv_rd rfl) (rv_lift op_lenT))) (rs_exec (st1 := [.oi 0 "Semigroup" ["n"] [eI (c1.length : Int)], .sh ((eL (eT eI)) table), .sh ((eT (eT eI)) c1)]) (by first | rfl | decide | simp) (rs_last (rs_bindP (rv_var rfl) (rs_exec (st1 := [.oi 0 "Semigroup" ["n", "table"] [eI (c1.length : Int), (eT (eT eI)) c1], .sh ((eL (eT eI)) table), .sh ((eT (eT eI)) c1)]) (by first | rfl | decide | simp) (rs_end ⟨rfl, _, rfl⟩)))))))))))))))))

def P__law_grown (table : (List (List Int))) (items : (List Int)) : M (List Int) := M.bind (M.bind (M.bind (pRng (table.length : Int)) fun c1 => pFil (fun (x2 : Int) => .ok (has x2 items)) (fun (x2 : Int) => .ok x2) c1) fun c3 => .ok (sortI c3)) fun c4 => M.bind (pRng (table.length : Int)) fun c5 => M.bind (pfold (fun (x72 : Int) (a73 : (List Int)) => M.bind (pfold (fun (x91 : Int) (a92 : (List Int)) => M.bind (M.bind (pMap (fun (x94 : Int) => M.bind (pAt table x91) fun c95 => pAt c95 x94) items) fun c96 => pCat a92 c96) fun c97 => .ok c97) a73 []) fun (a98 : (List Int)) => M.bind (M.bind (pRng (table.length : Int)) fun c100 => pFil (fun (x101 : Int) => .ok ((has x101 a73) || (has x101 a98))) (fun (x101 : Int) => .ok x101) c100) fun c102 => .ok c102) c5 c4) fun (a105 : (List Int)) => .ok a105
theorem S__law_grown (table : (List (List Int))) (items : (List Int)) : DM (d__law_grown [(eL (eT eI)) table, (eL eI) items]) (P__law_grown table items) (eT eI) := fn_F rfl (show RS true (sSeq (sOwn 2 (dN1 nSortedA (dFrz (dComp [6] (.nm 6) (dRng (dOp1n opLen 0)) (dTst (dOp2m opIn (dVar 6) 1)) (dVar 6))))) (sSeq (sFor (.nm 3) (dRng (dOp1n opLen 0)) (sSeq (sOwn 4 (dLst dNil)) (sSeq (sFor (.nm 5) (dItems (dVar 2)) (sOwn 4 (dN2 nAdd (dVar 4) (dFrz (dComp [7] (.nm 7) (dItems (dVar 1)) dYes (dOp2 opIx (dOp2n opIx 0 (dVar 5)) (dVar 7))))))) (sOwn 2 (dComp [6] (.nm 6) (dRng (dOp1n opLen 0)) (dOr (dTst (dOp2m opIn (dVar 6) 2)) (dTst (dOp2m opIn (dVar 6) 4))) (dVar 6)))))) (sRet (dOp1n opTuple 2)))) [.sh ((eL (eT eI)) table), .sh ((eL eI) items), .no, .no, .no, .no, .no, .no] (P__law_grown table items) (Kfn (eT eI)) from
  (rs_bindG (re_dN1 (re_bindG (re_frzN (re_bindG (re_dRng (re_bindP (rv_dOp1n (rv_bind (rv_rd rfl) (rv_lift op_lenL))) (re_lift op_rng))) fun c1 => (re_compF (e := eI) (p := fun (x2 : Int) => .ok (has x2 items)) (f := fun (x2 : Int) => .ok x2) ([.sh ((eL (eT eI)) table), .sh ((eL eI) items), .no, .no, .no, .no, .no, .no]) rfl rfl rfl (fun x2 => ⟨[.sh ((eL (eT eI)) table), .sh ((eL eI) items), .no, .no, .no, .no, .sh (eI x2), .no], [.sh ((eL (eT eI)) table), .sh ((eL eI) items), .no, .no, .no, .no, .sh (eI x2), .no], [.sh ((eL (eT eI)) table), .sh ((eL eI) items), .no, .no, .no, .no, .sh (eI x2), .no], rfl, (re_rv (w := (fun b : Bool => b)) (rv_tst (rv_dOp2m (rv_bind (rv_var rfl) (rv_bind (rv_rd rfl) (rv_lift (inL_ (in_fl (x := x2) (xs := items) fl_I).1))))))), (re_rv (w := eI) (rv_var rfl)), rfl, rfl⟩)))) fun c3 => (re_rv (w := (List.map eI)) (rv_lift op_sortedA)))) fun c4 => (rs_put (st1 := [.sh ((eL (eT eI)) table), .sh ((eL eI) items), .ow (List.map eI c4), .no, .no, .no, .no, .no]) rfl (rs_bindG (re_dRng (re_bindP (rv_dOp1n (rv_bind (rv_rd rfl) (rv_lift op_lenL))) (re_lift op_rng))) fun c5 => (rs_for0 (e := eI) (xs := c5) (a := c4) (f := fun (x72 : Int) (a73 : (List Int)) => M.bind (pfold (fun (x91 : Int) (a92 : (List Int)) => M.bind (M.bind (pMap (fun (x94 : Int) => M.bind (pAt table x91) fun c95 => pAt c95 x94) items) fun c96 => pCat a92 c96) fun c97 => .ok c97) a73 []) fun (a98 : (List Int)) => M.bind (M.bind (pRng (table.length : Int)) fun c100 => pFil (fun (x101 : Int) => .ok ((has x101 a73) || (has x101 a98))) (fun (x101 : Int) => .ok x101) c100) fun c102 => .ok c102) (fun (a109 : (List Int)) (st : DSt) => ∃ (j110 : (Option D)), ∃ (j111 : Slot), ∃ (j112 : (Option D)), st = [.sh ((eL (eT eI)) table), .sh ((eL eI) items), .ow (List.map eI a109), jk j110, j111, jk j112, .no, .no]) ⟨none, (.no), none, rfl⟩ (fun | x72, a73, _, ⟨j74, j75, j76, rfl⟩ => ⟨[.sh ((eL (eT eI)) table), .sh ((eL eI) items), .ow (List.map eI a73), .sh (eI x72), j75, jk j76, .no, .no], rfl, (rs_bindP (rv_dLst (rv_nil (rv_lift (y := ((List.map eI) [])) (op_lst (by exact Nat.le_of_ble_eq_true rfl) rfl)))) (rs_put (st1 := [.sh ((eL (eT eI)) table), .sh ((eL eI) items), .ow (List.map eI a73), .sh (eI x72), .ow (List.map eI []), jk j76, .no, .no]) rfl (rs_bindP (rv_dItems (rv_bind (rv_frz rfl) (rv_lift (y := ((List.map eI) a73)) rfl))) (rs_for0 (e := eI) (xs := a73) (a := []) (f := fun (x91 : Int) (a92 : (List Int)) => M.bind (M.bind (pMap (fun (x94 : Int) => M.bind (pAt table x91) fun c95 => pAt c95 x94) items) fun c96 => pCat a92 c96) fun c97 => .ok c97) (fun (a103 : (List Int)) (st : DSt) => ∃ (j104 : (Option D)), st = [.sh ((eL (eT eI)) table), .sh ((eL eI) items), .sh ((eL eI) a73), .sh (eI x72), .ow (List.map eI a103), jk j104, .no, .no]) ⟨j76, rfl⟩ (fun | x91, a92, _, ⟨j93, rfl⟩ => ⟨[.sh ((eL (eT eI)) table), .sh ((eL eI) items), .sh ((eL eI) a73), .sh (eI x72), .ow (List.map eI a92), .sh (eI x91), .no, .no], rfl, (rs_last (rs_bindG (re_dN2 (re_bindP (rv_frz rfl) (re_bindG (re_frzN (re_bindP (rv_dItems (rv_bind (rv_var rfl) (rv_lift (y := ((List.map eI) items)) rfl))) (re_compM (e := eI) (f := fun (x94 : Int) => M.bind (pAt table x91) fun c95 => pAt c95 x94) ([.sh ((eL (eT eI)) table), .sh ((eL eI) items), .sh ((eL eI) a73), .sh (eI x72), .sh ((eL eI) a92), .sh (eI x91), .no, .no]) rfl rfl rfl (fun x94 => ⟨[.sh ((eL (eT eI)) table), .sh ((eL eI) items), .sh ((eL eI) a73), .sh (eI x72), .sh ((eL eI) a92), .sh (eI x91), .no, .sh (eI x94)], [.sh ((eL (eT eI)) table), .sh ((eL eI) items), .sh ((eL eI) a73), .sh (eI x72), .sh ((eL eI) a92), .sh (eI x91), .no, .sh (eI x94)], rfl, (re_dOp2 (re_bindG (re_dOp2n (re_bindP (rv_rd rfl) (re_bindP (rv_var rfl) (re_bindP (rv_rd rfl) (re_lift op_atL))))) fun c95 => (re_bindP (rv_var rfl) (re_lift op_atT)))), rfl, rfl⟩)))) fun c96 => (re_lift (op_nCat (e := eI) (xs := a92) (ys := c96)))))) fun c97 => (rs_put (st1 := [.sh ((eL (eT eI)) table), .sh ((eL eI) items), .sh ((eL eI) a73), .sh (eI x72), .ow (List.map eI c97), .sh (eI x91), .no, .no]) rfl (rs_end ⟨rfl, (some (eI x91)), rfl⟩))))⟩) (fun | a98, _, ⟨j99, rfl⟩ => (rs_last (rs_bindG (re_bindG (re_dRng (re_bindP (rv_dOp1n (rv_bind (rv_rd rfl) (rv_lift op_lenL))) (re_lift op_rng))) fun c100 => (re_compF (e := eI) (p := fun (x101 : Int) => .ok ((has x101 a73) || (has x101 a98))) (f := fun (x101 : Int) => .ok x101) ([.sh ((eL (eT eI)) table), .sh ((eL eI) items), .sh ((eL eI) a73), .sh (eI x72), .ow (List.map eI a98), jk j99, .no, .no]) rfl rfl rfl (fun x101 => ⟨[.sh ((eL (eT eI)) table), .sh ((eL eI) items), .sh ((eL eI) a73), .sh (eI x72), .ow (List.map eI a98), jk j99, .sh (eI x101), .no], [.sh ((eL (eT eI)) table), .sh ((eL eI) items), .sh ((eL eI) a73), .sh (eI x72), .ow (List.map eI a98), jk j99, .sh (eI x101), .no], [.sh ((eL (eT eI)) table), .sh ((eL eI) items), .sh ((eL eI) a73), .sh (eI x72), .ow (List.map eI a98), jk j99, .sh (eI x101), .no], rfl, (re_rv (w := (fun b : Bool => b)) (rv_dOr (rv_bind (rv_tst (rv_dOp2m (rv_bind (rv_var rfl) (rv_bind (rv_rd rfl) (rv_lift (inL_ (in_fl (x := x101) (xs := a73) fl_I).1)))))) (rv_or fun _ => (rv_tst (rv_dOp2m (rv_bind (rv_var rfl) (rv_bind (rv_rdO rfl) (rv_lift (inL_ (in_fl (x := x101) (xs := a98) fl_I).1)))))))))), (re_rv (w := eI) (rv_var rfl)), rfl, rfl⟩))) fun c102 => (rs_put (st1 := [.sh ((eL (eT eI)) table), .sh ((eL eI) items), .ow (List.map eI c102), .sh (eI x72), .ow (List.map eI a98), jk j99, .no, .no]) rfl (rs_end ⟨rfl, (some (eI x72)), (.ow (List.map eI a98)), j99, rfl⟩)))))))))⟩) (fun | a105, _, ⟨j106, j107, j108, rfl⟩ => (rs_last (rs_bindP (rv_dOp1n (rv_bind (rv_rdO rfl) (rv_lift (y := ((eT eI) a105)) rfl))) (rs_ret (.inl rfl))))))))))

def P_Semigroup_is_element (self : (Int × (List (List Int)))) (value : Int) : M Bool := M.bind (P_is_item value self.1) fun c1 => .ok c1
theorem S_Semigroup_is_element (self : (Int × (List (List Int)))) (value : Int) : DM (d_Semigroup_is_element [(eC2 "Semigroup" "n" "table" eI (eT (eT eI))) self, eI value]) (P_Semigroup_is_element self value) eB := fn_F rfl (show RS true (sRet (dCall d_is_item (dCons (dVar 1) (dCons (dOp1 (opFld "Semigroup" "n") (dVar 0)) dNil)))) [.sh ((eC2 "Semigroup" "n" "table" eI (eT (eT eI))) self), .sh (eI value)] (P_Semigroup_is_element self value) (Kfn eB) from
  (rs_last (rs_bindG (re_dCall (re_consP (rv_var rfl) (re_consP (rv_dOp1 (rv_bind (rv_var rfl) (rv_lift (by rfl)))) (re_nil (re_liftM (S_is_item value self.1)))))) fun c1 => (rs_ret (.inl rfl)))))

def P_is_subset (s : (Int × (List (List Int)))) (value : (List Int)) : M Bool := if ((!true) || (decide ((value.length : Int) = 0))) = true then .ok false else M.bind (pRng (value.length : Int)) fun c1 => M.bind (pfor (fun (x11 : Int) (a12 : Unit) => M.bind (M.bind (M.bind (M.bind (pAt value x11) fun c14 => pNX (P_Semigroup_is_element s c14)) fun c15 => .ok (!c15)) fun c16 => if c16 = true then .ok true else if (decide (x11 > 0)) = true then M.bind (pAt value x11) fun c17 => M.bind (pAt value (x11 - 1)) fun c18 => .ok (decide (c17 ≤ c18)) else .ok false) fun c19 => if c19 = true then .ok (.ret false) else .ok (.nx ())) c1 ()) fun r => pK r (fun (a20 : Unit) => .ok true) (fun q => q)
theorem S_is_subset (s : (Int × (List (List Int)))) (value : (List Int)) : DM (d_is_subset [(eC2 "Semigroup" "n" "table" eI (eT (eT eI))) s, (eT eI) value]) (P_is_subset s value) eB := fn_F rfl (show RS true (sSeq (sIf (dOr (dNot (dTst (dOp1 (opIsi "tuple") (dVar 1)))) (dTst (dOp2 opEq (dOp1n opLen 1) (dC (.int 0))))) (sRet (dC (.bl false))) sPass) (sSeq (sFor (.nm 2) (dRng (dOp1n opLen 1)) (sIf (dOr (dNot (dTst (dMeth "Semigroup" "is_element" d_Semigroup_is_element (dVar 0) (dCons (dOp2n opIx 1 (dVar 2)) dNil)))) (dAnd (dTst (dOp2 opGt (dVar 2) (dC (.int 0)))) (dTst (dOp2 opLe (dOp2n opIx 1 (dVar 2)) (dOp2n opIx 1 (dOp2 opSub (dVar 2) (dC (.int 1)))))))) (sRet (dC (.bl false))) sPass)) (sRet (dC (.bl true))))) [.sh ((eC2 "Semigroup" "n" "table" eI (eT (eT eI))) s), .sh ((eT eI) value), .no] (P_is_subset s value) (Kfn eB) from
  (rs_bindP (rv_dOr (rv_bind (rv_dNot (rv_bind (rv_tst (rv_dOp1 (rv_bind (rv_var rfl) (rv_lift (y := (eB true)) rfl)))) rv_ret)) (rv_or fun _ => (rv_tst (rv_dOp2 (rv_bind (rv_dOp1n (rv_bind (rv_rd rfl) (rv_lift op_lenT))) (rv_bind rv_ret (rv_lift (eq_py pyI (x := (value.length : Int)) (y := 0)))))))))) (rs_ite (fun _ => (rs_bindP rv_ret (rs_ret (.inl rfl)))) (fun _ => (rs_nx (rs_bindG (re_dRng (re_bindP (rv_dOp1n (rv_bind (rv_rd rfl) (rv_lift op_lenT))) (re_lift op_rng))) fun c1 => (rs_for1 (e := eI) (xs := c1) (a := ()) (f := fun (x11 : Int) (a12 : Unit) => M.bind (M.bind (M.bind (M.bind (pAt value x11) fun c14 => pNX (P_Semigroup_is_element s c14)) fun c15 => .ok (!c15)) fun c16 => if c16 = true then .ok true else if (decide (x11 > 0)) = true then M.bind (pAt value x11) fun c17 => M.bind (pAt value (x11 - 1)) fun c18 => .ok (decide (c17 ≤ c18)) else .ok false) fun c19 => if c19 = true then .ok (.ret false) else .ok (.nx ())) (h := (fun q => q)) (fun (a22 : Unit) (st : DSt) => ∃ (j23 : (Option D)), st = [.sh ((eC2 "Semigroup" "n" "table" eI (eT (eT eI))) s), .sh ((eT eI) value), jk j23]) ⟨none, rfl⟩ (fun | x11, a12, _, ⟨j13, rfl⟩ => ⟨[.sh ((eC2 "Semigroup" "n" "table" eI (eT (eT eI))) s), .sh ((eT eI) value), .sh (eI x11)], rfl, (rs_last (rs_bindG (re_dOr (re_bindG (re_dNot (re_bindG (re_tst (re_meth (rv_var rfl) (by rfl) rfl (re_consG (re_dOp2n (re_bindP (rv_rd rfl) (re_bindP (rv_var rfl) (re_bindP (rv_rd rfl) (re_lift op_atT))))) fun c14 => (re_nil (re_methK (S_Semigroup_is_element s c14)))))) fun c15 => (re_rv (w := (fun b : Bool => b)) rv_ret))) fun c16 => (re_ite (fun _ => re_rv rv_ret) (fun _ => (re_dAnd (re_bindP (rv_tst (rv_dOp2 (rv_bind (rv_var rfl) (rv_bind rv_ret (rv_lift (y := (eB (decide (x11 > 0)))) rfl))))) (re_ite (fun _ => (re_tst (re_dOp2 (re_bindG (re_dOp2n (re_bindP (rv_rd rfl) (re_bindP (rv_var rfl) (re_bindP (rv_rd rfl) (re_lift op_atT))))) fun c17 => (re_bindG (re_dOp2n (re_bindP (rv_rd rfl) (re_bindP (rv_dOp2 (rv_bind (rv_var rfl) (rv_bind rv_ret (rv_lift (y := (eI (x11 - 1))) rfl)))) (re_bindP (rv_rd rfl) (re_lift op_atT))))) fun c18 => (re_rv (w := eB) (rv_lift (y := (eB (decide (c17 ≤ c18)))) rfl))))))) (fun _ => re_rv rv_ret)))))))) fun c19 => (rs_ite (fun _ => (rs_bindP rv_ret (rs_ret ⟨⟨_, rfl⟩, (.inl rfl)⟩))) (fun _ => (rs_nx (rs_end ⟨rfl, (some (eI x11)), rfl⟩))))))⟩) (fun | a20, _, ⟨j21, rfl⟩ => (rs_last (rs_bindP rv_ret (rs_ret (.inl rfl))))))))))))

def P_is_subsemigroup (s : (Int × (List (List Int)))) (value : (List Int)) : M Bool := M.bind (M.bind (P_is_subset s value) fun c1 => .ok (!c1)) fun c2 => if c2 = true then .ok false else M.bind (M.bind (pFilB (fun (x3 : Int) => .ok true) (fun (x3 : Int) => .ok value) (fun (x3 : Int) (y4 : Int) => .ok true) (fun (x3 : Int) (y4 : Int) => M.bind (M.bind (pAt s.2 x3) fun c5 => pAt c5 y4) fun c6 => .ok (has c6 value)) value) fun c7 => .ok (c7.all id)) fun c8 => .ok c8
theorem S_is_subsemigroup (s : (Int × (List (List Int)))) (value : (List Int)) : DM (d_is_subsemigroup [(eC2 "Semigroup" "n" "table" eI (eT (eT eI))) s, (eT eI) value]) (P_is_subsemigroup s value) eB := fn_F rfl (show RS true (sSeq (sIf (dNot (dTst (dCall d_is_subset (dCons (dVar 0) (dCons (dVar 1) dNil))))) (sRet (dC (.bl false))) sPass) (sRet (dOp1 opAll (dFrz (dCompB [2, 3] [3] (.nm 2) (dItems (dVar 1)) dYes (.nm 3) (dItems (dVar 1)) dYes (dOp2m opIn (dOp2 opIx (dOp2 opIx (dOp1 (opFld "Semigroup" "table") (dVar 0)) (dVar 2)) (dVar 3)) 1)))))) [.sh ((eC2 "Semigroup" "n" "table" eI (eT (eT eI))) s), .sh ((eT eI) value), .no, .no] (P_is_subsemigroup s value) (Kfn eB) from
  (rs_bindG (re_dNot (re_bindG (re_tst (re_dCall (re_consP (rv_var rfl) (re_consP (rv_var rfl) (re_nil (re_liftM (S_is_subset s value))))))) fun c1 => (re_rv (w := (fun b : Bool => b)) rv_ret))) fun c2 => (rs_ite (fun _ => (rs_bindP rv_ret (rs_ret (.inl rfl)))) (fun _ => (rs_nx (rs_last (rs_bindG (re_dOp1 (re_bindG (re_frzN (re_bindP (rv_dItems (rv_bind (rv_var rfl) (rv_lift (y := ((List.map eI) value)) rfl))) (re_compB (e := eI) (e1 := eI) (p := fun (x3 : Int) => .ok true) (g := fun (x3 : Int) => .ok value) (q := fun (x3 : Int) (y4 : Int) => .ok true) (f := fun (x3 : Int) (y4 : Int) => M.bind (M.bind (pAt s.2 x3) fun c5 => pAt c5 y4) fun c6 => .ok (has c6 value)) ([.sh ((eC2 "Semigroup" "n" "table" eI (eT (eT eI))) s), .sh ((eT eI) value), .no, .no]) rfl rfl rfl (fun x3 => ⟨[.sh ((eC2 "Semigroup" "n" "table" eI (eT (eT eI))) s), .sh ((eT eI) value), .sh (eI x3), .no], [.sh ((eC2 "Semigroup" "n" "table" eI (eT (eT eI))) s), .sh ((eT eI) value), .sh (eI x3), .no], [.sh ((eC2 "Semigroup" "n" "table" eI (eT (eT eI))) s), .sh ((eT eI) value), .sh (eI x3), .no], [.sh ((eC2 "Semigroup" "n" "table" eI (eT (eT eI))) s), .sh ((eT eI) value), .sh (eI x3), .no], rfl, (re_rv rv_ret), (re_rv (w := (List.map eI)) (rv_dItems (rv_bind (rv_var rfl) (rv_lift (y := ((List.map eI) value)) rfl)))), rfl, rfl, rfl, (fun y4 => ⟨[.sh ((eC2 "Semigroup" "n" "table" eI (eT (eT eI))) s), .sh ((eT eI) value), .sh (eI x3), .sh (eI y4)], [.sh ((eC2 "Semigroup" "n" "table" eI (eT (eT eI))) s), .sh ((eT eI) value), .sh (eI x3), .sh (eI y4)], [.sh ((eC2 "Semigroup" "n" "table" eI (eT (eT eI))) s), .sh ((eT eI) value), .sh (eI x3), .sh (eI y4)], rfl, (re_rv rv_ret), (re_dOp2m (re_bindG (re_dOp2 (re_bindG (re_dOp2 (re_bindP (rv_dOp1 (rv_bind (rv_var rfl) (rv_lift (by rfl)))) (re_bindP (rv_var rfl) (re_lift op_atT)))) fun c5 => (re_bindP (rv_var rfl) (re_lift op_atT)))) fun c6 => (re_bindP (rv_rd rfl) (re_rv (w := eB) (rv_lift (inL_ (in_fl (x := c6) (xs := value) fl_I).2)))))), rfl, rfl⟩)⟩)))) fun c7 => (re_rv (w := eB) (rv_lift op_all)))) fun c8 => (rs_ret (.inl rfl)))))))))

def P_taken_table_2 (table : (List (List Int))) : M (List (List Int)) := if ((!true) || (decide ((table.length : Int) = 0))) = true then .exn "Malformed" [] else M.bind (pfold (fun (x39 : (List Int)) (a40 : (List (List Int))) => if ((!true) || (!decide ((x39.length : Int) = (table.length : Int)))) = true then .exn "Malformed" [] else M.bind (pfold (fun (x48 : Int) (a49 : Unit) => M.bind (M.bind (P_is_item x48 (table.length : Int)) fun c51 => .ok (!c51)) fun c52 => if c52 = true then .exn "Malformed" [] else .ok ()) x39 ()) fun (a53 : Unit) => M.bind (pApp a40 x39) fun c55 => .ok c55) table []) fun (a58 : (List (List Int))) => .ok a58
theorem S_taken_table_2 (table : (List (List Int))) : DM (d_taken_table [(eL (eL eI)) table]) (P_taken_table_2 table) (eT (eT eI)) := fn_F rfl (show RS true (sSeq (sIf (dOr (dNot (dTst (dOp1 (opIsi2 "list" "tuple") (dVar 0)))) (dTst (dOp2 opEq (dOp1n opLen 0) (dC (.int 0))))) (sRaise0 "Malformed") sPass) (sSeq (sOwn 1 (dLst dNil)) (sSeq (sFor (.nm 2) (dItems (dVar 0)) (sSeq (sIf (dOr (dNot (dTst (dOp1 (opIsi2 "list" "tuple") (dVar 2)))) (dTst (dOp2 opNe (dOp1n opLen 2) (dOp1n opLen 0)))) (sRaise0 "Malformed") sPass) (sSeq (sFor (.nm 3) (dItems (dVar 2)) (sIf (dNot (dTst (dCall d_is_item (dCons (dVar 3) (dCons (dOp1n opLen 0) dNil))))) (sRaise0 "Malformed") sPass)) (sExpr (dAppend 1 (dOp1n opTuple 2)))))) (sRet (dOp1n opTuple 1))))) [.sh ((eL (eL eI)) table), .no, .no, .no] (P_taken_table_2 table) (Kfn (eT (eT eI))) from
  (rs_bindP (rv_dOr (rv_bind (rv_dNot (rv_bind (rv_tst (rv_dOp1 (rv_bind (rv_var rfl) (rv_lift (y := (eB true)) rfl)))) rv_ret)) (rv_or fun _ => (rv_tst (rv_dOp2 (rv_bind (rv_dOp1n (rv_bind (rv_rd rfl) (rv_lift op_lenL))) (rv_bind rv_ret (rv_lift (eq_py pyI (x := (table.length : Int)) (y := 0)))))))))) (rs_ite (fun _ => rs_raise0) (fun _ => (rs_nx (rs_bindP (rv_dLst (rv_nil (rv_lift (y := ((List.map eI) [])) (op_lst (by exact Nat.le_of_ble_eq_true rfl) rfl)))) (rs_put (st1 := [.sh ((eL (eL eI)) table), .ow (List.map eI []), .no, .no]) rfl (rs_bindP (rv_dItems (rv_bind (rv_var rfl) (rv_lift (y := ((List.map (eL eI)) table)) rfl))) (rs_for0 (e := (eL eI)) (xs := table) (a := []) (f := fun (x39 : (List Int)) (a40 : (List (List Int))) => if ((!true) || (!decide ((x39.length : Int) = (table.length : Int)))) = true then .exn "Malformed" [] else M.bind (pfold (fun (x48 : Int) (a49 : Unit) => M.bind (M.bind (P_is_item x48 (table.length : Int)) fun c51 => .ok (!c51)) fun c52 => if c52 = true then .exn "Malformed" [] else .ok ()) x39 ()) fun (a53 : Unit) => M.bind (pApp a40 x39) fun c55 => .ok c55) (fun (a61 : (List (List Int))) (st : DSt) => ∃ (j62 : (Option D)), ∃ (j63 : (Option D)), st = [.sh ((eL (eL eI)) table), .ow (List.map (eT eI) a61), jk j62, jk j63]) ⟨none, none, rfl⟩ (fun | x39, a40, _, ⟨j41, j42, rfl⟩ => ⟨[.sh ((eL (eL eI)) table), .ow (List.map (eT eI) a40), .sh ((eL eI) x39), jk j42], rfl, (rs_bindP (rv_dOr (rv_bind (rv_dNot (rv_bind (rv_tst (rv_dOp1 (rv_bind (rv_var rfl) (rv_lift (y := (eB true)) rfl)))) rv_ret)) (rv_or fun _ => (rv_tst (rv_dOp2 (rv_bind (rv_dOp1n (rv_bind (rv_rd rfl) (rv_lift op_lenL))) (rv_bind (rv_dOp1n (rv_bind (rv_rd rfl) (rv_lift op_lenL))) (rv_lift (ne_py pyI (x := (x39.length : Int)) (y := (table.length : Int))))))))))) (rs_ite (fun _ => rs_raise0) (fun _ => (rs_nx (rs_bindP (rv_dItems (rv_bind (rv_var rfl) (rv_lift (y := ((List.map eI) x39)) rfl))) (rs_for0 (e := eI) (xs := x39) (a := ()) (f := fun (x48 : Int) (a49 : Unit) => M.bind (M.bind (P_is_item x48 (table.length : Int)) fun c51 => .ok (!c51)) fun c52 => if c52 = true then .exn "Malformed" [] else .ok ()) (fun (a56 : Unit) (st : DSt) => ∃ (j57 : (Option D)), st = [.sh ((eL (eL eI)) table), .ow (List.map (eT eI) a40), .sh ((eL eI) x39), jk j57]) ⟨j42, rfl⟩ (fun | x48, a49, _, ⟨j50, rfl⟩ => ⟨[.sh ((eL (eL eI)) table), .ow (List.map (eT eI) a40), .sh ((eL eI) x39), .sh (eI x48)], rfl, (rs_last (rs_bindG (re_dNot (re_bindG (re_tst (re_dCall (re_consP (rv_var rfl) (re_consP (rv_dOp1n (rv_bind (rv_rd rfl) (rv_lift op_lenL))) (re_nil (re_liftM (S_is_item x48 (table.length : Int)))))))) fun c51 => (re_rv (w := (fun b : Bool => b)) rv_ret))) fun c52 => (rs_ite (fun _ => rs_raise0) (fun _ => (rs_nx (rs_end ⟨rfl, (some (eI x48)), rfl⟩))))))⟩) (fun | a53, _, ⟨j54, rfl⟩ => (rs_last (rs_x (x_appP (e := (eT eI)) (xs := a40) rfl (rv_dOp1n (rv_bind (rv_rd rfl) (rv_lift (y := ((eT eI) x39)) rfl))) rfl) fun c55 => rs_st ([.sh ((eL (eL eI)) table), .ow (List.map (eT eI) c55), .sh ((eL eI) x39), jk j54]) rfl (rs_end ⟨rfl, (some ((eL eI) x39)), j54, rfl⟩))))))))))⟩) (fun | a58, _, ⟨j59, j60, rfl⟩ => (rs_last (rs_bindP (rv_dOp1n (rv_bind (rv_rdO rfl) (rv_lift (y := ((eT (eT eI)) a58)) rfl))) (rs_ret (.inl rfl))))))))))))))

def P_Semigroup___init___2 (table : (List (List Int))) : M (Int × (List (List Int))) := M.bind (P_taken_table_2 table) fun c1 => if (decide ((c1.length : Int) > 24)) = true then .exn "Refused" [("reason", eS ("large" : Str))] else M.bind (M.bind (P_is_associative c1) fun c2 => .ok (!c2)) fun c3 => if c3 = true then .exn "Refused" [("reason", eS ("associative" : Str))] else .ok ((c1.length : Int), c1)
theorem S_Semigroup___init___2 (table : (List (List Int))) : DM (makeM "Semigroup" d_Semigroup___init__ [(eL (eL eI)) table]) (P_Semigroup___init___2 table) (eC2 "Semigroup" "n" "table" eI (eT (eT eI))) := fn_I (nd := (fun (r : (Int × (List (List Int)))) => (["n", "table"], [eI r.1, (eT (eT eI)) r.2]))) rfl (show RS true (sSeq (sSet 2 (dCall d_taken_table (dCons (dVar 1) dNil))) (sSeq (sIf (dTst (dOp2 opGt (dOp1n opLen 2) (dC (.int 24)))) (sRaise1 "Refused" "reason" (dC (.str "large"))) sPass) (sSeq (sIf (dNot (dTst (dCall d_is_associative (dCons (dVar 2) dNil)))) (sRaise1 "Refused" "reason" (dC (.str "associative"))) sPass) (sSeq (sSelf 0 "Semigroup" "n" (dOp1n opLen 2)) (sSelf 0 "Semigroup" "table" (dVar 2)))))) [.oi 0 "Semigroup" [] [], .sh ((eL (eL eI)) table), .no] (P_Semigroup___init___2 table) (Kini (fun (r : (Int × (List (List Int)))) => (["n", "table"], [eI r.1, (eT (eT eI)) r.2])) "Semigroup") from
  (rs_bindG (re_dCall (re_consP (rv_var rfl) (re_nil (re_liftM (S_taken_table_2 table))))) fun c1 => (rs_put (st1 := [.oi 0 "Semigroup" [] [], .sh ((eL (eL eI)) table), .sh ((eT (eT eI)) c1)]) rfl (rs_bindP (rv_tst (rv_dOp2 (rv_bind (rv_dOp1n (rv_bind (rv_rd rfl) (rv_lift op_lenT))) (rv_bind rv_ret (rv_lift (y := (eB (decide ((c1.length : Int) > 24)))) rfl))))) (rs_ite (fun _ => (rs_bindP rv_ret rs_raise1)) (fun _ => (rs_nx (rs_bindG (re_dNot (re_bindG (re_tst (re_dCall (re_consP (rv_var rfl) (re_nil (re_liftM (S_is_associative c1)))))) fun c2 => (re_rv (w := (fun b : Bool => b)) rv_ret))) fun c3 => (rs_ite (fun _ => (rs_bindP rv_ret rs_raise1)) (fun _ => (rs_nx (rs_bindP (rv_dOp1n (rv_bind (rv_rd rfl) (rv_lift op_lenT))) (rs_exec (st1 := [.oi 0 "Semigroup" ["n"] [eI (c1.length : Int)], .sh ((eL (eL eI)) table), .sh ((eT (eT eI)) c1)]) (by first | rfl | decide | simp) (rs_last (rs_bindP (rv_var rfl) (rs_exec (st1 := [.oi 0 "Semigroup" ["n", "table"] [eI (c1.length : Int), (eT (eT eI)) c1], .sh ((eL (eL eI)) table), .sh ((eT (eT eI)) c1)]) (by first | rfl | decide | simp) (rs_end ⟨rfl, _, rfl⟩)))))))))))))))))

def P_restricted (s : (Int × (List (List Int)))) (value : (List Int)) : M (Int × (List (List Int))) := M.bind (M.bind (P_is_subsemigroup s value) fun c1 => .ok (!c1)) fun c2 => if c2 = true then .exn "Malformed" [] else M.bind (M.bind (pMap (fun (x3 : Int) => pMap (fun (x4 : Int) => M.bind (M.bind (pAt s.2 x3) fun c5 => pAt c5 x4) fun c6 => pIndex value c6) value) value) fun c7 => P_Semigroup___init___2 c7) fun c8 => .ok c8
theorem S_restricted (s : (Int × (List (List Int)))) (value : (List Int)) : DM (d_restricted [(eC2 "Semigroup" "n" "table" eI (eT (eT eI))) s, (eT eI) value]) (P_restricted s value) (eC2 "Semigroup" "n" "table" eI (eT (eT eI))) := fn_F rfl (show RS true (sSeq (sIf (dNot (dTst (dCall d_is_subsemigroup (dCons (dVar 0) (dCons (dVar 1) dNil))))) (sRaise0 "Malformed") sPass) (sRet (dCall (makeM "Semigroup" d_Semigroup___init__) (dCons (dFrz (dComp [2] (.nm 2) (dItems (dVar 1)) dYes (dFrz (dComp [3] (.nm 3) (dItems (dVar 1)) dYes (dIndexAN 1 (dOp2 opIx (dOp2 opIx (dOp1 (opFld "Semigroup" "table") (dVar 0)) (dVar 2)) (dVar 3))))))) dNil)))) [.sh ((eC2 "Semigroup" "n" "table" eI (eT (eT eI))) s), .sh ((eT eI) value), .no, .no] (P_restricted s value) (Kfn (eC2 "Semigroup" "n" "table" eI (eT (eT eI)))) from
  (rs_bindG (re_dNot (re_bindG (re_tst (re_dCall (re_consP (rv_var rfl) (re_consP (rv_var rfl) (re_nil (re_liftM (S_is_subsemigroup s value))))))) fun c1 => (re_rv (w := (fun b : Bool => b)) rv_ret))) fun c2 => (rs_ite (fun _ => rs_raise0) (fun _ => (rs_nx (rs_last (rs_bindG (re_dCall (re_consG (re_frzN (re_bindP (rv_dItems (rv_bind (rv_var rfl) (rv_lift (y := ((List.map eI) value)) rfl))) (re_compM (e := eI) (f := fun (x3 : Int) => pMap (fun (x4 : Int) => M.bind (M.bind (pAt s.2 x3) fun c5 => pAt c5 x4) fun c6 => pIndex value c6) value) ([.sh ((eC2 "Semigroup" "n" "table" eI (eT (eT eI))) s), .sh ((eT eI) value), .no, .no]) rfl rfl rfl (fun x3 => ⟨[.sh ((eC2 "Semigroup" "n" "table" eI (eT (eT eI))) s), .sh ((eT eI) value), .sh (eI x3), .no], [.sh ((eC2 "Semigroup" "n" "table" eI (eT (eT eI))) s), .sh ((eT eI) value), .sh (eI x3), .no], rfl, (re_frzN (re_bindP (rv_dItems (rv_bind (rv_var rfl) (rv_lift (y := ((List.map eI) value)) rfl))) (re_compM (e := eI) (f := fun (x4 : Int) => M.bind (M.bind (pAt s.2 x3) fun c5 => pAt c5 x4) fun c6 => pIndex value c6) ([.sh ((eC2 "Semigroup" "n" "table" eI (eT (eT eI))) s), .sh ((eT eI) value), .sh (eI x3), .no]) rfl rfl rfl (fun x4 => ⟨[.sh ((eC2 "Semigroup" "n" "table" eI (eT (eT eI))) s), .sh ((eT eI) value), .sh (eI x3), .sh (eI x4)], [.sh ((eC2 "Semigroup" "n" "table" eI (eT (eT eI))) s), .sh ((eT eI) value), .sh (eI x3), .sh (eI x4)], rfl, (re_dIndexAN (re_bindP (rv_rd rfl) (re_bindP (rv_lift rfl) (re_bindG (re_dOp2 (re_bindG (re_dOp2 (re_bindP (rv_dOp1 (rv_bind (rv_var rfl) (rv_lift (by rfl)))) (re_bindP (rv_var rfl) (re_lift op_atT)))) fun c5 => (re_bindP (rv_var rfl) (re_lift op_atT)))) fun c6 => (re_bindP (rv_rd rfl) (re_lift (indexA_T (ks := value) (x := c6) (xs := value) fl_I))))))), rfl, rfl⟩)))), rfl, rfl⟩)))) fun c7 => (re_nil (re_liftM (S_Semigroup___init___2 c7))))) fun c8 => (rs_ret (.inl rfl)))))))))

def P__law_told (s : (Int × (List (List Int)))) (value : (List Int)) : M (Option (Int × (List (List Int)))) := tryM (P_restricted s value) (fun c1 => .ok (some c1)) (fun e2 f3 => pMt mt e2 "Malformed" (.ok none) (.exn e2 f3))
theorem S__law_told (s : (Int × (List (List Int)))) (value : (List Int)) : DM (d__law_told [(eC2 "Semigroup" "n" "table" eI (eT (eT eI))) s, (eT eI) value]) (P__law_told s value) (eO (eC2 "Semigroup" "n" "table" eI (eT (eT eI)))) := fn_F rfl (show RS true (sTry mt (sRet (dCall d_restricted (dCons (dVar 0) (dCons (dVar 1) dNil)))) (⟨"Malformed", none, (sRet (dC .non))⟩ :: [])) [.sh ((eC2 "Semigroup" "n" "table" eI (eT (eT eI))) s), .sh ((eT eI) value)] (P__law_told s value) (Kfn (eO (eC2 "Semigroup" "n" "table" eI (eT (eT eI))))) from
  (rs_last (rs_tryR (st1 := [.sh ((eC2 "Semigroup" "n" "table" eI (eT (eT eI))) s), .sh ((eT eI) value)]) (rv_consL (rv_var rfl) (rv_consL (rv_var rfl) rv_ret)) (S_restricted s value) (fun c1 => (.inl rfl)) (fun e2 f3 => (rs_runU (rs_hretP (rv_eq rv_ret rfl) (.inl rfl)) rs_runN)))))

def P_is_integer_2 (value : D) : M Bool := M.bind (M.bind (pIsi "int" value) fun c1 => if c1 = true then M.bind (pIsi "bool" value) fun c4 => .ok (!c4) else .ok false) fun c6 => .ok c6
theorem S_is_integer_2 (value : D) : DM (d_is_integer [eD value]) (P_is_integer_2 value) eB := fn_F rfl (show RS true (sRet (dIf (dTst (dOp1 (opIsi "int") (dVar 0))) (dVal (dNot (dTst (dOp1 (opIsi "bool") (dVar 0))))) (dC (.bl false)))) [.sh (eD value)] (P_is_integer_2 value) (Kfn eB) from
  (rs_last (rs_bindG (re_dIf (re_bindG (re_tst (re_dOp1 (re_bindP (rv_var rfl) (re_lift op_isiD)))) fun c1 => (re_ite (fun _ => (re_dVal (re_tail (w := eB) (re_dNot (re_bindG (re_tst (re_dOp1 (re_bindP (rv_var rfl) (re_lift op_isiD)))) fun c4 => (re_rv (w := (fun b : Bool => b)) rv_ret))) fun c5 => rv_ret))) (fun _ => (re_rv (w := eB) rv_ret))))) fun c6 => (rs_ret (.inl rfl)))))

def P_is_item_2 (value : D) (n : Int) : M Bool := M.bind (M.bind (P_is_integer_2 value) fun c1 => if c1 = true then M.bind (pLeD (eI 0) value) fun c3 => if c3 = true then pLtD value (eI n) else .ok false else .ok false) fun c4 => .ok c4
theorem S_is_item_2 (value : D) (n : Int) : DM (d_is_item [eD value, eI n]) (P_is_item_2 value n) eB := fn_F rfl (show RS true (sRet (dIf (dTst (dCall d_is_integer (dCons (dVar 0) dNil))) (dChain opLe opLt (dC (.int 0)) (dVar 0) (dVar 1)) (dC (.bl false)))) [.sh (eD value), .sh (eI n)] (P_is_item_2 value n) (Kfn eB) from
  (rs_last (rs_bindG (re_dIf (re_bindG (re_tst (re_dCall (re_consP (rv_var rfl) (re_nil (re_liftM (S_is_integer_2 value)))))) fun c1 => (re_ite (fun _ => (re_dChain (re_bindP rv_ret (re_bindP (rv_var rfl) (re_chainG (o1 := pLeD (eI 0) value) (o2 := pLtD value (eI n)) op_leD (rv_var rfl) op_ltD))))) (fun _ => (re_rv (w := eB) rv_ret))))) fun c4 => (rs_ret (.inl rfl)))))

def P_Semigroup_is_element_2 (self : (Int × (List (List Int)))) (value : D) : M Bool := M.bind (P_is_item_2 value self.1) fun c1 => .ok c1
theorem S_Semigroup_is_element_2 (self : (Int × (List (List Int)))) (value : D) : DM (d_Semigroup_is_element [(eC2 "Semigroup" "n" "table" eI (eT (eT eI))) self, eD value]) (P_Semigroup_is_element_2 self value) eB := fn_F rfl (show RS true (sRet (dCall d_is_item (dCons (dVar 1) (dCons (dOp1 (opFld "Semigroup" "n") (dVar 0)) dNil)))) [.sh ((eC2 "Semigroup" "n" "table" eI (eT (eT eI))) self), .sh (eD value)] (P_Semigroup_is_element_2 self value) (Kfn eB) from
  (rs_last (rs_bindG (re_dCall (re_consP (rv_var rfl) (re_consP (rv_dOp1 (rv_bind (rv_var rfl) (rv_lift (by rfl)))) (re_nil (re_liftM (S_is_item_2 value self.1)))))) fun c1 => (rs_ret (.inl rfl)))))

def P_is_subset_2 (s : (Int × (List (List Int)))) (value : D) : M Bool := M.bind (M.bind (M.bind (pIsi "tuple" value) fun c1 => .ok (!c1)) fun c2 => if c2 = true then .ok true else M.bind (pLenD value) fun c3 => .ok (decide (c3 = 0))) fun c4 => if c4 = true then .ok false else M.bind (M.bind (pLenD value) fun c5 => pRng c5) fun c6 => M.bind (pfor (fun (x16 : Int) (a17 : Unit) => M.bind (M.bind (M.bind (M.bind (oM (opIx value (eI x16))) fun c19 => pNX (P_Semigroup_is_element_2 s c19)) fun c20 => .ok (!c20)) fun c21 => if c21 = true then .ok true else if (decide (x16 > 0)) = true then M.bind (oM (opIx value (eI x16))) fun c22 => M.bind (oM (opIx value (eI (x16 - 1)))) fun c23 => pLeD c22 c23 else .ok false) fun c24 => if c24 = true then .ok (.ret false) else .ok (.nx ())) c6 ()) fun r => pK r (fun (a25 : Unit) => .ok true) (fun q => q)
theorem S_is_subset_2 (s : (Int × (List (List Int)))) (value : D) : DM (d_is_subset [(eC2 "Semigroup" "n" "table" eI (eT (eT eI))) s, eD value]) (P_is_subset_2 s value) eB := fn_F rfl (show RS true (sSeq (sIf (dOr (dNot (dTst (dOp1 (opIsi "tuple") (dVar 1)))) (dTst (dOp2 opEq (dOp1n opLen 1) (dC (.int 0))))) (sRet (dC (.bl false))) sPass) (sSeq (sFor (.nm 2) (dRng (dOp1n opLen 1)) (sIf (dOr (dNot (dTst (dMeth "Semigroup" "is_element" d_Semigroup_is_element (dVar 0) (dCons (dOp2n opIx 1 (dVar 2)) dNil)))) (dAnd (dTst (dOp2 opGt (dVar 2) (dC (.int 0)))) (dTst (dOp2 opLe (dOp2n opIx 1 (dVar 2)) (dOp2n opIx 1 (dOp2 opSub (dVar 2) (dC (.int 1)))))))) (sRet (dC (.bl false))) sPass)) (sRet (dC (.bl true))))) [.sh ((eC2 "Semigroup" "n" "table" eI (eT (eT eI))) s), .sh (eD value), .no] (P_is_subset_2 s value) (Kfn eB) from
  (rs_bindG (re_dOr (re_bindG (re_dNot (re_bindG (re_tst (re_dOp1 (re_bindP (rv_var rfl) (re_lift op_isiD)))) fun c1 => (re_rv (w := (fun b : Bool => b)) rv_ret))) fun c2 => (re_ite (fun _ => re_rv rv_ret) (fun _ => (re_tst (re_dOp2 (re_bindG (re_dOp1n (re_bindP (rv_rd rfl) (re_lift op_lenD))) fun c3 => (re_bindP rv_ret (re_rv (w := eB) (rv_lift (eq_py pyI (x := c3) (y := 0)))))))))))) fun c4 => (rs_ite (fun _ => (rs_bindP rv_ret (rs_ret (.inl rfl)))) (fun _ => (rs_nx (rs_bindG (re_dRng (re_bindG (re_dOp1n (re_bindP (rv_rd rfl) (re_lift op_lenD))) fun c5 => (re_lift op_rng))) fun c6 => (rs_for1 (e := eI) (xs := c6) (a := ()) (f := fun (x16 : Int) (a17 : Unit) => M.bind (M.bind (M.bind (M.bind (oM (opIx value (eI x16))) fun c19 => pNX (P_Semigroup_is_element_2 s c19)) fun c20 => .ok (!c20)) fun c21 => if c21 = true then .ok true else if (decide (x16 > 0)) = true then M.bind (oM (opIx value (eI x16))) fun c22 => M.bind (oM (opIx value (eI (x16 - 1)))) fun c23 => pLeD c22 c23 else .ok false) fun c24 => if c24 = true then .ok (.ret false) else .ok (.nx ())) (h := (fun q => q)) (fun (a27 : Unit) (st : DSt) => ∃ (j28 : (Option D)), st = [.sh ((eC2 "Semigroup" "n" "table" eI (eT (eT eI))) s), .sh (eD value), jk j28]) ⟨none, rfl⟩ (fun | x16, a17, _, ⟨j18, rfl⟩ => ⟨[.sh ((eC2 "Semigroup" "n" "table" eI (eT (eT eI))) s), .sh (eD value), .sh (eI x16)], rfl, (rs_last (rs_bindG (re_dOr (re_bindG (re_dNot (re_bindG (re_tst (re_meth (rv_var rfl) (by rfl) rfl (re_consG (re_dOp2n (re_bindP (rv_rd rfl) (re_bindP (rv_var rfl) (re_bindP (rv_rd rfl) (by first | exact re_lift op_D | exact re_lift op_DL))))) fun c19 => (re_nil (re_methK (S_Semigroup_is_element_2 s c19)))))) fun c20 => (re_rv (w := (fun b : Bool => b)) rv_ret))) fun c21 => (re_ite (fun _ => re_rv rv_ret) (fun _ => (re_dAnd (re_bindP (rv_tst (rv_dOp2 (rv_bind (rv_var rfl) (rv_bind rv_ret (rv_lift (y := (eB (decide (x16 > 0)))) rfl))))) (re_ite (fun _ => (re_tst (re_dOp2 (re_bindG (re_dOp2n (re_bindP (rv_rd rfl) (re_bindP (rv_var rfl) (re_bindP (rv_rd rfl) (by first | exact re_lift op_D | exact re_lift op_DL))))) fun c22 => (re_bindG (re_dOp2n (re_bindP (rv_rd rfl) (re_bindP (rv_dOp2 (rv_bind (rv_var rfl) (rv_bind rv_ret (rv_lift (y := (eI (x16 - 1))) rfl)))) (re_bindP (rv_rd rfl) (by first | exact re_lift op_D | exact re_lift op_DL))))) fun c23 => (re_lift op_leD)))))) (fun _ => re_rv rv_ret)))))))) fun c24 => (rs_ite (fun _ => (rs_bindP rv_ret (rs_ret ⟨⟨_, rfl⟩, (.inl rfl)⟩))) (fun _ => (rs_nx (rs_end ⟨rfl, (some (eI x16)), rfl⟩))))))⟩) (fun | a25, _, ⟨j26, rfl⟩ => (rs_last (rs_bindP rv_ret (rs_ret (.inl rfl))))))))))))

def P_is_subsemigroup_2 (s : (Int × (List (List Int)))) (value : D) : M Bool := M.bind (M.bind (P_is_subset_2 s value) fun c1 => .ok (!c1)) fun c2 => if c2 = true then .ok false else M.bind (M.bind (M.bind (pItems value) fun c3 => pFilB (fun (x4 : D) => .ok true) (fun (x4 : D) => pItems value) (fun (x4 : D) (y5 : D) => .ok true) (fun (x4 : D) (y5 : D) => M.bind (M.bind (M.bind (pI x4) fun c6 => pAt s.2 c6) fun c7 => M.bind (pI y5) fun c8 => pAt c7 c8) fun c9 => pIn (eI c9) value) c3) fun c10 => .ok (c10.all id)) fun c11 => .ok c11
theorem S_is_subsemigroup_2 (s : (Int × (List (List Int)))) (value : D) : DM (d_is_subsemigroup [(eC2 "Semigroup" "n" "table" eI (eT (eT eI))) s, eD value]) (P_is_subsemigroup_2 s value) eB := fn_F rfl (show RS true (sSeq (sIf (dNot (dTst (dCall d_is_subset (dCons (dVar 0) (dCons (dVar 1) dNil))))) (sRet (dC (.bl false))) sPass) (sRet (dOp1 opAll (dFrz (dCompB [2, 3] [3] (.nm 2) (dItems (dVar 1)) dYes (.nm 3) (dItems (dVar 1)) dYes (dOp2m opIn (dOp2 opIx (dOp2 opIx (dOp1 (opFld "Semigroup" "table") (dVar 0)) (dVar 2)) (dVar 3)) 1)))))) [.sh ((eC2 "Semigroup" "n" "table" eI (eT (eT eI))) s), .sh (eD value), .no, .no] (P_is_subsemigroup_2 s value) (Kfn eB) from
  (rs_bindG (re_dNot (re_bindG (re_tst (re_dCall (re_consP (rv_var rfl) (re_consP (rv_var rfl) (re_nil (re_liftM (S_is_subset_2 s value))))))) fun c1 => (re_rv (w := (fun b : Bool => b)) rv_ret))) fun c2 => (rs_ite (fun _ => (rs_bindP rv_ret (rs_ret (.inl rfl)))) (fun _ => (rs_nx (rs_last (rs_bindG (re_dOp1 (re_bindG (re_frzN (re_bindG (re_dItems (re_bindP (rv_var rfl) (re_lift op_itemsD))) fun c3 => (re_compB (e := eD) (e1 := eD) (p := fun (x4 : D) => .ok true) (g := fun (x4 : D) => pItems value) (q := fun (x4 : D) (y5 : D) => .ok true) (f := fun (x4 : D) (y5 : D) => M.bind (M.bind (M.bind (pI x4) fun c6 => pAt s.2 c6) fun c7 => M.bind (pI y5) fun c8 => pAt c7 c8) fun c9 => pIn (eI c9) value) ([.sh ((eC2 "Semigroup" "n" "table" eI (eT (eT eI))) s), .sh (eD value), .no, .no]) rfl rfl rfl (fun x4 => ⟨[.sh ((eC2 "Semigroup" "n" "table" eI (eT (eT eI))) s), .sh (eD value), .sh (eD x4), .no], [.sh ((eC2 "Semigroup" "n" "table" eI (eT (eT eI))) s), .sh (eD value), .sh (eD x4), .no], [.sh ((eC2 "Semigroup" "n" "table" eI (eT (eT eI))) s), .sh (eD value), .sh (eD x4), .no], [.sh ((eC2 "Semigroup" "n" "table" eI (eT (eT eI))) s), .sh (eD value), .sh (eD x4), .no], rfl, (re_rv rv_ret), (re_dItems (re_bindP (rv_var rfl) (re_lift op_itemsD))), rfl, rfl, rfl, (fun y5 => ⟨[.sh ((eC2 "Semigroup" "n" "table" eI (eT (eT eI))) s), .sh (eD value), .sh (eD x4), .sh (eD y5)], [.sh ((eC2 "Semigroup" "n" "table" eI (eT (eT eI))) s), .sh (eD value), .sh (eD x4), .sh (eD y5)], [.sh ((eC2 "Semigroup" "n" "table" eI (eT (eT eI))) s), .sh (eD value), .sh (eD x4), .sh (eD y5)], rfl, (re_rv rv_ret), (re_dOp2m (re_bindG (re_dOp2 (re_bindG (re_dOp2 (re_bindP (rv_dOp1 (rv_bind (rv_var rfl) (rv_lift (by rfl)))) (re_bindG (re_int (rv_var rfl)) fun c6 => (re_lift op_atT)))) fun c7 => (re_bindG (re_int (rv_var rfl)) fun c8 => (re_lift op_atT)))) fun c9 => (re_bindP (rv_rd rfl) (re_lift op_inD)))), rfl, rfl⟩)⟩)))) fun c10 => (re_rv (w := eB) (rv_lift op_all)))) fun c11 => (rs_ret (.inl rfl)))))))))

def P_taken_table_3 (table : (List (List D))) : M (List (List D)) := if ((!true) || (decide ((table.length : Int) = 0))) = true then .exn "Malformed" [] else M.bind (pfold (fun (x39 : (List D)) (a40 : (List (List D))) => if ((!true) || (!decide ((x39.length : Int) = (table.length : Int)))) = true then .exn "Malformed" [] else M.bind (pfold (fun (x48 : D) (a49 : Unit) => M.bind (M.bind (P_is_item_2 x48 (table.length : Int)) fun c51 => .ok (!c51)) fun c52 => if c52 = true then .exn "Malformed" [] else .ok ()) x39 ()) fun (a53 : Unit) => M.bind (pApp a40 x39) fun c55 => .ok c55) table []) fun (a58 : (List (List D))) => .ok a58
theorem S_taken_table_3 (table : (List (List D))) : DM (d_taken_table [(eL (eL eD)) table]) (P_taken_table_3 table) (eT (eT eD)) := fn_F rfl (show RS true (sSeq (sIf (dOr (dNot (dTst (dOp1 (opIsi2 "list" "tuple") (dVar 0)))) (dTst (dOp2 opEq (dOp1n opLen 0) (dC (.int 0))))) (sRaise0 "Malformed") sPass) (sSeq (sOwn 1 (dLst dNil)) (sSeq (sFor (.nm 2) (dItems (dVar 0)) (sSeq (sIf (dOr (dNot (dTst (dOp1 (opIsi2 "list" "tuple") (dVar 2)))) (dTst (dOp2 opNe (dOp1n opLen 2) (dOp1n opLen 0)))) (sRaise0 "Malformed") sPass) (sSeq (sFor (.nm 3) (dItems (dVar 2)) (sIf (dNot (dTst (dCall d_is_item (dCons (dVar 3) (dCons (dOp1n opLen 0) dNil))))) (sRaise0 "Malformed") sPass)) (sExpr (dAppend 1 (dOp1n opTuple 2)))))) (sRet (dOp1n opTuple 1))))) [.sh ((eL (eL eD)) table), .no, .no, .no] (P_taken_table_3 table) (Kfn (eT (eT eD))) from
  (rs_bindP (rv_dOr (rv_bind (rv_dNot (rv_bind (rv_tst (rv_dOp1 (rv_bind (rv_var rfl) (rv_lift (y := (eB true)) rfl)))) rv_ret)) (rv_or fun _ => (rv_tst (rv_dOp2 (rv_bind (rv_dOp1n (rv_bind (rv_rd rfl) (rv_lift op_lenL))) (rv_bind rv_ret (rv_lift (eq_py pyI (x := (table.length : Int)) (y := 0)))))))))) (rs_ite (fun _ => rs_raise0) (fun _ => (rs_nx (rs_bindP (rv_dLst (rv_nil (rv_lift (y := ((List.map eI) [])) (op_lst (by exact Nat.le_of_ble_eq_true rfl) rfl)))) (rs_put (st1 := [.sh ((eL (eL eD)) table), .ow (List.map eI []), .no, .no]) rfl (rs_bindP (rv_dItems (rv_bind (rv_var rfl) (rv_lift (y := ((List.map (eL eD)) table)) rfl))) (rs_for0 (e := (eL eD)) (xs := table) (a := []) (f := fun (x39 : (List D)) (a40 : (List (List D))) => if ((!true) || (!decide ((x39.length : Int) = (table.length : Int)))) = true then .exn "Malformed" [] else M.bind (pfold (fun (x48 : D) (a49 : Unit) => M.bind (M.bind (P_is_item_2 x48 (table.length : Int)) fun c51 => .ok (!c51)) fun c52 => if c52 = true then .exn "Malformed" [] else .ok ()) x39 ()) fun (a53 : Unit) => M.bind (pApp a40 x39) fun c55 => .ok c55) (fun (a61 : (List (List D))) (st : DSt) => ∃ (j62 : (Option D)), ∃ (j63 : (Option D)), st = [.sh ((eL (eL eD)) table), .ow (List.map (eT eD) a61), jk j62, jk j63]) ⟨none, none, rfl⟩ (fun | x39, a40, _, ⟨j41, j42, rfl⟩ => ⟨[.sh ((eL (eL eD)) table), .ow (List.map (eT eD) a40), .sh ((eL eD) x39), jk j42], rfl, (rs_bindP (rv_dOr (rv_bind (rv_dNot (rv_bind (rv_tst (rv_dOp1 (rv_bind (rv_var rfl) (rv_lift (y := (eB true)) rfl)))) rv_ret)) (rv_or fun _ => (rv_tst (rv_dOp2 (rv_bind (rv_dOp1n (rv_bind (rv_rd rfl) (rv_lift op_lenL))) (rv_bind (rv_dOp1n (rv_bind (rv_rd rfl) (rv_lift op_lenL))) (rv_lift (ne_py pyI (x := (x39.length : Int)) (y := (table.length : Int))))))))))) (rs_ite (fun _ => rs_raise0) (fun _ => (rs_nx (rs_bindP (rv_dItems (rv_bind (rv_var rfl) (rv_lift (y := ((List.map eD) x39)) rfl))) (rs_for0 (e := eD) (xs := x39) (a := ()) (f := fun (x48 : D) (a49 : Unit) => M.bind (M.bind (P_is_item_2 x48 (table.length : Int)) fun c51 => .ok (!c51)) fun c52 => if c52 = true then .exn "Malformed" [] else .ok ()) (fun (a56 : Unit) (st : DSt) => ∃ (j57 : (Option D)), st = [.sh ((eL (eL eD)) table), .ow (List.map (eT eD) a40), .sh ((eL eD) x39), jk j57]) ⟨j42, rfl⟩ (fun | x48, a49, _, ⟨j50, rfl⟩ => ⟨[.sh ((eL (eL eD)) table), .ow (List.map (eT eD) a40), .sh ((eL eD) x39), .sh (eD x48)], rfl, (rs_last (rs_bindG (re_dNot (re_bindG (re_tst (re_dCall (re_consP (rv_var rfl) (re_consP (rv_dOp1n (rv_bind (rv_rd rfl) (rv_lift op_lenL))) (re_nil (re_liftM (S_is_item_2 x48 (table.length : Int)))))))) fun c51 => (re_rv (w := (fun b : Bool => b)) rv_ret))) fun c52 => (rs_ite (fun _ => rs_raise0) (fun _ => (rs_nx (rs_end ⟨rfl, (some (eD x48)), rfl⟩))))))⟩) (fun | a53, _, ⟨j54, rfl⟩ => (rs_last (rs_x (x_appP (e := (eT eD)) (xs := a40) rfl (rv_dOp1n (rv_bind (rv_rd rfl) (rv_lift (y := ((eT eD) x39)) rfl))) rfl) fun c55 => rs_st ([.sh ((eL (eL eD)) table), .ow (List.map (eT eD) c55), .sh ((eL eD) x39), jk j54]) rfl (rs_end ⟨rfl, (some ((eL eD) x39)), j54, rfl⟩))))))))))⟩) (fun | a58, _, ⟨j59, j60, rfl⟩ => (rs_last (rs_bindP (rv_dOp1n (rv_bind (rv_rdO rfl) (rv_lift (y := ((eT (eT eD)) a58)) rfl))) (rs_ret (.inl rfl))))))))))))))

def P_is_associative_2 (table : (List (List D))) : M Bool := M.bind (pfor (fun (x46 : (List D)) (a47 : Unit) => M.bind (pRng (table.length : Int)) fun c50 => M.bind (pfor (fun (x69 : Int) (a70 : Unit) => M.bind (M.bind (M.bind (pRng (table.length : Int)) fun c72 => pMap (fun (x73 : Int) => M.bind (M.bind (M.bind (pAt x46 x69) pI) fun c74 => pAt table c74) fun c75 => pAt c75 x73) c72) fun c80 => M.bind (M.bind (pAt table x69) fun c82 => pMap (fun (x83 : D) => M.bind (pI x83) fun c84 => pAt x46 c84) c82) fun c85 => pNe ((eL eD) c80) ((eL eD) c85)) fun c86 => if c86 = true then .ok (.ret false) else .ok (.nx ())) c50 ()) fun r => pK r (fun (a87 : Unit) => .ok (.nx ())) F.ret) table ()) fun r => pK r (fun (a91 : Unit) => .ok true) (fun q => q)
theorem S_is_associative_2 (table : (List (List D))) : DM (d_is_associative [(eT (eT eD)) table]) (P_is_associative_2 table) eB := fn_F rfl (show RS true (sSeq (sFor (.nm 1) (dItems (dVar 0)) (sFor (.nm 2) (dRng (dOp1n opLen 0)) (sIf (dTst (dOp2 opNe (dFrz (dComp [3] (.nm 3) (dRng (dOp1n opLen 0)) dYes (dOp2 opIx (dOp2n opIx 0 (dOp2n opIx 1 (dVar 2))) (dVar 3)))) (dFrz (dComp [4] (.nm 4) (dItems (dOp2n opIx 0 (dVar 2))) dYes (dOp2n opIx 1 (dVar 4)))))) (sRet (dC (.bl false))) sPass))) (sRet (dC (.bl true)))) [.sh ((eT (eT eD)) table), .no, .no, .no, .no] (P_is_associative_2 table) (Kfn eB) from
  (rs_bindP (rv_dItems (rv_bind (rv_var rfl) (rv_lift (y := ((List.map (eT eD)) table)) rfl))) (rs_for1 (e := (eT eD)) (xs := table) (a := ()) (f := fun (x46 : (List D)) (a47 : Unit) => M.bind (pRng (table.length : Int)) fun c50 => M.bind (pfor (fun (x69 : Int) (a70 : Unit) => M.bind (M.bind (M.bind (pRng (table.length : Int)) fun c72 => pMap (fun (x73 : Int) => M.bind (M.bind (M.bind (pAt x46 x69) pI) fun c74 => pAt table c74) fun c75 => pAt c75 x73) c72) fun c80 => M.bind (M.bind (pAt table x69) fun c82 => pMap (fun (x83 : D) => M.bind (pI x83) fun c84 => pAt x46 c84) c82) fun c85 => pNe ((eL eD) c80) ((eL eD) c85)) fun c86 => if c86 = true then .ok (.ret false) else .ok (.nx ())) c50 ()) fun r => pK r (fun (a87 : Unit) => .ok (.nx ())) F.ret) (h := (fun q => q)) (fun (a94 : Unit) (st : DSt) => ∃ (j95 : (Option D)), ∃ (j96 : (Option D)), st = [.sh ((eT (eT eD)) table), jk j95, jk j96, .no, .no]) ⟨none, none, rfl⟩ (fun | x46, a47, _, ⟨j48, j49, rfl⟩ => ⟨[.sh ((eT (eT eD)) table), .sh ((eT eD) x46), jk j49, .no, .no], rfl, (rs_last (rs_bindG (re_dRng (re_bindP (rv_dOp1n (rv_bind (rv_rd rfl) (rv_lift op_lenT))) (re_lift op_rng))) fun c50 => (rs_for1 (e := eI) (xs := c50) (a := ()) (f := fun (x69 : Int) (a70 : Unit) => M.bind (M.bind (M.bind (pRng (table.length : Int)) fun c72 => pMap (fun (x73 : Int) => M.bind (M.bind (M.bind (pAt x46 x69) pI) fun c74 => pAt table c74) fun c75 => pAt c75 x73) c72) fun c80 => M.bind (M.bind (pAt table x69) fun c82 => pMap (fun (x83 : D) => M.bind (pI x83) fun c84 => pAt x46 c84) c82) fun c85 => pNe ((eL eD) c80) ((eL eD) c85)) fun c86 => if c86 = true then .ok (.ret false) else .ok (.nx ())) (h := F.ret) (fun (a89 : Unit) (st : DSt) => ∃ (j90 : (Option D)), st = [.sh ((eT (eT eD)) table), .sh ((eT eD) x46), jk j90, .no, .no]) ⟨j49, rfl⟩ (fun | x69, a70, _, ⟨j71, rfl⟩ => ⟨[.sh ((eT (eT eD)) table), .sh ((eT eD) x46), .sh (eI x69), .no, .no], rfl, (rs_last (rs_bindG (re_tst (re_dOp2 (re_bindG (re_frzN (re_bindG (re_dRng (re_bindP (rv_dOp1n (rv_bind (rv_rd rfl) (rv_lift op_lenT))) (re_lift op_rng))) fun c72 => (re_compM (e := eI) (f := fun (x73 : Int) => M.bind (M.bind (M.bind (pAt x46 x69) pI) fun c74 => pAt table c74) fun c75 => pAt c75 x73) ([.sh ((eT (eT eD)) table), .sh ((eT eD) x46), .sh (eI x69), .no, .no]) rfl rfl rfl (fun x73 => ⟨[.sh ((eT (eT eD)) table), .sh ((eT eD) x46), .sh (eI x69), .sh (eI x73), .no], [.sh ((eT (eT eD)) table), .sh ((eT eD) x46), .sh (eI x69), .sh (eI x73), .no], rfl, (re_dOp2 (re_bindG (re_dOp2n (re_bindP (rv_rd rfl) (re_bindG (re_intG (re_dOp2n (re_bindP (rv_rd rfl) (re_bindP (rv_var rfl) (re_bindP (rv_rd rfl) (re_lift op_atT)))))) fun c74 => (re_bindP (rv_rd rfl) (re_lift op_atT))))) fun c75 => (re_bindP (rv_var rfl) (re_lift op_atT)))), rfl, rfl⟩)))) fun c80 => (re_bindG (re_frzN (re_bindG (re_dItems (re_tail (w := (List.map eD)) (re_dOp2n (re_bindP (rv_rd rfl) (re_bindP (rv_var rfl) (re_bindP (rv_rd rfl) (re_lift op_atT))))) fun c81 => (rv_lift (y := ((List.map eD) c81)) rfl))) fun c82 => (re_compM (e := eD) (f := fun (x83 : D) => M.bind (pI x83) fun c84 => pAt x46 c84) ([.sh ((eT (eT eD)) table), .sh ((eT eD) x46), .sh (eI x69), .no, .no]) rfl rfl rfl (fun x83 => ⟨[.sh ((eT (eT eD)) table), .sh ((eT eD) x46), .sh (eI x69), .no, .sh (eD x83)], [.sh ((eT (eT eD)) table), .sh ((eT eD) x46), .sh (eI x69), .no, .sh (eD x83)], rfl, (re_dOp2n (re_bindP (rv_rd rfl) (re_bindG (re_int (rv_var rfl)) fun c84 => (re_bindP (rv_rd rfl) (re_lift op_atT))))), rfl, rfl⟩)))) fun c85 => (re_lift op_neD))))) fun c86 => (rs_ite (fun _ => (rs_bindP rv_ret (rs_ret ⟨⟨_, rfl⟩, ⟨⟨_, rfl⟩, (.inl rfl)⟩⟩))) (fun _ => (rs_nx (rs_end ⟨rfl, (some (eI x69)), rfl⟩))))))⟩) (fun | a87, _, ⟨j88, rfl⟩ => (rs_end ⟨rfl, (some ((eT eD) x46)), j88, rfl⟩)))))⟩) (fun | a91, _, ⟨j92, j93, rfl⟩ => (rs_last (rs_bindP rv_ret (rs_ret (.inl rfl))))))))

def P_Semigroup___init___3 (table : (List (List D))) : M (Int × (List (List D))) := M.bind (P_taken_table_3 table) fun c1 => if (decide ((c1.length : Int) > 24)) = true then .exn "Refused" [("reason", eS ("large" : Str))] else M.bind (M.bind (P_is_associative_2 c1) fun c2 => .ok (!c2)) fun c3 => if c3 = true then .exn "Refused" [("reason", eS ("associative" : Str))] else .ok ((c1.length : Int), c1)
theorem S_Semigroup___init___3 (table : (List (List D))) : DM (makeM "Semigroup" d_Semigroup___init__ [(eL (eL eD)) table]) (P_Semigroup___init___3 table) (eC2 "Semigroup" "n" "table" eI (eT (eT eD))) := fn_I (nd := (fun (r : (Int × (List (List D)))) => (["n", "table"], [eI r.1, (eT (eT eD)) r.2]))) rfl (show RS true (sSeq (sSet 2 (dCall d_taken_table (dCons (dVar 1) dNil))) (sSeq (sIf (dTst (dOp2 opGt (dOp1n opLen 2) (dC (.int 24)))) (sRaise1 "Refused" "reason" (dC (.str "large"))) sPass) (sSeq (sIf (dNot (dTst (dCall d_is_associative (dCons (dVar 2) dNil)))) (sRaise1 "Refused" "reason" (dC (.str "associative"))) sPass) (sSeq (sSelf 0 "Semigroup" "n" (dOp1n opLen 2)) (sSelf 0 "Semigroup" "table" (dVar 2)))))) [.oi 0 "Semigroup" [] [], .sh ((eL (eL eD)) table), .no] (P_Semigroup___init___3 table) (Kini (fun (r : (Int × (List (List D)))) => (["n", "table"], [eI r.1, (eT (eT eD)) r.2])) "Semigroup") from
  (rs_bindG (re_dCall (re_consP (rv_var rfl) (re_nil (re_liftM (S_taken_table_3 table))))) fun c1 => (rs_put (st1 := [.oi 0 "Semigroup" [] [], .sh ((eL (eL eD)) table), .sh ((eT (eT eD)) c1)]) rfl (rs_bindP (rv_tst (rv_dOp2 (rv_bind (rv_dOp1n (rv_bind (rv_rd rfl) (rv_lift op_lenT))) (rv_bind rv_ret (rv_lift (y := (eB (decide ((c1.length : Int) > 24)))) rfl))))) (rs_ite (fun _ => (rs_bindP rv_ret rs_raise1)) (fun _ => (rs_nx (rs_bindG (re_dNot (re_bindG (re_tst (re_dCall (re_consP (rv_var rfl) (re_nil (re_liftM (S_is_associative_2 c1)))))) fun c2 => (re_rv (w := (fun b : Bool => b)) rv_ret))) fun c3 => (rs_ite (fun _ => (rs_bindP rv_ret rs_raise1)) (fun _ => (rs_nx (rs_bindP (rv_dOp1n (rv_bind (rv_rd rfl) (rv_lift op_lenT))) (rs_exec (st1 := [.oi 0 "Semigroup" ["n"] [eI (c1.length : Int)], .sh ((eL (eL eD)) table), .sh ((eT (eT eD)) c1)]) (by first | rfl | decide | simp) (rs_last (rs_bindP (rv_var rfl) (rs_exec (st1 := [.oi 0 "Semigroup" ["n", "table"] [eI (c1.length : Int), (eT (eT eD)) c1], .sh ((eL (eL eD)) table), .sh ((eT (eT eD)) c1)]) (by first | rfl | decide | simp) (rs_end ⟨rfl, _, rfl⟩)))))))))))))))))

def P_restricted_2 (s : (Int × (List (List Int)))) (value : D) : M (Int × (List (List D))) := M.bind (M.bind (P_is_subsemigroup_2 s value) fun c1 => .ok (!c1)) fun c2 => if c2 = true then .exn "Malformed" [] else M.bind (M.bind (M.bind (pItems value) fun c3 => pMap (fun (x4 : D) => M.bind (pItems value) fun c5 => pMap (fun (x6 : D) => M.bind (oM (isLT value)) fun c7 => M.bind (M.bind (M.bind (pI x4) fun c8 => pAt s.2 c8) fun c9 => M.bind (pI x6) fun c10 => pAt c9 c10) fun c11 => oM (opIndexA value value (eI c11))) c5) c3) fun c12 => P_Semigroup___init___3 c12) fun c13 => .ok c13
theorem S_restricted_2 (s : (Int × (List (List Int)))) (value : D) : DM (d_restricted [(eC2 "Semigroup" "n" "table" eI (eT (eT eI))) s, eD value]) (P_restricted_2 s value) (eC2 "Semigroup" "n" "table" eI (eT (eT eD))) := fn_F rfl (show RS true (sSeq (sIf (dNot (dTst (dCall d_is_subsemigroup (dCons (dVar 0) (dCons (dVar 1) dNil))))) (sRaise0 "Malformed") sPass) (sRet (dCall (makeM "Semigroup" d_Semigroup___init__) (dCons (dFrz (dComp [2] (.nm 2) (dItems (dVar 1)) dYes (dFrz (dComp [3] (.nm 3) (dItems (dVar 1)) dYes (dIndexAN 1 (dOp2 opIx (dOp2 opIx (dOp1 (opFld "Semigroup" "table") (dVar 0)) (dVar 2)) (dVar 3))))))) dNil)))) [.sh ((eC2 "Semigroup" "n" "table" eI (eT (eT eI))) s), .sh (eD value), .no, .no] (P_restricted_2 s value) (Kfn (eC2 "Semigroup" "n" "table" eI (eT (eT eD)))) from
  (rs_bindG (re_dNot (re_bindG (re_tst (re_dCall (re_consP (rv_var rfl) (re_consP (rv_var rfl) (re_nil (re_liftM (S_is_subsemigroup_2 s value))))))) fun c1 => (re_rv (w := (fun b : Bool => b)) rv_ret))) fun c2 => (rs_ite (fun _ => rs_raise0) (fun _ => (rs_nx (rs_last (rs_bindG (re_dCall (re_consG (re_frzN (re_bindG (re_dItems (re_bindP (rv_var rfl) (re_lift op_itemsD))) fun c3 => (re_compM (e := eD) (f := fun (x4 : D) => M.bind (pItems value) fun c5 => pMap (fun (x6 : D) => M.bind (oM (isLT value)) fun c7 => M.bind (M.bind (M.bind (pI x4) fun c8 => pAt s.2 c8) fun c9 => M.bind (pI x6) fun c10 => pAt c9 c10) fun c11 => oM (opIndexA value value (eI c11))) c5) ([.sh ((eC2 "Semigroup" "n" "table" eI (eT (eT eI))) s), .sh (eD value), .no, .no]) rfl rfl rfl (fun x4 => ⟨[.sh ((eC2 "Semigroup" "n" "table" eI (eT (eT eI))) s), .sh (eD value), .sh (eD x4), .no], [.sh ((eC2 "Semigroup" "n" "table" eI (eT (eT eI))) s), .sh (eD value), .sh (eD x4), .no], rfl, (re_frzN (re_bindG (re_dItems (re_bindP (rv_var rfl) (re_lift op_itemsD))) fun c5 => (re_compM (e := eD) (f := fun (x6 : D) => M.bind (oM (isLT value)) fun c7 => M.bind (M.bind (M.bind (pI x4) fun c8 => pAt s.2 c8) fun c9 => M.bind (pI x6) fun c10 => pAt c9 c10) fun c11 => oM (opIndexA value value (eI c11))) ([.sh ((eC2 "Semigroup" "n" "table" eI (eT (eT eI))) s), .sh (eD value), .sh (eD x4), .no]) rfl rfl rfl (fun x6 => ⟨[.sh ((eC2 "Semigroup" "n" "table" eI (eT (eT eI))) s), .sh (eD value), .sh (eD x4), .sh (eD x6)], [.sh ((eC2 "Semigroup" "n" "table" eI (eT (eT eI))) s), .sh (eD value), .sh (eD x4), .sh (eD x6)], rfl, (re_dIndexAN (re_bindP (rv_rd rfl) (re_bindG (re_lift op_oMid) fun c7 => (re_bindG (re_dOp2 (re_bindG (re_dOp2 (re_bindP (rv_dOp1 (rv_bind (rv_var rfl) (rv_lift (by rfl)))) (re_bindG (re_int (rv_var rfl)) fun c8 => (re_lift op_atT)))) fun c9 => (re_bindG (re_int (rv_var rfl)) fun c10 => (re_lift op_atT)))) fun c11 => (re_bindP (rv_rd rfl) (by first | exact re_lift op_D | exact re_lift op_DL)))))), rfl, rfl⟩)))), rfl, rfl⟩)))) fun c12 => (re_nil (re_liftM (S_Semigroup___init___3 c12))))) fun c13 => (rs_ret (.inl rfl)))))))))

def P__law_told_2 (s : (Int × (List (List Int)))) (value : D) : M (Option (Int × (List (List D)))) := tryM (P_restricted_2 s value) (fun c1 => .ok (some c1)) (fun e2 f3 => pMt mt e2 "Malformed" (.ok none) (.exn e2 f3))
theorem S__law_told_2 (s : (Int × (List (List Int)))) (value : D) : DM (d__law_told [(eC2 "Semigroup" "n" "table" eI (eT (eT eI))) s, eD value]) (P__law_told_2 s value) (eO (eC2 "Semigroup" "n" "table" eI (eT (eT eD)))) := fn_F rfl (show RS true (sTry mt (sRet (dCall d_restricted (dCons (dVar 0) (dCons (dVar 1) dNil)))) (⟨"Malformed", none, (sRet (dC .non))⟩ :: [])) [.sh ((eC2 "Semigroup" "n" "table" eI (eT (eT eI))) s), .sh (eD value)] (P__law_told_2 s value) (Kfn (eO (eC2 "Semigroup" "n" "table" eI (eT (eT eD))))) from
  (rs_last (rs_tryR (st1 := [.sh ((eC2 "Semigroup" "n" "table" eI (eT (eT eI))) s), .sh (eD value)]) (rv_consL (rv_var rfl) (rv_consL (rv_var rfl) rv_ret)) (S_restricted_2 s value) (fun c1 => (.inl rfl)) (fun e2 f3 => (rs_runU (rs_hretP (rv_eq rv_ret rfl) (.inl rfl)) rs_runN)))))

def P_law (script : (List Int)) : M Bool := M.bind (pNX (P__law_state script)) fun c1 => M.bind (P__law_semigroup c1 6) fun c3 => M.bind (P_Semigroup___init__ c3.1) fun c5 => M.bind (M.bind (M.bind (M.bind (P__law_take c3.2 2) fun c8 => .ok ((1 + c8.1), c8.2)) fun c9 => M.bind (pRng c9.1) fun c10 => .ok (c10, c9.2)) fun c11 => pMapS (fun (x12 : Int) (r13 : List Int) => P__law_take r13 (c3.1.length : Int)) c11.1 c11.2) fun c15 => M.bind (M.bind (pRng (c3.1.length : Int)) fun c17 => pFilS (fun (x18 : Int) (r19 : List Int) => M.bind (P__law_take r19 2) fun c21 => .ok ((decide (c21.1 = 0)), c21.2)) (fun (x18 : Int) (r19 : List Int) => .ok (x18, r19)) c17 c15.2) fun c23 => M.bind (M.bind (P__law_grown c3.1 c15.1) fun c25 => M.bind (pRng (c3.1.length : Int)) fun c26 => .ok [c25, c23.1, c26]) fun c28 => M.bind (pfor (fun (x85 : (List Int)) (a86 : Unit) => M.bind (pfold (fun (x105 : Int) (a106 : Bool) => M.bind (if a106 = true then M.bind (M.bind (pFil (fun (x113 : Int) => M.bind (M.bind (pAt c3.1 x105) fun c114 => pAt c114 x113) fun c115 => .ok (!has c115 x85)) (fun (x113 : Int) => .ok x113) x85) fun c116 => .ok (c116.length : Int)) fun c117 => .ok (decide (c117 = 0)) else .ok false) fun c118 => .ok c118) x85 (decide ((x85.length : Int) > 0))) fun (a119 : Bool) => M.bind (P__law_told c5 x85) fun c121 => if (!a119) = true then if c121.isSome = true then .ok (.ret false) else .ok (.nx ()) else M.bind (M.bind (M.bind (pIsC "Semigroup" ((eO (eC2 "Semigroup" "n" "table" eI (eT (eT eI)))) c121)) fun c122 => .ok (!c122)) fun c123 => if c123 = true then .ok true else M.bind (oM ((opFld "Semigroup" "table") ((eO (eC2 "Semigroup" "n" "table" eI (eT (eT eI)))) c121))) fun c130 => M.bind (pMap (fun (x131 : Int) => pMap (fun (x132 : Int) => M.bind (M.bind (pAt c3.1 x131) fun c133 => pAt c133 x132) fun c134 => pIndex x85 c134) x85) x85) fun c137 => pNe c130 ((eT (eT eI)) c137)) fun c138 => if c138 = true then .ok (.ret false) else .ok (.nx ())) c28 ()) fun r => pK r (fun (a141 : Unit) => M.bind (M.bind (M.bind (pRng (c3.1.length : Int)) fun c147 => .ok ((eL eI) c147)) fun c148 => .ok [((eT eI) []), (eU ()), (eI 0), c148, ((eP2 eI eI) (0, 0)), ((eT eI) [(c3.1.length : Int)]), ((eT eI) [-1]), ((eT eB) [true]), ((eT eU) [()]), (eS ("0" : Str))]) fun c150 => M.bind (pfor (fun (x156 : D) (a157 : Unit) => M.bind (M.bind (P__law_told_2 c5 x156) fun c159 => .ok c159.isSome) fun c160 => if c160 = true then .ok (.ret false) else .ok (.nx ())) c150 ()) fun r => pK r (fun (a161 : Unit) => .ok true) (fun q => q)) (fun q => q)
theorem S_law (script : (List Int)) : D0 (d_law [D.scr script]) (P_law script) eB := fn_F0 rfl (show RS false (sSeq (sOwn 1 (dCallO d__law_state (dCons (dVar 0) dNil))) (sSeq (sSet 2 (dCallR d__law_semigroup 1 (dCons (dC (.int 6)) dNil))) (sSeq (sSet 3 (dOp1n opLen 2)) (sSeq (sSet 4 (dCall (makeM "Semigroup" d_Semigroup___init__) (dCons (dVar 2) dNil))) (sSeq (sOwn 5 (dComp [12] (.nm 12) (dRng (dOp2 opAdd (dC (.int 1)) (dCallR d__law_take 1 (dCons (dC (.int 2)) dNil)))) dYes (dCallR d__law_take 1 (dCons (dVar 3) dNil)))) (sSeq (sSet 6 (dOp1 opTuple (dFrz (dComp [9] (.nm 9) (dRng (dVar 3)) (dTst (dOp2 opEq (dCallR d__law_take 1 (dCons (dC (.int 2)) dNil)) (dC (.int 0)))) (dVar 9))))) (sSeq (sFor (.nm 7) (dItems (dFrz (dLst (dCons (dCall d__law_grown (dCons (dVar 2) (dCons (dVar 5) dNil))) (dCons (dVar 6) (dCons (dTupRg (dRg1 (dVar 3))) dNil)))))) (sSeq (sSet 8 (dOp2 opGt (dOp1n opLen 7) (dC (.int 0)))) (sSeq (sFor (.nm 9) (dItems (dVar 7)) (sSet 8 (dIf (dTst (dVar 8)) (dOp2 opEq (dOp1 opLen (dFrz (dComp [13] (.nm 13) (dItems (dVar 7)) (dTst (dOp2m opNotIn (dOp2 opIx (dOp2n opIx 2 (dVar 9)) (dVar 13)) 7)) (dVar 13)))) (dC (.int 0))) (dC (.bl false))))) (sSeq (sSet 10 (dCall d__law_told (dCons (dVar 4) (dCons (dVar 7) dNil)))) (sIf (dNot (dTst (dVar 8))) (sIf (dTst (dOp2 opIsNot (dVar 10) (dC .non))) (sRet (dC (.bl false))) sPass) (sIf (dOr (dNot (dTst (dOp1 (opIsC "Semigroup") (dVar 10)))) (dTst (dOp2 opNe (dOp1 (opFld "Semigroup" "table") (dVar 10)) (dOp1 opTuple (dFrz (dComp [9] (.nm 9) (dItems (dVar 7)) dYes (dOp1 opTuple (dFrz (dComp [13] (.nm 13) (dItems (dVar 7)) dYes (dIndexAN 7 (dOp2 opIx (dOp2n opIx 2 (dVar 9)) (dVar 13)))))))))))) (sRet (dC (.bl false))) sPass)))))) (sSeq (sFor (.nm 11) (dItems (dFrz (dLst (dCons (dTup dNil) (dCons (dC .non) (dCons (dC (.int 0)) (dCons (dFrz (dLstRg (dRg1 (dVar 3)))) (dCons (dTup (dCons (dC (.int 0)) (dCons (dC (.int 0)) dNil))) (dCons (dTup (dCons (dVar 3) dNil)) (dCons (dTup (dCons (dOp1 opNeg (dC (.int 1))) dNil)) (dCons (dTup (dCons (dC (.bl true)) dNil)) (dCons (dTup (dCons (dC .non) dNil)) (dCons (dC (.str "0")) dNil))))))))))))) (sIf (dTst (dOp2 opIsNot (dCall d__law_told (dCons (dVar 4) (dCons (dVar 11) dNil))) (dC .non))) (sRet (dC (.bl false))) sPass)) (sRet (dC (.bl true))))))))))) [.sh (D.scr script), .no, .no, .no, .no, .no, .no, .no, .no, .no, .no, .no, .no, .no] (P_law script) (Kfn eB) from
  (rs_bindG (re_dCallO (re_consP (rv_var rfl) (re_nil (re_liftO (S__law_state script))))) fun c1 => (rs_put (st1 := [.sh (D.scr script), .ow (List.map eI c1), .no, .no, .no, .no, .no, .no, .no, .no, .no, .no, .no, .no]) rfl (rs_bindS (fun (r4 : List Int) => [.sh (D.scr script), .ow (List.map eI r4), .no, .no, .no, .no, .no, .no, .no, .no, .no, .no, .no, .no]) (rt_dCallR (rt_bindP (rv_ow rfl) (rt_consP rv_ret (rt_nil (rt_callO (S := fun r2 => [.sh (D.scr script), .ow (List.map eI r2), .no, .no, .no, .no, .no, .no, .no, .no, .no, .no, .no, .no]) rfl (fun _ => rfl) (S__law_semigroup c1 6)))))) fun c3 => (rs_put (st1 := [.sh (D.scr script), .ow (List.map eI c3.2), .sh ((eL (eT eI)) c3.1), .no, .no, .no, .no, .no, .no, .no, .no, .no, .no, .no]) rfl (rs_bindP (rv_dOp1n (rv_bind (rv_rd rfl) (rv_lift op_lenL))) (rs_put (st1 := [.sh (D.scr script), .ow (List.map eI c3.2), .sh ((eL (eT eI)) c3.1), .sh (eI (c3.1.length : Int)), .no, .no, .no, .no, .no, .no, .no, .no, .no, .no]) rfl (rs_bindG (re_dCall (re_consP (rv_var rfl) (re_nil (re_liftM (S_Semigroup___init__ c3.1))))) fun c5 => (rs_put (st1 := [.sh (D.scr script), .ow (List.map eI c3.2), .sh ((eL (eT eI)) c3.1), .sh (eI (c3.1.length : Int)), .sh ((eC2 "Semigroup" "n" "table" eI (eT (eT eI))) c5), .no, .no, .no, .no, .no, .no, .no, .no, .no]) rfl (rs_bindS (fun (r16 : List Int) => [.sh (D.scr script), .ow (List.map eI r16), .sh ((eL (eT eI)) c3.1), .sh (eI (c3.1.length : Int)), .sh ((eC2 "Semigroup" "n" "table" eI (eT (eT eI))) c5), .no, .no, .no, .no, .no, .no, .no, .no, .no]) (rt_bindS (rt_dRng (rt_bindS (rt_dOp2 (rt_bindP rv_ret (rt_bindS (rt_dCallR (rt_bindP (rv_ow rfl) (rt_consP rv_ret (rt_nil (rt_callO (S := fun r7 => [.sh (D.scr script), .ow (List.map eI r7), .sh ((eL (eT eI)) c3.1), .sh (eI (c3.1.length : Int)), .sh ((eC2 "Semigroup" "n" "table" eI (eT (eT eI))) c5), .no, .no, .no, .no, .no, .no, .no, .no, .no]) rfl (fun _ => rfl) (S__law_take c3.2 2)))))) fun c8 => (rt_rv (v := eI) (rv_lift (y := (eI (1 + c8.1))) rfl))))) fun c9 => (rt_re (re_lift op_rng)))) fun c11 => (rt_comp (e := eI) (f := fun (x12 : Int) (r13 : List Int) => P__law_take r13 (c3.1.length : Int)) (S := fun (r13 : List Int) => [.sh (D.scr script), .ow (List.map eI r13), .sh ((eL (eT eI)) c3.1), .sh (eI (c3.1.length : Int)), .sh ((eC2 "Semigroup" "n" "table" eI (eT (eT eI))) c5), .no, .no, .no, .no, .no, .no, .no, .no, .no]) (fun (r13 : List Int) => [.sh (D.scr script), .ow (List.map eI r13), .sh ((eL (eT eI)) c3.1), .sh (eI (c3.1.length : Int)), .sh ((eC2 "Semigroup" "n" "table" eI (eT (eT eI))) c5), .no, .no, .no, .no, .no, .no, .no, .no, .no]) (fun (x12 : Int) (r13 : List Int) => [.sh (D.scr script), .ow (List.map eI r13), .sh ((eL (eT eI)) c3.1), .sh (eI (c3.1.length : Int)), .sh ((eC2 "Semigroup" "n" "table" eI (eT (eT eI))) c5), .no, .no, .no, .no, .no, .no, .no, .sh (eI x12), .no]) (fun _ => rfl) rfl (fun _ => rfl) (fun x12 r13 => ⟨rfl, (rt_dCallR (rt_bindP (rv_ow rfl) (rt_consP (rv_var rfl) (rt_nil (rt_callO (S := fun r14 => [.sh (D.scr script), .ow (List.map eI r14), .sh ((eL (eT eI)) c3.1), .sh (eI (c3.1.length : Int)), .sh ((eC2 "Semigroup" "n" "table" eI (eT (eT eI))) c5), .no, .no, .no, .no, .no, .no, .no, .sh (eI x12), .no]) rfl (fun _ => rfl) (S__law_take r13 (c3.1.length : Int))))))), rfl⟩))) fun c15 => (rs_put (st1 := [.sh (D.scr script), .ow (List.map eI c15.2), .sh ((eL (eT eI)) c3.1), .sh (eI (c3.1.length : Int)), .sh ((eC2 "Semigroup" "n" "table" eI (eT (eT eI))) c5), .ow (List.map eI c15.1), .no, .no, .no, .no, .no, .no, .no, .no]) rfl (rs_bindS (fun (r24 : List Int) => [.sh (D.scr script), .ow (List.map eI r24), .sh ((eL (eT eI)) c3.1), .sh (eI (c3.1.length : Int)), .sh ((eC2 "Semigroup" "n" "table" eI (eT (eT eI))) c5), .ow (List.map eI c15.1), .no, .no, .no, .no, .no, .no, .no, .no]) (rt_dOp1 (rt_tail (w := (eT eI)) (rt_frzN (rt_bindG (re_dRng (re_bindP (rv_var rfl) (re_lift op_rng))) fun c17 => (rt_compF (e := eI) (p := fun (x18 : Int) (r19 : List Int) => M.bind (P__law_take r19 2) fun c21 => .ok ((decide (c21.1 = 0)), c21.2)) (f := fun (x18 : Int) (r19 : List Int) => .ok (x18, r19)) (S := fun (r19 : List Int) => [.sh (D.scr script), .ow (List.map eI r19), .sh ((eL (eT eI)) c3.1), .sh (eI (c3.1.length : Int)), .sh ((eC2 "Semigroup" "n" "table" eI (eT (eT eI))) c5), .ow (List.map eI c15.1), .no, .no, .no, .no, .no, .no, .no, .no]) (fun (r19 : List Int) => [.sh (D.scr script), .ow (List.map eI r19), .sh ((eL (eT eI)) c3.1), .sh (eI (c3.1.length : Int)), .sh ((eC2 "Semigroup" "n" "table" eI (eT (eT eI))) c5), .ow (List.map eI c15.1), .no, .no, .no, .no, .no, .no, .no, .no]) (fun (x18 : Int) (r19 : List Int) => [.sh (D.scr script), .ow (List.map eI r19), .sh ((eL (eT eI)) c3.1), .sh (eI (c3.1.length : Int)), .sh ((eC2 "Semigroup" "n" "table" eI (eT (eT eI))) c5), .ow (List.map eI c15.1), .no, .no, .no, .sh (eI x18), .no, .no, .no, .no]) (fun _ => rfl) rfl (fun _ => rfl) (fun x18 r19 => ⟨rfl, (rt_tst (rt_dOp2 (rt_bindS (rt_dCallR (rt_bindP (rv_ow rfl) (rt_consP rv_ret (rt_nil (rt_callO (S := fun r20 => [.sh (D.scr script), .ow (List.map eI r20), .sh ((eL (eT eI)) c3.1), .sh (eI (c3.1.length : Int)), .sh ((eC2 "Semigroup" "n" "table" eI (eT (eT eI))) c5), .ow (List.map eI c15.1), .no, .no, .no, .sh (eI x18), .no, .no, .no, .no]) rfl (fun _ => rfl) (S__law_take r19 2)))))) fun c21 => (rt_bindP rv_ret (rt_rv (v := eB) (rv_lift (eq_py pyI (x := c21.1) (y := 0)))))))), (rt_rv (v := eI) (rv_var rfl)), rfl⟩)))) fun c22 => (rv_lift (y := ((eT eI) c22.1)) rfl))) fun c23 => (rs_put (st1 := [.sh (D.scr script), .ow (List.map eI c23.2), .sh ((eL (eT eI)) c3.1), .sh (eI (c3.1.length : Int)), .sh ((eC2 "Semigroup" "n" "table" eI (eT (eT eI))) c5), .ow (List.map eI c15.1), .sh ((eT eI) c23.1), .no, .no, .no, .no, .no, .no, .no]) rfl (rs_bindG (re_dItems (re_tail (w := (List.map (eT eI))) (re_frzN (re_dLst (re_consG (re_dCall (re_consP (rv_var rfl) (re_consP (rv_frz rfl) (re_nil (re_liftM (S__law_grown c3.1 c15.1)))))) fun c25 => (re_consP (rv_var rfl) (re_consG (re_trgP (rv_var rfl)) fun c26 => (re_nil (re_rv (w := (List.map (eT eI))) (rv_lift (y := ((List.map (eT eI)) [c25, c23.1, c26])) (op_lst (by exact Nat.le_of_ble_eq_true rfl) rfl))))))))) fun c27 => (rv_lift (y := ((List.map (eT eI)) c27)) rfl))) fun c28 => (rs_for1 (e := (eT eI)) (xs := c28) (a := ()) (f := fun (x85 : (List Int)) (a86 : Unit) => M.bind (pfold (fun (x105 : Int) (a106 : Bool) => M.bind (if a106 = true then M.bind (M.bind (pFil (fun (x113 : Int) => M.bind (M.bind (pAt c3.1 x105) fun c114 => pAt c114 x113) fun c115 => .ok (!has c115 x85)) (fun (x113 : Int) => .ok x113) x85) fun c116 => .ok (c116.length : Int)) fun c117 => .ok (decide (c117 = 0)) else .ok false) fun c118 => .ok c118) x85 (decide ((x85.length : Int) > 0))) fun (a119 : Bool) => M.bind (P__law_told c5 x85) fun c121 => if (!a119) = true then if c121.isSome = true then .ok (.ret false) else .ok (.nx ()) else M.bind (M.bind (M.bind (pIsC "Semigroup" ((eO (eC2 "Semigroup" "n" "table" eI (eT (eT eI)))) c121)) fun c122 => .ok (!c122)) fun c123 => if c123 = true then .ok true else M.bind (oM ((opFld "Semigroup" "table") ((eO (eC2 "Semigroup" "n" "table" eI (eT (eT eI)))) c121))) fun c130 => M.bind (pMap (fun (x131 : Int) => pMap (fun (x132 : Int) => M.bind (M.bind (pAt c3.1 x131) fun c133 => pAt c133 x132) fun c134 => pIndex x85 c134) x85) x85) fun c137 => pNe c130 ((eT (eT eI)) c137)) fun c138 => if c138 = true then .ok (.ret false) else .ok (.nx ())) (h := (fun q => q)) (fun (a165 : Unit) (st : DSt) => ∃ (j166 : (Option D)), ∃ (j167 : (Option D)), ∃ (j168 : (Option D)), ∃ (j169 : (Option D)), st = [.sh (D.scr script), .ow (List.map eI c23.2), .sh ((eL (eT eI)) c3.1), .sh (eI (c3.1.length : Int)), .sh ((eC2 "Semigroup" "n" "table" eI (eT (eT eI))) c5), .sh ((eL eI) c15.1), .sh ((eT eI) c23.1), jk j166, jk j167, jk j168, jk j169, .no, .no, .no]) ⟨none, none, none, none, rfl⟩ (fun | x85, a86, _, ⟨j87, j88, j89, j90, rfl⟩ => ⟨[.sh (D.scr script), .ow (List.map eI c23.2), .sh ((eL (eT eI)) c3.1), .sh (eI (c3.1.length : Int)), .sh ((eC2 "Semigroup" "n" "table" eI (eT (eT eI))) c5), .sh ((eL eI) c15.1), .sh ((eT eI) c23.1), .sh ((eT eI) x85), jk j88, jk j89, jk j90, .no, .no, .no], rfl, (rs_bindP (rv_dOp2 (rv_bind (rv_dOp1n (rv_bind (rv_rd rfl) (rv_lift op_lenT))) (rv_bind rv_ret (rv_lift (y := (eB (decide ((x85.length : Int) > 0)))) rfl)))) (rs_put (st1 := [.sh (D.scr script), .ow (List.map eI c23.2), .sh ((eL (eT eI)) c3.1), .sh (eI (c3.1.length : Int)), .sh ((eC2 "Semigroup" "n" "table" eI (eT (eT eI))) c5), .sh ((eL eI) c15.1), .sh ((eT eI) c23.1), .sh ((eT eI) x85), .sh (eB (decide ((x85.length : Int) > 0))), jk j89, jk j90, .no, .no, .no]) rfl (rs_bindP (rv_dItems (rv_bind (rv_var rfl) (rv_lift (y := ((List.map eI) x85)) rfl))) (rs_for0 (e := eI) (xs := x85) (a := (decide ((x85.length : Int) > 0))) (f := fun (x105 : Int) (a106 : Bool) => M.bind (if a106 = true then M.bind (M.bind (pFil (fun (x113 : Int) => M.bind (M.bind (pAt c3.1 x105) fun c114 => pAt c114 x113) fun c115 => .ok (!has c115 x85)) (fun (x113 : Int) => .ok x113) x85) fun c116 => .ok (c116.length : Int)) fun c117 => .ok (decide (c117 = 0)) else .ok false) fun c118 => .ok c118) (fun (a139 : Bool) (st : DSt) => ∃ (j140 : (Option D)), st = [.sh (D.scr script), .ow (List.map eI c23.2), .sh ((eL (eT eI)) c3.1), .sh (eI (c3.1.length : Int)), .sh ((eC2 "Semigroup" "n" "table" eI (eT (eT eI))) c5), .sh ((eL eI) c15.1), .sh ((eT eI) c23.1), .sh ((eT eI) x85), .sh (eB a139), jk j140, jk j90, .no, .no, .no]) ⟨j89, rfl⟩ (fun | x105, a106, _, ⟨j107, rfl⟩ => ⟨[.sh (D.scr script), .ow (List.map eI c23.2), .sh ((eL (eT eI)) c3.1), .sh (eI (c3.1.length : Int)), .sh ((eC2 "Semigroup" "n" "table" eI (eT (eT eI))) c5), .sh ((eL eI) c15.1), .sh ((eT eI) c23.1), .sh ((eT eI) x85), .sh (eB a106), .sh (eI x105), jk j90, .no, .no, .no], rfl, (rs_last (rs_bindG (re_dIf (re_bindP (rv_tst (rv_var rfl)) (re_ite (fun _ => (re_dOp2 (re_bindG (re_dOp1 (re_bindG (re_frzN (re_bindP (rv_dItems (rv_bind (rv_var rfl) (rv_lift (y := ((List.map eI) x85)) rfl))) (re_compF (e := eI) (p := fun (x113 : Int) => M.bind (M.bind (pAt c3.1 x105) fun c114 => pAt c114 x113) fun c115 => .ok (!has c115 x85)) (f := fun (x113 : Int) => .ok x113) ([.sh (D.scr script), .ow (List.map eI c23.2), .sh ((eL (eT eI)) c3.1), .sh (eI (c3.1.length : Int)), .sh ((eC2 "Semigroup" "n" "table" eI (eT (eT eI))) c5), .sh ((eL eI) c15.1), .sh ((eT eI) c23.1), .sh ((eT eI) x85), .sh (eB a106), .sh (eI x105), jk j90, .no, .no, .no]) rfl rfl rfl (fun x113 => ⟨[.sh (D.scr script), .ow (List.map eI c23.2), .sh ((eL (eT eI)) c3.1), .sh (eI (c3.1.length : Int)), .sh ((eC2 "Semigroup" "n" "table" eI (eT (eT eI))) c5), .sh ((eL eI) c15.1), .sh ((eT eI) c23.1), .sh ((eT eI) x85), .sh (eB a106), .sh (eI x105), jk j90, .no, .no, .sh (eI x113)], [.sh (D.scr script), .ow (List.map eI c23.2), .sh ((eL (eT eI)) c3.1), .sh (eI (c3.1.length : Int)), .sh ((eC2 "Semigroup" "n" "table" eI (eT (eT eI))) c5), .sh ((eL eI) c15.1), .sh ((eT eI) c23.1), .sh ((eT eI) x85), .sh (eB a106), .sh (eI x105), jk j90, .no, .no, .sh (eI x113)], [.sh (D.scr script), .ow (List.map eI c23.2), .sh ((eL (eT eI)) c3.1), .sh (eI (c3.1.length : Int)), .sh ((eC2 "Semigroup" "n" "table" eI (eT (eT eI))) c5), .sh ((eL eI) c15.1), .sh ((eT eI) c23.1), .sh ((eT eI) x85), .sh (eB a106), .sh (eI x105), jk j90, .no, .no, .sh (eI x113)], rfl, (re_tst (re_dOp2m (re_bindG (re_dOp2 (re_bindG (re_dOp2n (re_bindP (rv_rd rfl) (re_bindP (rv_var rfl) (re_bindP (rv_rd rfl) (re_lift op_atL))))) fun c114 => (re_bindP (rv_var rfl) (re_lift op_atT)))) fun c115 => (re_bindP (rv_rd rfl) (re_rv (w := eB) (rv_lift (ninL_ (in_fl (x := c115) (xs := x85) fl_I).2))))))), (re_rv (w := eI) (rv_var rfl)), rfl, rfl⟩)))) fun c116 => (re_rv (w := eI) (rv_lift op_lenL)))) fun c117 => (re_bindP rv_ret (re_rv (w := eB) (rv_lift (eq_py pyI (x := c117) (y := 0)))))))) (fun _ => (re_rv (w := eB) rv_ret))))) fun c118 => (rs_put (st1 := [.sh (D.scr script), .ow (List.map eI c23.2), .sh ((eL (eT eI)) c3.1), .sh (eI (c3.1.length : Int)), .sh ((eC2 "Semigroup" "n" "table" eI (eT (eT eI))) c5), .sh ((eL eI) c15.1), .sh ((eT eI) c23.1), .sh ((eT eI) x85), .sh (eB c118), .sh (eI x105), jk j90, .no, .no, .no]) rfl (rs_end ⟨rfl, (some (eI x105)), rfl⟩))))⟩) (fun | a119, _, ⟨j120, rfl⟩ => (rs_bindG (re_dCall (re_consP (rv_var rfl) (re_consP (rv_var rfl) (re_nil (re_liftM (S__law_told c5 x85)))))) fun c121 => (rs_put (st1 := [.sh (D.scr script), .ow (List.map eI c23.2), .sh ((eL (eT eI)) c3.1), .sh (eI (c3.1.length : Int)), .sh ((eC2 "Semigroup" "n" "table" eI (eT (eT eI))) c5), .sh ((eL eI) c15.1), .sh ((eT eI) c23.1), .sh ((eT eI) x85), .sh (eB a119), jk j120, .sh ((eO (eC2 "Semigroup" "n" "table" eI (eT (eT eI)))) c121), .no, .no, .no]) rfl (rs_last (rs_bindP (rv_dNot (rv_bind (rv_tst (rv_var rfl)) rv_ret)) (rs_ite (fun _ => (rs_bindP (rv_tst (rv_dOp2 (rv_bind (rv_var rfl) (rv_bind rv_ret (rv_lift (by cases c121 <;> rfl)))))) (rs_ite (fun _ => (rs_bindP rv_ret (rs_ret ⟨⟨_, rfl⟩, (.inl rfl)⟩))) (fun _ => (rs_nx (rs_end ⟨rfl, (some ((eT eI) x85)), (some (eB a119)), j120, (some ((eO (eC2 "Semigroup" "n" "table" eI (eT (eT eI)))) c121)), rfl⟩)))))) (fun _ => (rs_bindG (re_dOr (re_bindG (re_dNot (re_bindG (re_tst (re_dOp1 (re_bindP (rv_var rfl) (re_lift op_isCD)))) fun c122 => (re_rv (w := (fun b : Bool => b)) rv_ret))) fun c123 => (re_ite (fun _ => re_rv rv_ret) (fun _ => (re_tst (re_dOp2 (re_bindG (re_dOp1 (re_bindP (rv_var rfl) (by first | exact re_lift op_D | exact re_lift op_DL))) fun c130 => (re_bindG (re_dOp1 (re_tail (w := (eT (eT eI))) (re_frzN (re_bindP (rv_dItems (rv_bind (rv_var rfl) (rv_lift (y := ((List.map eI) x85)) rfl))) (re_compM (e := eI) (f := fun (x131 : Int) => pMap (fun (x132 : Int) => M.bind (M.bind (pAt c3.1 x131) fun c133 => pAt c133 x132) fun c134 => pIndex x85 c134) x85) ([.sh (D.scr script), .ow (List.map eI c23.2), .sh ((eL (eT eI)) c3.1), .sh (eI (c3.1.length : Int)), .sh ((eC2 "Semigroup" "n" "table" eI (eT (eT eI))) c5), .sh ((eL eI) c15.1), .sh ((eT eI) c23.1), .sh ((eT eI) x85), .sh (eB a119), .no, .sh ((eO (eC2 "Semigroup" "n" "table" eI (eT (eT eI)))) c121), .no, .no, .no]) rfl (by cases j120 <;> rfl) rfl (fun x131 => ⟨[.sh (D.scr script), .ow (List.map eI c23.2), .sh ((eL (eT eI)) c3.1), .sh (eI (c3.1.length : Int)), .sh ((eC2 "Semigroup" "n" "table" eI (eT (eT eI))) c5), .sh ((eL eI) c15.1), .sh ((eT eI) c23.1), .sh ((eT eI) x85), .sh (eB a119), .sh (eI x131), .sh ((eO (eC2 "Semigroup" "n" "table" eI (eT (eT eI)))) c121), .no, .no, .no], [.sh (D.scr script), .ow (List.map eI c23.2), .sh ((eL (eT eI)) c3.1), .sh (eI (c3.1.length : Int)), .sh ((eC2 "Semigroup" "n" "table" eI (eT (eT eI))) c5), .sh ((eL eI) c15.1), .sh ((eT eI) c23.1), .sh ((eT eI) x85), .sh (eB a119), .sh (eI x131), .sh ((eO (eC2 "Semigroup" "n" "table" eI (eT (eT eI)))) c121), .no, .no, .no], rfl, (re_dOp1 (re_tail (w := (eT eI)) (re_frzN (re_bindP (rv_dItems (rv_bind (rv_var rfl) (rv_lift (y := ((List.map eI) x85)) rfl))) (re_compM (e := eI) (f := fun (x132 : Int) => M.bind (M.bind (pAt c3.1 x131) fun c133 => pAt c133 x132) fun c134 => pIndex x85 c134) ([.sh (D.scr script), .ow (List.map eI c23.2), .sh ((eL (eT eI)) c3.1), .sh (eI (c3.1.length : Int)), .sh ((eC2 "Semigroup" "n" "table" eI (eT (eT eI))) c5), .sh ((eL eI) c15.1), .sh ((eT eI) c23.1), .sh ((eT eI) x85), .sh (eB a119), .sh (eI x131), .sh ((eO (eC2 "Semigroup" "n" "table" eI (eT (eT eI)))) c121), .no, .no, .no]) rfl rfl rfl (fun x132 => ⟨[.sh (D.scr script), .ow (List.map eI c23.2), .sh ((eL (eT eI)) c3.1), .sh (eI (c3.1.length : Int)), .sh ((eC2 "Semigroup" "n" "table" eI (eT (eT eI))) c5), .sh ((eL eI) c15.1), .sh ((eT eI) c23.1), .sh ((eT eI) x85), .sh (eB a119), .sh (eI x131), .sh ((eO (eC2 "Semigroup" "n" "table" eI (eT (eT eI)))) c121), .no, .no, .sh (eI x132)], [.sh (D.scr script), .ow (List.map eI c23.2), .sh ((eL (eT eI)) c3.1), .sh (eI (c3.1.length : Int)), .sh ((eC2 "Semigroup" "n" "table" eI (eT (eT eI))) c5), .sh ((eL eI) c15.1), .sh ((eT eI) c23.1), .sh ((eT eI) x85), .sh (eB a119), .sh (eI x131), .sh ((eO (eC2 "Semigroup" "n" "table" eI (eT (eT eI)))) c121), .no, .no, .sh (eI x132)], rfl, (re_dIndexAN (re_bindP (rv_rd rfl) (re_bindP (rv_lift rfl) (re_bindG (re_dOp2 (re_bindG (re_dOp2n (re_bindP (rv_rd rfl) (re_bindP (rv_var rfl) (re_bindP (rv_rd rfl) (re_lift op_atL))))) fun c133 => (re_bindP (rv_var rfl) (re_lift op_atT)))) fun c134 => (re_bindP (rv_rd rfl) (re_lift (indexA_T (ks := x85) (x := c134) (xs := x85) fl_I))))))), rfl, rfl⟩)))) fun c135 => (rv_lift (y := ((eT eI) c135)) rfl))), rfl, rfl⟩)))) fun c136 => (rv_lift (y := ((eT (eT eI)) c136)) rfl))) fun c137 => (re_lift op_neD))))))))) fun c138 => (rs_ite (fun _ => (rs_bindP rv_ret (rs_ret ⟨⟨_, rfl⟩, (.inl rfl)⟩))) (fun _ => (rs_nx (rs_end ⟨rfl, (some ((eT eI) x85)), (some (eB a119)), j120, (some ((eO (eC2 "Semigroup" "n" "table" eI (eT (eT eI)))) c121)), rfl⟩))))))))))))))))⟩) (fun | a141, _, ⟨j142, j143, j144, j145, rfl⟩ => (rs_bindG (re_dItems (re_tail (w := (List.map eD)) (re_frzN (re_dLst (re_consP (rv_eq (rv_dTup (rv_nil (rv_lift (y := ((eT eI) [])) (op_tup (by exact Nat.le_of_ble_eq_true rfl) rfl)))) rfl) (re_consP (rv_eq rv_ret rfl) (re_consP (rv_eq rv_ret rfl) (re_consG (re_map (re_frzN (re_lrgP (rv_var rfl))) (fun _ => rfl)) fun c148 => (re_consP (rv_eq (rv_dTup (rv_cons rv_ret (rv_cons rv_ret (rv_nil (rv_lift (y := ((eP2 eI eI) (0, 0))) (op_tup (by exact Nat.le_of_ble_eq_true rfl) rfl)))))) rfl) (re_consP (rv_eq (rv_dTup (rv_cons (rv_var rfl) (rv_nil (rv_lift (y := ((eT eI) [(c3.1.length : Int)])) (op_tup (by exact Nat.le_of_ble_eq_true rfl) rfl))))) rfl) (re_consP (rv_eq (rv_dTup (rv_cons (rv_dOp1 (rv_bind rv_ret (rv_lift (y := (eI (-1))) rfl))) (rv_nil (rv_lift (y := ((eT eI) [-1])) (op_tup (by exact Nat.le_of_ble_eq_true rfl) rfl))))) rfl) (re_consP (rv_eq (rv_dTup (rv_cons rv_ret (rv_nil (rv_lift (y := ((eT eB) [true])) (op_tup (by exact Nat.le_of_ble_eq_true rfl) rfl))))) rfl) (re_consP (rv_eq (rv_dTup (rv_cons rv_ret (rv_nil (rv_lift (y := ((eT eU) [()])) (op_tup (by exact Nat.le_of_ble_eq_true rfl) rfl))))) rfl) (re_consP (rv_eq rv_ret rfl) (re_nil (re_rv (w := (List.map eD)) (rv_lift (y := ((List.map eD) [((eT eI) []), (eU ()), (eI 0), c148, ((eP2 eI eI) (0, 0)), ((eT eI) [(c3.1.length : Int)]), ((eT eI) [-1]), ((eT eB) [true]), ((eT eU) [()]), (eS ("0" : Str))])) (op_lst (by exact Nat.le_of_ble_eq_true rfl) rfl)))))))))))))))) fun c149 => (rv_lift (y := ((List.map eD) c149)) rfl))) fun c150 => (rs_for1 (e := eD) (xs := c150) (a := ()) (f := fun (x156 : D) (a157 : Unit) => M.bind (M.bind (P__law_told_2 c5 x156) fun c159 => .ok c159.isSome) fun c160 => if c160 = true then .ok (.ret false) else .ok (.nx ())) (h := (fun q => q)) (fun (a163 : Unit) (st : DSt) => ∃ (j164 : (Option D)), st = [.sh (D.scr script), .ow (List.map eI c23.2), .sh ((eL (eT eI)) c3.1), .sh (eI (c3.1.length : Int)), .sh ((eC2 "Semigroup" "n" "table" eI (eT (eT eI))) c5), .sh ((eL eI) c15.1), .sh ((eT eI) c23.1), jk j142, jk j143, jk j144, jk j145, jk j164, .no, .no]) ⟨none, rfl⟩ (fun | x156, a157, _, ⟨j158, rfl⟩ => ⟨[.sh (D.scr script), .ow (List.map eI c23.2), .sh ((eL (eT eI)) c3.1), .sh (eI (c3.1.length : Int)), .sh ((eC2 "Semigroup" "n" "table" eI (eT (eT eI))) c5), .sh ((eL eI) c15.1), .sh ((eT eI) c23.1), jk j142, jk j143, jk j144, jk j145, .sh (eD x156), .no, .no], rfl, (rs_last (rs_bindG (re_tst (re_dOp2 (re_bindG (re_dCall (re_consP (rv_var rfl) (re_consP (rv_var rfl) (re_nil (re_liftM (S__law_told_2 c5 x156)))))) fun c159 => (re_bindP rv_ret (re_rv (w := eB) (rv_lift (by cases c159 <;> rfl))))))) fun c160 => (rs_ite (fun _ => (rs_bindP rv_ret (rs_ret ⟨⟨_, rfl⟩, (.inl rfl)⟩))) (fun _ => (rs_nx (rs_end ⟨rfl, (some (eD x156)), rfl⟩))))))⟩) (fun | a161, _, ⟨j162, rfl⟩ => (rs_last (rs_bindP rv_ret (rs_ret (.inl rfl)))))))))))))))))))))))

end LAW

namespace LAW
open DL PySem L2
/-! ### the draws -/
theorem take_d {m : Int} (h0 : 0 < m) (h1 : m < 1073741824) : Draw (fun r => P__law_take r m) (fun v => 0 ≤ v ∧ v < m) := by
  rintro _ ⟨s, t, rfl, g⟩
  have e0 : pAt [s, t] 0 = .ok s := rfl
  have e1 : pAt [s, t] 1 = .ok t := rfl
  have e2 : ∀ v, pSet [s, t] 0 v = .ok [v, t] := fun _ => rfl
  have e3 : ∀ v, pSet [s, t] 1 v = .ok [s, v] := fun _ => rfl
  have e4 : ∀ s v : Int, pAt [s, v] 1 = .ok v := fun _ _ => rfl
  by_cases hs : 0 < s
  · refine ⟨(s % m, [s / m, t]), ?_, ⟨Int.emod_nonneg _ (by omega), Int.emod_lt_of_pos _ h0⟩, s / m, t, rfl, ⟨Int.ediv_nonneg g.s0 (by omega), g.t0, g.t1⟩⟩
    simp [P__law_take, e0, e1, e2, hs, pMod_ok h0, pDiv_ok h0 h1]
  · refine ⟨((((t * 48271 + 11) % 2147483647) / 7) % m, [s, (t * 48271 + 11) % 2147483647]), ?_, ⟨Int.emod_nonneg _ (by omega), Int.emod_lt_of_pos _ h0⟩, s, _, rfl, ⟨g.s0, Int.emod_nonneg _ (by decide), Int.emod_lt_of_pos _ (by decide)⟩⟩
    have q1 : pMul t 48271 = .ok (t * 48271) := pMul_ok2 (by decide)
    have q2 : ∀ x, pMod x 2147483647 = .ok (x % 2147483647) := fun x => pMod_ok (by decide)
    have q3 : ∀ x, pDiv x 7 = .ok (x / 7) := fun x => pDiv_ok (by decide) (by decide)
    simp [P__law_take, e0, e1, e2, e3, e4, hs, q1, q2, q3, pMod_ok h0]
theorem state_d (ns : List Int) : Ok (P__law_state ns) StOk := by
  unfold P__law_state
  refine Ok.bind (P := fun a => Good a.1 a.2) (Ok.fold_all _ ⟨by decide, by decide, by decide⟩ fun x _ a g => ?_) fun a g => ⟨_, rfl, _, _, rfl, g⟩
  rw [pMul_ok2 (by decide), pMul_ok2 (by decide)]
  simp only [bind_ok]
  rw [pMod_ok (by decide)]
  refine Ok.pure ⟨?_, Int.emod_nonneg _ (by decide), Int.emod_lt_of_pos _ (by decide)⟩
  have := g.s0
  show 0 ≤ _ + _
  split <;> omega
/-! ### a drawn order -/
theorem seqIx {j : Nat} {n : Nat} (h : j < n) : seqIndex? (j : Int) n = some j := by
  unfold seqIndex?
  simp; omega
theorem popAt_ok {α : Type} [Inhabited α] {xs : List α} {k : Int} (h0 : 0 ≤ k) (h : k < xs.length) (hb : xs.length ≤ 16777216) : pPopAt xs k = .ok (ix xs k, xs.eraseIdx k.toNat) := by
  obtain ⟨j, rfl⟩ := Int.eq_ofNat_of_zero_le h0
  have hj : j < xs.length := by omega
  unfold pPopAt
  rw [seqIx hj]
  have hbig : big = 16777216 := rfl
  simp only [List.getElem?_eq_getElem hj]
  rw [if_pos (by omega)]
  simp [ix, hj]
theorem perm_erase {α : Type} [Inhabited α] : ∀ (l : List α) (j : Nat), j < l.length → (ix l j :: l.eraseIdx j).Perm l
  | [], _, h => absurd h (Nat.not_lt_zero _)
  | x :: l, 0, _ => .refl _
  | x :: l, j + 1, h => by
    have e : ix (x :: l) ((j + 1 : Nat) : Int) = ix l (j : Int) := by rw [ix_cons (by omega)]; congr 1; omega
    rw [e]
    exact (List.Perm.swap _ _ _).trans ((perm_erase l j (by simpa using h)).cons x)
theorem order_d {n : Int} (h0 : 0 ≤ n) (hn : n ≤ 1000) : Draw (fun r => P__law_order_of r n) (fun p => p.Perm (rng n)) := by
  intro r hr
  unfold P__law_order_of
  rw [pRng_ok h0 (by omega)]
  simp only [bind_ok]
  refine Ok.bind (Ok.fold_rng (fun k (a : List Int × List Int × List Int) => StOk a.1 ∧ (a.2.1.length : Int) = n - k ∧ (a.2.2.length : Int) = k ∧ (a.2.1 ++ a.2.2).Perm (rng n)) h0 ⟨hr, by simp; omega, rfl, by simp⟩ (fun k a hk hk' hi => ?_) fun b h => h) fun b hb => ?_
  · obtain ⟨r, left, found⟩ := a
    obtain ⟨hr, hl, hf, hp⟩ := hi
    simp only at hr hl hf hp ⊢
    refine (take_d (m := (left.length : Int)) (by omega) (by omega) r hr).bind fun c hc => ?_
    obtain ⟨⟨h3, h4⟩, hr'⟩ := hc
    rw [popAt_ok h3 h4 (by omega), bind_ok, pApp_ok (by omega), bind_ok]
    refine Ok.pure ⟨hr', ?_, ?_, ?_⟩
    · simp only [List.length_eraseIdx]
      rw [if_pos (by omega)]
      omega
    · simp; omega
    · simp only
      refine List.Perm.trans ?_ hp
      rw [← List.append_assoc]
      refine List.perm_append_comm.trans ?_
      have := perm_erase left c.1.toNat (by omega)
      rw [Int.toNat_of_nonneg h3] at this
      exact this.append_right found
  · obtain ⟨hr, hl, hf, hp⟩ := hb
    refine Ok.pure ⟨?_, hr⟩
    have : b.2.1 = [] := List.length_eq_zero_iff.mp (by omega)
    rw [this] at hp
    simpa using hp
/-- p is one to one on the numbers below n -/
structure Ord (n : Int) (p : List Int) : Prop where
  len : (p.length : Int) = n
  lt : ∀ x ∈ p, 0 ≤ x ∧ x < n
  inj : ∀ a b, 0 ≤ a → a < n → 0 ≤ b → b < n → ix p a = ix p b → a = b
  sur : ∀ y, 0 ≤ y → y < n → ∃ x, 0 ≤ x ∧ x < n ∧ ix p x = y
theorem Ord.at_ {n : Int} {p : List Int} (o : Ord n p) {x : Int} (h0 : 0 ≤ x) (h1 : x < n) : 0 ≤ ix p x ∧ ix p x < n := o.lt _ (ix_mem h0 (by rw [o.len]; exact h1))
theorem ord_of {n : Int} {p : List Int} (hn : 0 ≤ n) (h : p.Perm (rng n)) : Ord n p := by
  have hl : (p.length : Int) = n := by have := h.length_eq; simp at this; omega
  refine ⟨hl, fun x hx => by simpa using h.mem_iff.mp hx, fun a b ha ha' hb hb' e => ?_, fun y h0 h1 => ?_⟩
  · have nd : p.Nodup := h.nodup_iff.mpr rng_nodup
    unfold ix at e
    rw [List.getD_eq_getElem?_getD, List.getD_eq_getElem?_getD, List.getElem?_eq_getElem (by omega), List.getElem?_eq_getElem (by omega)] at e
    simp only [Option.getD_some] at e
    have := (List.getElem_inj nd).mp e
    omega
  · obtain ⟨i, h2, h3, h4⟩ := mem_ix (h.mem_iff.mpr (mem_rng.mpr ⟨h0, h1⟩))
    exact ⟨i, h2, by omega, h4⟩
end LAW

namespace LAW
open DL PySem L2
/-! ### a table renamed -/
structure Sq (n : Int) (M : List (List Int)) : Prop where
  len : (M.length : Int) = n
  row : ∀ r ∈ M, (r.length : Int) = n
def set2 (M : List (List Int)) (k l v : Int) : List (List Int) := M.set k.toNat ((ix M k).set l.toNat v)
section
variable {n : Int} {M : List (List Int)} {k l v i j : Int}
theorem Sq.rlen (V : Sq n M) (h0 : 0 ≤ i) (h1 : i < n) : ((ix M i).length : Int) = n := V.row _ (ix_mem h0 (by rw [V.len]; exact h1))
theorem pSet2_ok (V : Sq n M) (h0 : 0 ≤ k) (h1 : k < n) (h2 : 0 ≤ l) (h3 : l < n) : pSet2 M k l v = .ok (set2 M k l v) := by
  unfold pSet2 set2
  rw [pAt_ok h0 (by rw [V.len]; exact h1), bind_ok, pSet_ok h2 (by rw [V.rlen h0 h1]; exact h3), bind_ok, pSet_ok h0 (by rw [V.len]; exact h1)]
theorem Sq.set (V : Sq n M) (h0 : 0 ≤ k) (h1 : k < n) : Sq n (set2 M k l v) := by
  refine ⟨by unfold set2; rw [List.length_set]; exact V.len, fun r hr => ?_⟩
  rcases List.mem_or_eq_of_mem_set hr with hr | rfl
  · exact V.row r hr
  · rw [List.length_set]; exact V.rlen h0 h1
theorem mul_set2 (V : Sq n M) (h0 : 0 ≤ k) (h1 : k < n) (h2 : 0 ≤ l) (h3 : l < n) (hi : 0 ≤ i) (hj : 0 ≤ j) : mul (set2 M k l v) i j = if i = k ∧ j = l then v else mul M i j := by
  unfold mul set2
  rw [ix_set h0 (by rw [V.len]; exact h1) hi]
  by_cases e : i = k
  · subst e
    rw [if_pos rfl, ix_set h2 (by rw [V.rlen h0 h1]; exact h3) hj]
    simp
  · rw [if_neg e, if_neg (fun q => e q.1)]
theorem VT_sq {T : List (List Int)} (V : VT n T) : Sq n T := ⟨V.len, V.row⟩
end
theorem renamed_d {n : Int} {T : List (List Int)} {p : List Int} (hn : n ≤ 1000) (V : VT n T) (o : Ord n p) :
    Ok (P__law_renamed T p) (fun S => VT n S ∧ ∀ x y, 0 ≤ x → x < n → 0 ≤ y → y < n → mul S (ix p x) (ix p y) = ix p (mul T x y)) := by
  have n0 := V.n0
  unfold P__law_renamed
  rw [V.len]
  simp only [pRng_ok n0 (show n ≤ 16777216 by omega), bind_ok, bind_pure]
  rw [pMap_tab (f := fun _ _ => 0) n0 (by omega) (fun _ _ _ _ _ _ => rfl), bind_ok]
  refine Ok.bind (Ok.fold_rng (fun k M => Sq n M ∧ ∀ x y, 0 ≤ x → x < n → 0 ≤ y → y < n → x < k → mul M (ix p x) (ix p y) = ix p (mul T x y)) n0 ⟨VT_sq (VT_tab (f := fun _ _ => 0) n0 (fun _ _ _ _ _ _ => ⟨by omega, by omega⟩)), fun x y _ _ _ _ h => by omega⟩ (fun k M hk hk' hM => ?_) fun _ h => h) fun M hM => ?_
  · obtain ⟨sq, hM⟩ := hM
    refine Ok.fold_rng (fun l M => Sq n M ∧ ∀ x y, 0 ≤ x → x < n → 0 ≤ y → y < n → (x < k ∨ (x = k ∧ y < l)) → mul M (ix p x) (ix p y) = ix p (mul T x y)) n0 ⟨sq, fun x y h1 h2 h3 h4 h5 => hM x y h1 h2 h3 h4 (by omega)⟩ (fun l M hl hl' hM => ?_) fun M hM => ⟨hM.1, fun x y h1 h2 h3 h4 h5 => hM.2 x y h1 h2 h3 h4 (by omega)⟩
    obtain ⟨sq, hM⟩ := hM
    have m1 := V.lt hk hk' hl hl'
    have a1 := o.at_ hk hk'
    have a2 := o.at_ hl hl'
    rw [V.at1 hk hk', bind_ok, V.at2 hk hk' hl hl', bind_ok, pAt_ok m1.1 (by rw [o.len]; exact m1.2), bind_ok, pAt_ok hk (by rw [o.len]; exact hk'), bind_ok, pAt_ok hl (by rw [o.len]; exact hl'), bind_ok,
      pSet2_ok sq a1.1 a1.2 a2.1 a2.2, pNX_ok]
    refine Ok.pure ⟨sq.set a1.1 a1.2, fun x y h1 h2 h3 h4 h5 => ?_⟩
    have b1 := o.at_ h1 h2
    have b2 := o.at_ h3 h4
    rw [mul_set2 sq a1.1 a1.2 a2.1 a2.2 b1.1 b2.1]
    by_cases e : x = k ∧ y = l
    · obtain ⟨rfl, rfl⟩ := e
      rw [if_pos ⟨rfl, rfl⟩]
    · rw [if_neg fun q => e ⟨o.inj x k h1 h2 hk hk' q.1, o.inj y l h3 h4 hl hl' q.2⟩]
      exact hM x y h1 h2 h3 h4 (by omega)
  · obtain ⟨sq, hM⟩ := hM
    have hb : big = 16777216 := rfl
    have hl := sq.len
    rw [pMap_ok (fun r => r) (by omega) (fun _ _ => rfl)]
    refine Ok.pure ?_
    rw [List.map_id']
    refine ⟨⟨sq.len, sq.row, fun r hr v hv => ?_⟩, fun x y h1 h2 h3 h4 => hM x y h1 h2 h3 h4 h2⟩
    obtain ⟨i, i0, i1, rfl⟩ := mem_ix hr
    obtain ⟨j, j0, j1, rfl⟩ := mem_ix hv
    rw [sq.len] at i1
    rw [sq.rlen i0 i1] at j1
    obtain ⟨x, x0, x1, rfl⟩ := o.sur i i0 i1
    obtain ⟨y, y0, y1, rfl⟩ := o.sur j j0 j1
    show 0 ≤ mul M (ix p x) (ix p y) ∧ mul M (ix p x) (ix p y) < n
    rw [hM x y x0 x1 y0 y1 x1]
    have m1 := V.lt x0 x1 y0 y1
    exact o.at_ m1.1 m1.2
/-- .. keeps what the brackets say -/
theorem renamed_asc {n : Int} {S T : List (List Int)} {p : List Int} (V : VT n T) (o : Ord n p) (h : ∀ x y, 0 ≤ x → x < n → 0 ≤ y → y < n → mul S (ix p x) (ix p y) = ix p (mul T x y)) (a : Asc n (mul T)) : Asc n (mul S) := by
  intro x y z h1 h2 h3 h4 h5 h6
  obtain ⟨x, x0, x1, rfl⟩ := o.sur x h1 h2
  obtain ⟨y, y0, y1, rfl⟩ := o.sur y h3 h4
  obtain ⟨z, z0, z1, rfl⟩ := o.sur z h5 h6
  have m1 := V.lt x0 x1 y0 y1
  have m2 := V.lt y0 y1 z0 z1
  rw [h x y x0 x1 y0 y1, h y z y0 y1 z0 z1, h _ z m1.1 m1.2 z0 z1, h x _ x0 x1 m2.1 m2.2, a x y z x0 x1 y0 y1 z0 z1]
end LAW

namespace LAW
open DL PySem L2
/-! ### the tables to begin with -/
/-- a semigroup's table of at most so many elements -/
def SG (most : Int) (T : List (List Int)) : Prop := ∃ n, 1 ≤ n ∧ n ≤ most ∧ VT n T ∧ Asc n (mul T)
theorem SG_tab {n most : Int} {f : Int → Int → Int} (h1 : 1 ≤ n) (h2 : n ≤ most) (hc : ∀ x y, 0 ≤ x → x < n → 0 ≤ y → y < n → 0 ≤ f x y ∧ f x y < n) (h : Asc n f) : SG most (tab n f) :=
  ⟨n, h1, h2, VT_tab (by omega) hc, Asc_tab h hc⟩
/-! monogenic ones -/
def red (n i p k : Int) : Int := if k > n then i + (k - i) % p else k
theorem red_add {n i p a b : Int} (hp : 0 < p) (hn : n = i + p - 1) (hi : 1 ≤ i) (ha : 1 ≤ a) (hb : 1 ≤ b) : red n i p (red n i p a + b) = red n i p (a + b) := by
  unfold red
  by_cases h : a > n
  · rw [if_pos h]
    have m1 := Int.emod_nonneg (a - i) (show p ≠ 0 by omega)
    have m2 := Int.emod_lt_of_pos (a - i) hp
    rw [if_pos (show a + b > n by omega)]
    have e : (a + b - i) % p = ((a - i) % p + b) % p := by rw [Int.emod_add_emod, show a - i + b = a + b - i by omega]
    by_cases h2 : i + (a - i) % p + b > n
    · rw [if_pos h2, e, show i + (a - i) % p + b - i = (a - i) % p + b by omega]
    · rw [if_neg h2, e, Int.emod_eq_of_lt (a := (a - i) % p + b) (b := p) (by omega) (by omega)]
      omega
  · rw [if_neg h]
theorem red_rng {n i p k : Int} (hp : 0 < p) (hn : n = i + p - 1) (hi : 1 ≤ i) (hk : 1 ≤ k) : 1 ≤ red n i p k ∧ red n i p k ≤ n := by
  unfold red
  have m1 := Int.emod_nonneg (k - i) (show p ≠ 0 by omega)
  have m2 := Int.emod_lt_of_pos (k - i) hp
  split <;> omega
theorem monogenic_d {most : Int} (h0 : 1 ≤ most) (h1 : most ≤ 1000) : Draw (fun r => P__law_monogenic r most) (SG most) := by
  intro r hr
  unfold P__law_monogenic
  refine Ok.bind (Ok.bind (take_d (m := most) (by omega) (by omega) r hr) fun c hc => Ok.pure (a := (1 + c.1, c.2)) (Q := fun p => (1 ≤ p.1 ∧ p.1 ≤ most) ∧ StOk p.2) ⟨⟨by omega, by omega⟩, hc.2⟩) fun c hc => ?_
  obtain ⟨n, r⟩ := c
  obtain ⟨⟨n1, n2⟩, hr⟩ := hc
  simp only at n1 n2 hr ⊢
  refine Ok.bind (Ok.bind (take_d (m := n) (by omega) (by omega) r hr) fun c hc => Ok.pure (a := (1 + c.1, c.2)) (Q := fun p => (1 ≤ p.1 ∧ p.1 ≤ n) ∧ StOk p.2) ⟨⟨by omega, by omega⟩, hc.2⟩) fun c hc => ?_
  obtain ⟨p, r⟩ := c
  obtain ⟨⟨p1, p2⟩, hr⟩ := hc
  simp only at p1 p2 hr ⊢
  simp only [pRng_ok (show 0 ≤ n by omega) (show n ≤ 16777216 by omega), bind_ok, bind_pure]
  have hin : ∀ x, 0 ≤ x → pfold (fun (x133 : Int) (a134 : List Int) => (if decide (x + x133 + 2 > n) = true then (pMod (x + x133 + 2 - (n + 1 - p)) p).bind fun c139 => M.ok (n + 1 - p + c139) else M.ok (x + x133 + 2)).bind fun a141 => pApp a134 (a141 - 1)) (rng n) [] = .ok ((rng n).map fun y => red n (n + 1 - p) p (x + y + 2) - 1) := by
    intro x hx
    rw [pfold_app (fun y => red n (n + 1 - p) p (x + y + 2) - 1) (rng n) [] (by simp; omega) fun y hy a ha => ?_]
    · simp
    · rw [mem_rng] at hy
      unfold red
      by_cases h : x + y + 2 > n
      · simp only [h, decide_true, if_true]
        rw [pMod_ok (by omega)]
        simp only [bind_ok]
        rw [pApp_ok ha]
      · simp only [h, decide_false, if_false]
        simp only [Bool.false_eq_true, if_false, bind_ok]
        rw [pApp_ok ha]
  rw [pfold_app (fun x => (rng n).map fun y => red n (n + 1 - p) p (x + y + 2) - 1) (rng n) [] (by simp; omega) fun x hx a ha => by
    rw [mem_rng] at hx
    rw [hin x hx.1, bind_ok, pApp_ok ha]]
  refine Ok.pure ⟨?_, hr⟩
  refine SG_tab (f := fun x y => red n (n + 1 - p) p (x + y + 2) - 1) n1 n2 (fun x y hx hx' hy hy' => ?_) (fun x y z hx hx' hy hy' hz hz' => ?_)
  · have := red_rng (n := n) (i := n + 1 - p) (p := p) (k := x + y + 2) (by omega) (by omega) (by omega) (by omega)
    omega
  · have a1 := red_add (n := n) (i := n + 1 - p) (p := p) (a := x + y + 2) (b := z + 1) (by omega) (by omega) (by omega) (by omega) (by omega)
    have a2 := red_add (n := n) (i := n + 1 - p) (p := p) (a := y + z + 2) (b := x + 1) (by omega) (by omega) (by omega) (by omega) (by omega)
    show red _ _ _ (red _ _ _ (x + y + 2) - 1 + z + 2) - 1 = red _ _ _ (x + (red _ _ _ (y + z + 2) - 1) + 2) - 1
    rw [show red n (n + 1 - p) p (x + y + 2) - 1 + z + 2 = red n (n + 1 - p) p (x + y + 2) + (z + 1) by omega, a1,
      show x + (red n (n + 1 - p) p (y + z + 2) - 1) + 2 = red n (n + 1 - p) p (y + z + 2) + (x + 1) by omega, a2]
    congr 2; omega
/-! triples -/
def lists {α : Type} (xs : List α) : Nat → List (List α)
  | 0 => [[]]
  | k + 1 => (lists xs k).flatMap fun l => xs.map fun x => x :: l
theorem mem_lists {α : Type} {xs : List α} : ∀ {l : List α}, (∀ x ∈ l, x ∈ xs) → l ∈ lists xs l.length
  | [], _ => by simp [lists]
  | x :: l, h => by
    simp only [List.length_cons, lists, List.mem_flatMap, List.mem_map]
    exact ⟨l, mem_lists fun y hy => h y (List.mem_cons_of_mem _ hy), x, h x List.mem_cons_self, rfl⟩
def sgB (most : Int) (T : List (List Int)) : Bool :=
  let n : Int := T.length
  decide (1 ≤ n) && (decide (n ≤ most) && (T.all (fun r => decide ((r.length : Int) = n) && r.all fun x => decide (0 ≤ x) && decide (x < n)) && (rng n).all fun x => (rng n).all fun y => (rng n).all fun z => decide (mul T (mul T x y) z = mul T x (mul T y z))))
theorem sgB_ok {most : Int} {T : List (List Int)} (h : sgB most T = true) : SG most T := by
  unfold sgB at h
  simp only [Bool.and_eq_true, decide_eq_true_eq, List.all_eq_true] at h
  obtain ⟨h1, h2, h3, h4⟩ := h
  refine ⟨T.length, h1, h2, ⟨rfl, fun r hr => (h3 r hr).1, fun r hr x hx => (h3 r hr).2 x hx⟩, fun x y z hx hx' hy hy' hz hz' => h4 x (mem_rng.mpr ⟨hx, hx'⟩) y (mem_rng.mpr ⟨hy, hy'⟩) z (mem_rng.mpr ⟨hz, hz'⟩)⟩
def okB (most : Int) (o : M (List (List Int))) : Bool := match o with
  | .ok T => sgB most T
  | _ => false
theorem okB_ok {most : Int} {o : M (List (List Int))} (h : okB most o = true) : Ok o (SG most) := by
  unfold okB at h
  split at h
  · exact Ok.pure (sgB_ok h)
  · cases h
def tripB (a b g : Int) (z : Bool) : Bool := (lists (lists (rng g) a.toNat) b.toNat).all fun tw => (lists (lists [false, true] a.toNat) b.toNat).all fun ho => okB (a * b * g + if z = true then 1 else 0) (P__law_triples a b g tw ho z)
theorem trip_all : ([(1, 1, 1), (1, 1, 2), (1, 2, 1), (2, 1, 1), (1, 2, 2), (2, 1, 2), (2, 2, 1)] : List (Int × Int × Int)).all (fun q => tripB q.1 q.2.1 q.2.2 true && tripB q.1 q.2.1 q.2.2 false) = true := by decide +kernel
end LAW

namespace LAW
open DL PySem L2
theorem mem_lists2 {α : Type} {xs : List α} {k : Nat} {l : List α} (hl : l.length = k) (h : ∀ x ∈ l, x ∈ xs) : l ∈ lists xs k := by subst hl; exact mem_lists h
theorem trip_ok {a b g : Int} {tw : List (List Int)} {ho : List (List Bool)} {z : Bool} (hq : (a, b, g) ∈ ([(1, 1, 1), (1, 1, 2), (1, 2, 1), (2, 1, 1), (1, 2, 2), (2, 1, 2), (2, 2, 1)] : List (Int × Int × Int)))
    (h1 : tw.length = b.toNat ∧ ∀ r ∈ tw, r.length = a.toNat ∧ ∀ x ∈ r, 0 ≤ x ∧ x < g) (h2 : ho.length = b.toNat ∧ ∀ r ∈ ho, r.length = a.toNat) : Ok (P__law_triples a b g tw ho z) (SG (a * b * g + if z = true then 1 else 0)) := by
  have h := List.all_eq_true.mp trip_all _ hq
  simp only [Bool.and_eq_true] at h
  have h : tripB a b g z = true := by cases z <;> simp [h]
  unfold tripB at h
  rw [List.all_eq_true] at h
  have h := h tw (mem_lists2 h1.1 fun r hr => mem_lists2 (h1.2 r hr).1 fun x hx => mem_rng.mpr ((h1.2 r hr).2 x hx))
  rw [List.all_eq_true] at h
  exact okB_ok (h ho (mem_lists2 h2.1 fun r hr => mem_lists2 (h2.2 r hr) fun x _ => by cases x <;> simp))
theorem SG.le {m k : Int} {T : List (List Int)} (h : SG m T) (hk : m ≤ k) : SG k T := by obtain ⟨n, h1, h2, h3⟩ := h; exact ⟨n, h1, by omega, h3⟩
theorem blocks_d {most : Int} (h0 : 1 ≤ most) (h1 : most ≤ 7) : Draw (fun r => P__law_blocks r most) (SG most) := by
  intro r hr
  unfold P__law_blocks
  have two : ∀ r, StOk r → Ok ((P__law_take r 2).bind fun c => M.ok (1 + c.1, c.2)) (fun p => (p.1 = 1 ∨ p.1 = 2) ∧ StOk p.2) := fun r hr =>
    Ok.bind (take_d (m := 2) (by decide) (by decide) r hr) fun c hc => Ok.pure ⟨by have := hc.1; simp only; omega, hc.2⟩
  refine (two r hr).bind fun c hc => ?_
  obtain ⟨a, r⟩ := c
  obtain ⟨ha, hr⟩ := hc
  refine (two r hr).bind fun c hc => ?_
  obtain ⟨b, r⟩ := c
  obtain ⟨hb, hr⟩ := hc
  refine (two r hr).bind fun c hc => ?_
  obtain ⟨g, r⟩ := c
  obtain ⟨hg, hr⟩ := hc
  simp only at ha hb hg hr ⊢
  have e1 : pMul a b = .ok (a * b) := pMul_ok (by rcases ha with rfl | rfl <;> decide)
  have e2 : pMul (a * b) g = .ok (a * b * g) := pMul_ok2 (by rcases hg with rfl | rfl <;> decide)
  simp only [e1, e2, bind_ok]
  refine Ok.bind (P := fun q : Int × Int × Int => q ∈ ([(1, 1, 1), (1, 1, 2), (1, 2, 1), (2, 1, 1), (1, 2, 2), (2, 1, 2), (2, 2, 1)] : List (Int × Int × Int)) ∧ q.1 * q.2.1 * q.2.2 ≤ most) ?_ fun q hq => ?_
  · by_cases hm : a * b * g + 1 > most
    · simp only [hm, decide_true, if_true]
      by_cases h2 : most < 2
      · rw [if_pos h2]
        have : most = 1 := by omega
        subst this
        exact Ok.pure (by decide)
      · rw [if_neg h2]
        exact Ok.pure ⟨by decide, by show (1 : Int) * 1 * 2 ≤ most; omega⟩
    · simp only [hm, decide_false]
      refine Ok.pure ?_
      rcases ha with rfl | rfl <;> rcases hb with rfl | rfl <;> rcases hg with rfl | rfl <;> simp at hm ⊢ <;> omega
  · obtain ⟨a, b, g⟩ := q
    obtain ⟨hq, hle⟩ := hq
    simp only at hle ⊢
    clear ha hb hg two
    have hbd : (1 ≤ a ∧ a ≤ 2) ∧ (1 ≤ b ∧ b ≤ 2) ∧ (1 ≤ g ∧ g ≤ 2) ∧ a * b ≤ 4 := by
      simp at hq
      rcases hq with h | h | h | h | h | h | h <;> obtain ⟨rfl, rfl, rfl⟩ := h <;> decide
    have eab : pMul a b = .ok (a * b) := pMul_ok (by omega)
    have eabg : pMul (a * b) g = .ok (a * b * g) := pMul_ok2 (by omega)
    simp only [pRng_ok (show 0 ≤ a by omega) (show a ≤ 16777216 by omega), pRng_ok (show 0 ≤ b by omega) (show b ≤ 16777216 by omega), bind_ok]
    refine Ok.bind (pMapS_draw (Q := fun row : List Int => row.length = (rng a).length ∧ ∀ x ∈ row, 0 ≤ x ∧ x < g) (by simp; omega) (fun _ _ => pMapS_draw (by simp; omega) fun _ _ => take_d (by omega) (by omega)) r hr) fun tw htw => ?_
    refine Ok.bind (pMapS_draw (Q := fun row : List Bool => row.length = (rng a).length ∧ ∀ x ∈ row, True) (by simp; omega) (fun _ _ => pMapS_draw (by simp; omega) fun _ _ => ?_) tw.2 htw.2) fun ho hho => ?_
    · intro r hr
      exact Ok.bind (take_d (m := 3) (by decide) (by decide) r hr) fun c hc => Ok.pure ⟨trivial, hc.2⟩
    refine Ok.bind (P := fun z : Bool × List Int => (z.1 = true → a * b * g < most) ∧ StOk z.2) ?_ fun z hz => ?_
    · refine Ok.bind (Ok.bind (take_d (m := 2) (by decide) (by decide) ho.2 hho.2) fun c hc => Ok.pure (Q := fun p : Bool × List Int => StOk p.2) hc.2) fun c hc => ?_
      rw [eab, bind_ok, eabg]
      simp only [bind_ok]
      refine Ok.ite (fun _ => Ok.pure ⟨fun h => by simpa using h, hc⟩) (fun _ => Ok.pure ⟨(fun h => by cases h), hc⟩)
    · have ht := htw.1
      have hh := hho.1
      simp only [len_rng] at ht hh
      refine Ok.bind (trip_ok (z := z.1) hq ht ⟨hh.1, fun r hr => (hh.2 r hr).1⟩) fun T hT => Ok.pure ⟨?_, hz.2⟩
      refine hT.le ?_
      have := hz.1
      cases hzz : z.1 with
      | true => have := this hzz; simp; omega
      | false => simp; omega
end LAW

namespace LAW
open DL PySem L2
/-! ### closed under what comes behind -/
def after (f g : List Int) : List Int := f.map fun x => ix g x
structure Mp (k : Int) (f : List Int) : Prop where
  len : (f.length : Int) = k
  ent : ∀ x ∈ f, 0 ≤ x ∧ x < k
theorem after_mp {k : Int} {f g : List Int} (a : Mp k f) (b : Mp k g) : Mp k (after f g) := by
  refine ⟨by simp [after, a.len], fun x hx => ?_⟩
  obtain ⟨y, hy, rfl⟩ := List.mem_map.mp hx
  have := a.ent y hy
  exact b.ent _ (ix_mem this.1 (by rw [b.len]; exact this.2))
theorem after_assoc {k : Int} {f g h : List Int} (a : Mp k f) (b : Mp k g) : after (after f g) h = after f (after g h) := by
  unfold after
  rw [List.map_map]
  apply List.map_congr_left
  intro x hx
  have := a.ent x hx
  simp only [Function.comp]
  rw [ix_map this.1 (by rw [b.len]; exact this.2)]
theorem after_ok {k : Int} {f g : List Int} (hk : k ≤ 1000) (a : Mp k f) (b : Mp k g) : P__law_after f g = .ok (after f g) := by
  unfold P__law_after
  have := a.len
  have hb : big = 16777216 := rfl
  simp only [bind_pure]
  exact pMap_ok (fun x => ix g x) (by omega) fun x hx => pAt_ok (a.ent x hx).1 (by rw [b.len]; exact (a.ent x hx).2)
inductive Gen (G : List (List Int)) : List Int → Prop
  | one {g : List Int} : g ∈ G → Gen G g
  | step {f g : List Int} : Gen G f → g ∈ G → Gen G (after f g)
structure Cl (k : Int) (G F : List (List Int)) : Prop where
  ne : F ≠ []
  mp : ∀ f ∈ F, Mp k f
  gen : ∀ f ∈ F, Gen G f
def Closed (G F : List (List Int)) : Prop := ∀ f ∈ F, ∀ g ∈ G, after f g ∈ F
theorem gen_mp {k : Int} {G : List (List Int)} (h : ∀ g ∈ G, Mp k g) {f : List Int} (q : Gen G f) : Mp k f := by
  induction q with
  | one hg => exact h _ hg
  | step _ hg ih => exact after_mp ih (h _ hg)
/-- one turn -/
theorem turn_d {k : Int} {G F : List (List Int)} (hk : k ≤ 1000) (hG : ∀ g ∈ G, Mp k g) (hF : Cl k G F) (hl : F.length ≤ 1000) :
    Ok (pfold (fun (x105 : List Int) (a106 : List (List Int)) => pfold (fun (x116 : List Int) (a117 : List (List Int)) => (P__law_after x105 x116).bind fun c120 => if ((!has c120 a117) && decide ((a117.length : Int) < 30)) = true then pApp a117 c120 else .ok a117) G a106) F F)
      (fun F' => Cl k G F' ∧ (∃ E, F' = F ++ E) ∧ (∀ f ∈ F, ∀ g ∈ G, after f g ∈ F' ∨ 30 ≤ F'.length) ∧ (Closed G F → F' = F) ∧ (F'.length ≤ 30 ∨ F'.length = F.length)) := by
  refine Ok.fold (fun p F' => Cl k G F' ∧ (∃ E, F' = F ++ E) ∧ (∀ f ∈ p, ∀ g ∈ G, after f g ∈ F' ∨ 30 ≤ F'.length) ∧ (Closed G F → F' = F) ∧ (F'.length ≤ 30 ∨ F'.length = F.length)) ⟨hF, ⟨[], by simp⟩, (fun _ h => by cases h), fun _ => rfl, .inr rfl⟩ (fun p f q A e hA => ?_) fun b h => h
  have hf : f ∈ F := by rw [e]; simp
  refine Ok.imp (Ok.fold (fun p2 F' => Cl k G F' ∧ (∃ E, F' = F ++ E) ∧ (∀ f ∈ p, ∀ g ∈ G, after f g ∈ F' ∨ 30 ≤ F'.length) ∧ (Closed G F → F' = F) ∧ (F'.length ≤ 30 ∨ F'.length = F.length) ∧ (∀ g ∈ p2, after f g ∈ F' ∨ 30 ≤ F'.length))
    ⟨hA.1, hA.2.1, hA.2.2.1, hA.2.2.2.1, hA.2.2.2.2, fun _ h => by cases h⟩ (fun p2 g q2 B e2 hB => ?_) fun b h => h) fun F' hF' => ?_
  · obtain ⟨b1, ⟨E, b2⟩, b3, b4, b5, b6⟩ := hB
    have hg : g ∈ G := by rw [e2]; simp
    have mf : Mp k f := hF.mp f hf
    rw [after_ok hk mf (hG g hg), bind_ok]
    by_cases hc : ((!has (after f g) B) && decide ((B.length : Int) < 30)) = true
    · rw [if_pos hc]
      simp only [Bool.and_eq_true, Bool.not_eq_true', has_eq, decide_eq_false_iff_not, decide_eq_true_eq] at hc
      rw [pApp_ok (by omega)]
      refine Ok.pure ⟨⟨by simp, fun x hx => ?_, fun x hx => ?_⟩, ⟨E ++ [after f g], by rw [b2]; simp⟩, fun x hx y hy => ?_, fun h => ?_, ?_, fun y hy => ?_⟩
      · rcases List.mem_append.mp hx with hx | hx
        · exact b1.mp x hx
        · rw [List.mem_singleton.mp hx]; exact after_mp mf (hG g hg)
      · rcases List.mem_append.mp hx with hx | hx
        · exact b1.gen x hx
        · rw [List.mem_singleton.mp hx]; exact .step (hF.gen f hf) hg
      · rcases b3 x hx y hy with h | h
        · exact .inl (List.mem_append_left _ h)
        · exact .inr (by simp; omega)
      · have := h f hf g hg
        rw [b4 h] at hc
        exact absurd this hc.1
      · left; simp; omega
      · rcases List.mem_append.mp hy with hy | hy
        · rcases b6 y hy with h | h
          · exact .inl (List.mem_append_left _ h)
          · exact .inr (by simp; omega)
        · rw [List.mem_singleton.mp hy]; exact .inl (by simp)
    · rw [if_neg hc]
      refine Ok.pure ⟨b1, ⟨E, b2⟩, b3, b4, b5, fun y hy => ?_⟩
      rcases List.mem_append.mp hy with hy | hy
      · exact b6 y hy
      · rw [List.mem_singleton.mp hy]
        by_cases hm : after f g ∈ B
        · exact .inl hm
        · right
          simp only [has_eq, hm, decide_false, Bool.not_false, Bool.true_and, decide_eq_true_eq] at hc
          omega
  · obtain ⟨b1, b2, b3, b4, b5, b6⟩ := hF'
    refine ⟨b1, b2, fun x hx y hy => ?_, b4, b5⟩
    rcases List.mem_append.mp hx with hx | hx
    · exact b3 x hx y hy
    · rw [List.mem_singleton.mp hx]; exact b6 y hy
theorem closed_d {k : Int} {G : List (List Int)} (hk : k ≤ 1000) (hG : ∀ g ∈ G, Mp k g) (hne : G ≠ []) (hl : G.length ≤ 20) : Ok (P__law_closed G) (fun F => Cl k G F ∧ (30 ≤ F.length ∨ Closed G F)) := by
  unfold P__law_closed
  simp only [bind_pure]
  refine Ok.bind (Ok.fold (fun p F => (∀ f ∈ F, f ∈ p) ∧ F.length ≤ p.length ∧ (p ≠ [] → F ≠ [])) ⟨(fun _ h => by cases h), Nat.le_refl _, fun h => absurd rfl h⟩ (fun p x q a e ha => ?_) fun b h => h) fun F hF => ?_
  · have hpl : p.length < 20 := by rw [e] at hl; simp at hl; omega
    by_cases hc : (!has x a) = true
    · rw [if_pos hc, pApp_ok (by omega)]
      refine Ok.pure ⟨fun f hf => ?_, by simp; omega, fun _ => by simp⟩
      rcases List.mem_append.mp hf with hf | hf
      · exact List.mem_append_left _ (ha.1 f hf)
      · exact List.mem_append_right _ hf
    · rw [if_neg hc]
      refine Ok.pure ⟨fun f hf => List.mem_append_left _ (ha.1 f hf), by simp; omega, fun _ h => ?_⟩
      subst h
      simp [has_eq] at hc
  · have c0 : Cl k G F := ⟨hF.2.2 hne, fun f hf => hG f (hF.1 f hf), fun f hf => .one (hF.1 f hf)⟩
    rw [pRng_ok (by decide) (by decide), bind_ok]
    have hne' := c0.ne
    refine Ok.imp (Ok.fold_rng (fun r A => Cl k G A ∧ A.length ≤ 1000 ∧ (30 ≤ A.length ∨ Closed G A ∨ r + 1 ≤ (A.length : Int))) (by decide) ⟨c0, by omega, .inr (.inr (by have := List.length_pos_iff.mpr hne'; omega))⟩ (fun r A hr hr' hA => ?_) fun b h => h) fun A hA => ?_
    · refine Ok.imp (turn_d hk hG hA.1 hA.2.1) fun B hB => ?_
      obtain ⟨b1, ⟨E, b2⟩, b3, b4, b5⟩ := hB
      have hlen : B.length = A.length + E.length := by rw [b2]; simp
      refine ⟨b1, by rcases b5 with h | h <;> omega, ?_⟩
      rcases hA.2.2 with h | h | h
      · left; omega
      · right; left; rw [b4 h]; exact h
      · by_cases hE : E = []
        · subst hE
          have : B = A := by rw [b2]; simp
          subst this
          by_cases h30 : 30 ≤ B.length
          · exact .inl h30
          · right; left
            intro f hf g hg
            rcases b3 f hf g hg with q | q
            · exact q
            · exact absurd q h30
        · have := List.length_pos_iff.mpr hE
          right; right; omega
    · refine ⟨hA.1, ?_⟩
      rcases hA.2.2 with h | h | h
      · exact .inl h
      · exact .inr h
      · left; omega
/-- what is closed holds all products -/
theorem closed_all {k : Int} {G F : List (List Int)} (hG : ∀ g ∈ G, Mp k g) (hF : Cl k G F) (hc : Closed G F) : ∀ f ∈ F, ∀ g ∈ F, after f g ∈ F := by
  intro f hf g hg
  have hq := hF.gen g hg
  clear hg
  induction hq generalizing f with
  | one h => exact hc f hf _ h
  | step q h ih =>
    rename_i g1 g2
    rw [← after_assoc (hF.mp f hf) (gen_mp hG q)]
    exact hc _ (ih f hf) _ h
/-- the table of maps that are closed -/
theorem maps_tab {k most : Int} {F : List (List Int)} (hk : k ≤ 1000) (hm : most ≤ 1000) (hne : F ≠ []) (hl : (F.length : Int) ≤ most) (hF : ∀ f ∈ F, Mp k f) (hc : ∀ f ∈ F, ∀ g ∈ F, after f g ∈ F) :
    Ok (pMap (fun (x69 : List Int) => pMap (fun (x70 : List Int) => (P__law_after x69 x70).bind fun c71 => pIndex F c71) F) F) (SG most) := by
  have hb : big = 16777216 := rfl
  have e : pMap (fun (x69 : List Int) => pMap (fun (x70 : List Int) => (P__law_after x69 x70).bind fun c71 => pIndex F c71) F) F = .ok (tab F.length fun i j => idx F (after (ix F i) (ix F j))) := by
    rw [pMap_ok (fun f => F.map fun g => idx F (after f g)) (by omega) fun f hf => ?_]
    · unfold tab
      rw [map_rng]
      congr 1
      apply List.map_congr_left
      intro i hi
      rw [map_rng]
    · refine pMap_ok (fun g => idx F (after f g)) (by omega) fun g hg => ?_
      rw [after_ok hk (hF f hf) (hF g hg), bind_ok, pIndex_ok (hc f hf g hg)]
  refine Ok.of e ?_
  have hpos := List.length_pos_iff.mpr hne
  have at_ : ∀ i : Int, 0 ≤ i → i < F.length → ix F i ∈ F := fun i h0 h1 => ix_mem h0 h1
  refine SG_tab (by omega) hl (fun x y hx hx' hy hy' => ?_) (fun x y z hx hx' hy hy' hz hz' => ?_)
  · exact idx_lt (hc _ (at_ x hx hx') _ (at_ y hy hy'))
  · rw [ix_idx (hc _ (at_ x hx hx') _ (at_ y hy hy')), ix_idx (hc _ (at_ y hy hy') _ (at_ z hz hz')), after_assoc (hF _ (at_ x hx hx')) (hF _ (at_ y hy hy'))]
theorem of_maps_d {most : Int} (h0 : 1 ≤ most) (h1 : most < 30) : Draw (fun r => P__law_of_maps r most) (SG most) := by
  intro r hr
  unfold P__law_of_maps
  simp only [bind_bind, bind_ok, bind_pure]
  refine (take_d (m := 2) (by decide) (by decide) r hr).bind fun c hc => ?_
  obtain ⟨d, r⟩ := c
  obtain ⟨hd, hr⟩ := hc
  simp only at hd hr ⊢
  obtain ⟨k, rfl⟩ : ∃ k, d = k - 2 := ⟨d + 2, by omega⟩
  simp only [show 2 + (k - 2) = k by omega]
  have hk : 2 ≤ k ∧ k ≤ 3 := by omega
  refine (take_d (m := 2) (by decide) (by decide) r hr).bind fun c hc => ?_
  obtain ⟨d, r⟩ := c
  obtain ⟨hd, hr⟩ := hc
  simp only at hd hr ⊢
  simp only [pRng_ok (show 0 ≤ 1 + d by omega) (show 1 + d ≤ 16777216 by omega), pRng_ok (show 0 ≤ k by omega) (show k ≤ 16777216 by omega), bind_ok]
  refine Ok.bind (Ok.fold_rng (fun i (a : List Int × List (List Int)) => StOk a.1 ∧ (a.2.length : Int) = i ∧ ∀ g ∈ a.2, Mp k g) (by omega) ⟨hr, rfl, fun _ h => by cases h⟩ (fun i a hi hi' ha => ?_) fun b h => h) fun a ha => ?_
  · refine (pMapS_draw (Q := fun x => 0 ≤ x ∧ x < k) (by simp; omega) (fun _ _ => take_d (by omega) (by omega)) a.1 ha.1).bind fun m hm => ?_
    rw [pApp_ok (by have := ha.2.1; omega), bind_ok]
    refine Ok.pure ⟨hm.2, by have := ha.2.1; simp; omega, fun g hg => ?_⟩
    rcases List.mem_append.mp hg with hg | hg
    · exact ha.2.2 g hg
    · rw [List.mem_singleton.mp hg]
      exact ⟨by have := hm.1.1; simp at this; omega, hm.1.2⟩
  · obtain ⟨r, G⟩ := a
    obtain ⟨hr, hl, hG⟩ := ha
    simp only at hr hl hG ⊢
    have hne : G ≠ [] := by intro h; subst h; simp at hl; omega
    refine (closed_d (by omega) hG hne (by omega)).bind fun F hF => ?_
    -- either closed, or one map that takes all to one point
    refine Ok.bind (P := fun F : List (List Int) => F ≠ [] ∧ (∀ f ∈ F, Mp k f) ∧ ((F.length : Int) ≤ most → ∀ f ∈ F, ∀ g ∈ F, after f g ∈ F)) ?_ fun F hF => ?_
    · have fin : ∀ {G F}, (∀ g ∈ G, Mp k g) → Cl k G F → (30 ≤ F.length ∨ Closed G F) → F ≠ [] ∧ (∀ f ∈ F, Mp k f) ∧ ((F.length : Int) ≤ most → ∀ f ∈ F, ∀ g ∈ F, after f g ∈ F) := fun {G F} hG c h => ⟨c.ne, c.mp, fun hle => by
        rcases h with h | h
        · omega
        · exact closed_all hG c h⟩
      refine Ok.ite (fun _ => ?_) (fun _ => Ok.pure (fin hG hF.1 hF.2))
      have hsub : ∀ g ∈ cutD G none (some 1), Mp k g := fun g hg => hG g (by unfold cutD at hg; exact List.mem_of_mem_drop (List.mem_of_mem_take hg))
      have hn2 : cutD G none (some 1) ≠ [] ∧ (cutD G none (some 1)).length ≤ 20 := by
        cases G with
        | nil => exact absurd rfl hne
        | cons g G =>
          have : cutD (g :: G) none (some 1) = [g] := by
            unfold cutD HT.sIx
            simp
          rw [this]; simp
      refine Ok.imp (closed_d (by omega) hsub hn2.1 hn2.2) fun F hF => fin hsub hF.1 hF.2
    · refine Ok.bind (P := fun F : List (List Int) => F ≠ [] ∧ (F.length : Int) ≤ most ∧ (∀ f ∈ F, Mp k f) ∧ ∀ f ∈ F, ∀ g ∈ F, after f g ∈ F) ?_ fun F hF => ?_
      · refine Ok.ite (fun _ => ?_) (fun h => Ok.pure ⟨hF.1, by simpa using h, hF.2.1, hF.2.2 (by simpa using h)⟩)
        have g0 : Mp k (ix G 0) := hG _ (ix_mem (by decide) (by omega))
        have hv := g0.ent _ (ix_mem (xs := ix G 0) (i := 0) (by decide) (by rw [g0.len]; omega))
        have hb : big = 16777216 := rfl
        rw [pMap_ok (fun _ => ix (ix G 0) 0) (by simp; omega) (fun x _ => by rw [pAt_ok (by decide) (by omega), bind_ok, pAt_ok (by decide) (by rw [g0.len]; omega)]), bind_ok]
        have mc : Mp k ((rng k).map fun _ => ix (ix G 0) 0) := ⟨by simp; omega, fun x hx => by obtain ⟨_, _, rfl⟩ := List.mem_map.mp hx; exact hv⟩
        refine Ok.pure ⟨by simp, by simp; omega, fun f hf => ?_, fun f hf g hg => ?_⟩
        · rw [List.mem_singleton.mp hf]; exact mc
        · rw [List.mem_singleton.mp hf, List.mem_singleton.mp hg, List.mem_singleton]
          unfold after
          rw [List.map_map]
          apply List.map_congr_left
          intro x _
          simp only [Function.comp]
          rw [ix_map_rng hv.1 hv.2]
      · exact (maps_tab (by omega) (by omega) hF.1 hF.2.1 hF.2.2.1 hF.2.2.2).bind fun T hT => Ok.pure ⟨hT, hr⟩
end LAW

namespace LAW
open DL PySem L2
theorem plain_d {most : Int} (h0 : 1 ≤ most) (h1 : most ≤ 7) : Draw (fun r => P__law_plain r most) (SG most) := by
  intro r hr
  unfold P__law_plain
  simp only [bind_bind, bind_ok]
  refine (take_d (m := 8) (by decide) (by decide) r hr).bind fun c hc => ?_
  obtain ⟨pick, r⟩ := c
  obtain ⟨-, hr⟩ := hc
  simp only at hr ⊢
  refine (take_d (m := most) (by omega) (by omega) r hr).bind fun c hc => ?_
  obtain ⟨d, r⟩ := c
  obtain ⟨hd, hr⟩ := hc
  simp only at hd hr ⊢
  obtain ⟨n, rfl⟩ : ∃ n, d = n - 1 := ⟨d + 1, by omega⟩
  simp only [show 1 + (n - 1) = n by omega, pRng_ok (show 0 ≤ n by omega) (show n ≤ 16777216 by omega), bind_ok]
  refine Ok.ite (fun _ => ?_) fun _ => Ok.ite (fun _ => ?_) fun _ => Ok.ite (fun _ => ?_) fun _ => Ok.ite (fun _ => ?_) fun _ => Ok.ite (fun _ => ?_) fun _ => ?_
  · rw [pMap_tab (f := fun x _ => x) (by omega) (by omega) fun _ _ _ _ _ _ => rfl, bind_ok]
    exact Ok.pure ⟨SG_tab (by omega) (by omega) (fun x y h1 h2 _ _ => ⟨h1, h2⟩) (fun x y z _ _ _ _ _ _ => rfl), hr⟩
  · rw [pMap_tab (f := fun _ _ => 0) (by omega) (by omega) fun _ _ _ _ _ _ => rfl, bind_ok]
    exact Ok.pure ⟨SG_tab (by omega) (by omega) (fun x y h1 h2 _ _ => ⟨by omega, by omega⟩) (fun x y z _ _ _ _ _ _ => rfl), hr⟩
  · exact (monogenic_d h0 (by omega) r hr).bind fun c hc => Ok.pure hc
  · rw [pMap_tab (f := fun x y => if y < x then y else x) (by omega) (by omega) fun _ _ _ _ _ _ => rfl, bind_ok]
    refine Ok.pure ⟨SG_tab (by omega) (by omega) (fun x y h1 h2 h3 h4 => by split <;> omega) (fun x y z _ _ _ _ _ _ => ?_), hr⟩
    repeat' split
    all_goals omega
  · exact (of_maps_d h0 (by omega) r hr).bind fun c hc => Ok.pure hc
  · exact (blocks_d h0 h1 r hr).bind fun c hc => Ok.pure hc
theorem VT.congr {n : Int} {T : List (List Int)} (V : VT n T) : T = tab n (mul T) := eq_tab V
/-- products where one number more stands -/
theorem rng_split1 {n : Int} (h : 0 ≤ n) {β : Type} (f : Int → β) : (rng (n + 1)).map f = (rng n).map f ++ [f n] := by rw [rng_succ h, List.map_append]; rfl
theorem tab_succ {n : Int} (h : 0 ≤ n) (f : Int → Int → Int) : tab (n + 1) f = ((rng n).map fun x => ((rng n).map (f x)) ++ [f x n]) ++ [(rng (n + 1)).map (f n)] := by
  unfold tab
  rw [rng_split1 h]
  congr 1
  apply List.map_congr_left
  intro x _
  exact rng_split1 h _
theorem extended_d {most : Int} {T : List (List Int)} (h1 : most ≤ 1000) (hT : SG most T) : Draw (fun r => P__law_extended r T most) (SG most) := by
  obtain ⟨n, n1, n2, V, A⟩ := hT
  intro r hr
  unfold P__law_extended
  rw [V.len]
  simp only [bind_bind, bind_ok]
  have hb : big = 16777216 := rfl
  have hlen := V.len
  have hl : (rng n).length ≤ big := by rw [len_rng]; omega
  refine (take_d (m := 6) (by decide) (by decide) r hr).bind fun c hc => ?_
  obtain ⟨pick, r⟩ := c
  obtain ⟨-, hr⟩ := hc
  simp only at hr ⊢
  simp only [pRng_ok (show 0 ≤ n by omega) (show n ≤ 16777216 by omega), pRng_ok (show 0 ≤ n + 1 by omega) (show n + 1 ≤ 16777216 by omega), pMul_ok (show (2 : Int).natAbs < 18446744073709551616 by decide), pRng_ok (show 0 ≤ 2 * n by omega) (show 2 * n ≤ 16777216 by omega), bind_ok]
  refine Ok.ite (fun _ => ?_) fun _ => Ok.ite (fun hq => ?_) fun _ => Ok.ite (fun hq => ?_) fun _ => Ok.bind (P := fun b => b = true → 2 * n ≤ most) (Ok.ite (fun _ => Ok.pure fun h => by simpa using h) fun _ => Ok.pure fun h => by cases h) fun b hb2 => Ok.ite (fun hq => ?_) fun _ => ?_
  · -- turned about
    rw [pMap_tab (f := fun x y => mul T y x) (by omega) (by omega) fun x y h1 h2 h3 h4 => by rw [V.at1 h3 h4, bind_ok, V.at2 h3 h4 h1 h2], bind_ok]
    refine Ok.pure ⟨SG_tab n1 n2 (fun x y h1 h2 h3 h4 => V.lt h3 h4 h1 h2) (fun x y z h1 h2 h3 h4 h5 h6 => ?_), hr⟩
    exact (A z y x h5 h6 h3 h4 h1 h2).symm
  · -- a zero more
    simp only [Bool.and_eq_true, decide_eq_true_eq] at hq
    rw [pMap_ok (fun row => row ++ [n]) (by omega) (fun row hrow => pCat_ok (by have := V.row row hrow; simp; omega)), bind_ok, pMap_ok (fun _ => n) (by rw [len_rng]; omega) (fun _ _ => rfl), bind_ok, pCat_ok (by simp; omega), bind_ok]
    have e : List.map (fun row => row ++ [n]) T ++ [List.map (fun _ => n) (rng (n + 1))] = tab (n + 1) (fun x y => if x = n ∨ y = n then n else mul T x y) := by
      rw [tab_succ (by omega)]
      congr 1
      · rw [map_rng, hlen]
        apply List.map_congr_left
        intro x hx
        rw [mem_rng] at hx
        rw [row_rng V hx.1 hx.2]
        congr 1
        · apply List.map_congr_left
          intro y hy
          rw [mem_rng] at hy
          rw [if_neg (by omega)]
        · simp
      · congr 1
        apply List.map_congr_left
        intro y hy
        simp
    rw [e]
    refine Ok.pure ⟨SG_tab (by omega) (by omega) (fun x y h1 h2 h3 h4 => ?_) (fun x y z h1 h2 h3 h4 h5 h6 => ?_), hr⟩
    · split
      · omega
      · have := V.lt (x := x) (y := y) h1 (by omega) h3 (by omega); omega
    · by_cases hx : x = n
      · subst hx; simp
      · by_cases hy : y = n
        · subst hy; simp
        · by_cases hz : z = n
          · subst hz; simp
          · have m1 := V.lt (x := x) (y := y) h1 (by omega) h3 (by omega)
            have m2 := V.lt (x := y) (y := z) h3 (by omega) h5 (by omega)
            have ne1 : ¬ mul T x y = n := by omega
            have ne2 : ¬ mul T y z = n := by omega
            simp only [hx, hy, hz, ne1, ne2, or_self, if_false]
            exact A x y z h1 (by omega) h3 (by omega) h5 (by omega)
  · -- a unit more
    simp only [Bool.and_eq_true, decide_eq_true_eq] at hq
    rw [pMap_ok (fun x => ix T x ++ [x]) hl (fun x hx => by
      rw [mem_rng] at hx
      rw [V.at1 hx.1 hx.2, bind_ok, pCat_ok (by have := V.rlen hx.1 hx.2; simp; omega)]), bind_ok, pCat_ok (by simp; omega), bind_ok]
    have e : List.map (fun x => ix T x ++ [x]) (rng n) ++ [rng (n + 1)] = tab (n + 1) (fun x y => if x = n then y else if y = n then x else mul T x y) := by
      rw [tab_succ (by omega)]
      congr 1
      · apply List.map_congr_left
        intro x hx
        rw [mem_rng] at hx
        rw [row_rng V hx.1 hx.2]
        congr 1
        · apply List.map_congr_left
          intro y hy
          rw [mem_rng] at hy
          rw [if_neg (by omega), if_neg (by omega)]
        · simp
      · simp
    rw [e]
    refine Ok.pure ⟨SG_tab (by omega) (by omega) (fun x y h1 h2 h3 h4 => ?_) (fun x y z h1 h2 h3 h4 h5 h6 => ?_), hr⟩
    · split
      · omega
      · split
        · omega
        · have := V.lt (x := x) (y := y) h1 (by omega) h3 (by omega); omega
    · by_cases hx : x = n
      · subst hx; simp
      · by_cases hy : y = n
        · subst hy; simp [hx]
        · by_cases hz : z = n
          · subst hz
            have m1 := V.lt (x := x) (y := y) h1 (by omega) h3 (by omega)
            simp only [hx, hy, if_false, if_true]
            rw [if_neg (by omega)]
          · have m1 := V.lt (x := x) (y := y) h1 (by omega) h3 (by omega)
            have m2 := V.lt (x := y) (y := z) h3 (by omega) h5 (by omega)
            simp only [hx, hy, hz, if_false]
            rw [if_neg (by omega), if_neg (by omega)]
            exact A x y z h1 (by omega) h3 (by omega) h5 (by omega)
  · -- doubled
    subst hq
    have h2n := hb2 rfl
    refine (take_d (m := 2) (by decide) (by decide) r hr).bind fun c hc => ?_
    refine Ok.bind (P := fun s : List (Int × Int) => s = [(0, 1), (1, 0)] ∨ s = [(0, 0), (0, 1)]) (Ok.ite (fun _ => Ok.pure (.inl rfl)) fun _ => Ok.pure (.inr rfl)) fun s hs => ?_
    have hs2 : ∀ i j : Int, (0 ≤ i ∧ i < 2) → (0 ≤ j ∧ j < 2) → ∃ q : Int × Int, pAt s i = .ok q ∧ pAt [q.1, q.2] j = .ok (if s = [(0, 1), (1, 0)] then (i + j) % 2 else i * j) := by
      intro i j hi hj
      have hi' : i = 0 ∨ i = 1 := by omega
      have hj' : j = 0 ∨ j = 1 := by omega
      rcases hs with rfl | rfl <;> rcases hi' with rfl | rfl <;> rcases hj' with rfl | rfl <;> exact ⟨_, rfl, rfl⟩
    have m2 : ∀ x : Int, 0 ≤ x % 2 ∧ x % 2 < 2 := fun x => ⟨Int.emod_nonneg _ (by decide), Int.emod_lt_of_pos _ (by decide)⟩
    rw [pMap_tab (n := 2 * n) (f := fun x y => 2 * mul T (x / 2) (y / 2) + (if s = [(0, 1), (1, 0)] then (x % 2 + y % 2) % 2 else (x % 2) * (y % 2))) (by omega) (by omega) fun x y h1 h2 h3 h4 => by
      obtain ⟨q, q1, q2⟩ := hs2 (x % 2) (y % 2) (m2 x) (m2 y)
      rw [pDiv_ok (by decide) (by decide), bind_ok, pDiv_ok (by decide) (by decide), V.at1 (by omega) (by omega), bind_ok, bind_ok, V.at2 (by omega) (by omega) (by omega) (by omega), bind_ok, pMod_ok (by decide), bind_ok, q1, bind_ok, pMod_ok (by decide), bind_ok, q2, bind_ok], bind_ok]
    have key : ∀ x y : Int, 0 ≤ x → x < 2 * n → 0 ≤ y → y < 2 * n → ∃ w : Int, (w = 0 ∨ w = 1) ∧ w = (if s = [(0, 1), (1, 0)] then (x % 2 + y % 2) % 2 else (x % 2) * (y % 2)) := fun x y _ _ _ _ => by
      refine ⟨_, ?_, rfl⟩
      have hx := m2 x
      have hy := m2 y
      have hx' : x % 2 = 0 ∨ x % 2 = 1 := by omega
      have hy' : y % 2 = 0 ∨ y % 2 = 1 := by omega
      split <;> rcases hx' with e | e <;> rcases hy' with e2 | e2 <;> rw [e, e2] <;> decide
    have cl : ∀ x y : Int, 0 ≤ x → x < 2 * n → 0 ≤ y → y < 2 * n → 0 ≤ 2 * mul T (x / 2) (y / 2) + (if s = [(0, 1), (1, 0)] then (x % 2 + y % 2) % 2 else (x % 2) * (y % 2)) ∧ 2 * mul T (x / 2) (y / 2) + (if s = [(0, 1), (1, 0)] then (x % 2 + y % 2) % 2 else (x % 2) * (y % 2)) < 2 * n := fun x y h1 h2 h3 h4 => by
      obtain ⟨w, hw, e⟩ := key x y h1 h2 h3 h4
      have := V.lt (x := x / 2) (y := y / 2) (by omega) (by omega) (by omega) (by omega)
      rw [← e]; omega
    refine Ok.pure ⟨SG_tab (by omega) h2n cl (fun x y z h1 h2 h3 h4 h5 h6 => ?_), hc.2⟩
    have d1 : ∀ x y : Int, 0 ≤ x → x < 2 * n → 0 ≤ y → y < 2 * n → (2 * mul T (x / 2) (y / 2) + (if s = [(0, 1), (1, 0)] then (x % 2 + y % 2) % 2 else (x % 2) * (y % 2))) / 2 = mul T (x / 2) (y / 2) ∧ (2 * mul T (x / 2) (y / 2) + (if s = [(0, 1), (1, 0)] then (x % 2 + y % 2) % 2 else (x % 2) * (y % 2))) % 2 = (if s = [(0, 1), (1, 0)] then (x % 2 + y % 2) % 2 else (x % 2) * (y % 2)) := fun x y h1 h2 h3 h4 => by
      obtain ⟨w, hw, e⟩ := key x y h1 h2 h3 h4
      rw [← e]; omega
    rw [(d1 x y h1 h2 h3 h4).1, (d1 x y h1 h2 h3 h4).2, (d1 y z h3 h4 h5 h6).1, (d1 y z h3 h4 h5 h6).2]
    rw [A (x / 2) (y / 2) (z / 2) (by omega) (by omega) (by omega) (by omega) (by omega) (by omega)]
    congr 1
    split
    · omega
    · exact Int.mul_assoc _ _ _
  · exact Ok.pure ⟨⟨n, n1, n2, V, A⟩, hr⟩
/-- a drawn semigroup -/
theorem semigroup_d {most : Int} (h0 : 1 ≤ most) (h1 : most ≤ 7) : Draw (fun r => P__law_semigroup r most) (SG most) := by
  intro r hr
  unfold P__law_semigroup
  simp only [bind_bind, bind_ok]
  refine (plain_d h0 h1 r hr).bind fun c hc => ?_
  refine (extended_d (by omega) hc.1 c.2 hc.2).bind fun c hc => ?_
  obtain ⟨n, n1, n2, V, A⟩ := hc.1
  rw [V.len]
  refine (order_d (by omega) (by omega) c.2 hc.2).bind fun p hp => ?_
  have o := ord_of (by omega) hp.1
  refine (renamed_d (by omega) V o).bind fun S hS => Ok.pure ⟨⟨n, n1, n2, hS.1, renamed_asc V o hS.2 A⟩, hp.2⟩
end LAW

namespace LAW
open DL PySem L2
/-! ### the class Semigroup -/
theorem taken_d {n : Int} {T : List (List Int)} (h1 : 1 ≤ n) (h2 : n ≤ 1000) (V : VT n T) : P_taken_table T = .ok T := by
  have hlen := V.len
  have hne : ¬ ((T.length : Int) = 0) := by omega
  unfold P_taken_table
  simp only [hne, decide_false, Bool.not_true, Bool.or_false, Bool.false_eq_true, if_false, bind_pure]
  rw [pfold_app (fun r => r) T [] (by simp; omega) fun r hr a ha => ?_]
  · simp
  · have hrl := V.row r hr
    have e : ((r.length : Int) = (T.length : Int)) := by omega
    simp only [e, decide_true, Bool.not_true, Bool.or_false, Bool.false_eq_true, if_false]
    rw [pfold_const (a := ()) fun x hx => ?_, bind_ok, pApp_ok ha]
    have := V.ent r hr x hx
    have e1 : decide (0 ≤ x) = true := by simpa using this.1
    have e2 : decide (x < (T.length : Int)) = true := by simp; omega
    simp [P_is_item, P_is_integer, e1, e2]
def ascRow (n : Int) (T : List (List Int)) (r : List Int) (y : Int) : Bool := decide ((rng n).map (fun z => mul T (ix r y) z) = (ix T y).map (fun i => ix r i))
def ascB (n : Int) (T : List (List Int)) : Bool := T.all fun r => (rng n).all fun y => ascRow n T r y
theorem ascB_iff {n : Int} {T : List (List Int)} (V : VT n T) : ascB n T = true ↔ Asc n (mul T) := by
  unfold ascB ascRow
  simp only [List.all_eq_true, decide_eq_true_eq]
  have row : ∀ x y, 0 ≤ x → x < n → 0 ≤ y → y < n → ((rng n).map (fun z => mul T (ix (ix T x) y) z) = (ix T y).map (fun i => ix (ix T x) i) ↔ ∀ z, 0 ≤ z → z < n → mul T (mul T x y) z = mul T x (mul T y z)) := by
    intro x y hx hx' hy hy'
    conv => lhs; rhs; rw [row_rng V hy hy', List.map_map]
    rw [List.map_inj_left]
    constructor
    · intro h z hz hz'
      exact h z (mem_rng.mpr ⟨hz, hz'⟩)
    · intro h z hz
      rw [mem_rng] at hz
      exact h z hz.1 hz.2
  constructor
  · intro h x y z hx hx' hy hy' hz hz'
    exact (row x y hx hx' hy hy').mp (h _ (V.rowAt hx hx') y (mem_rng.mpr ⟨hy, hy'⟩)) z hz hz'
  · intro h r hr y hy
    rw [mem_rng] at hy
    obtain ⟨x, hx, hx', rfl⟩ := mem_ix hr
    rw [V.len] at hx'
    exact (row x y hx hx' hy.1 hy.2).mpr fun z hz hz' => h x y z hx hx' hy.1 hy.2 hz hz'
theorem isasc_d {n : Int} {T : List (List Int)} (h2 : n ≤ 1000) (V : VT n T) : P_is_associative T = .ok (ascB n T) := by
  have n0 := V.n0
  have hb : big = 16777216 := rfl
  unfold P_is_associative
  rw [V.len]
  simp only [pRng_ok n0 (show n ≤ 16777216 by omega), bind_ok]
  rw [pfor_test (p := fun r => (rng n).all fun y => ascRow n T r y) (r := false) fun r hr => ?_, bind_ok]
  · unfold ascB
    cases T.all fun r => (rng n).all fun y => ascRow n T r y <;> rfl
  · have hrl := V.row r hr
    rw [pfor_test (p := fun y => ascRow n T r y) (r := false) fun y hy => ?_, bind_ok]
    · cases (rng n).all fun y => ascRow n T r y <;> rfl
    · rw [mem_rng] at hy
      have hv := V.ent r hr _ (ix_mem (xs := r) hy.1 (by omega))
      rw [pMap_ok (fun z => mul T (ix r y) z) (by simp; omega) (fun z hz => by
        rw [mem_rng] at hz
        rw [pAt_ok hy.1 (by omega), bind_ok, V.at1 hv.1 hv.2, bind_ok, V.at2 hv.1 hv.2 hz.1 hz.2]), bind_ok, V.at1 hy.1 hy.2, bind_ok,
        pMap_ok (fun i => ix r i) (by have := V.rlen hy.1 hy.2; omega) (fun i hi => by
          have := V.ent _ (V.rowAt hy.1 hy.2) i hi
          exact pAt_ok this.1 (by omega)), bind_ok]
      simp only [bind_ok]
      unfold ascRow
      by_cases h : (rng n).map (fun z => mul T (ix r y) z) = (ix T y).map (fun i => ix r i)
      · simp [h]
      · simp [h]
theorem sg_d {n : Int} {T : List (List Int)} (h1 : 1 ≤ n) (h2 : n ≤ 24) (V : VT n T) (A : Asc n (mul T)) : P_Semigroup___init__ T = .ok (n, T) := by
  unfold P_Semigroup___init__
  rw [taken_d h1 (by omega) V, bind_ok, V.len, isasc_d (by omega) V, (ascB_iff V).mpr A]
  have : ¬ (n > 24) := by omega
  simp [this]
end LAW

namespace LAW
open DL PySem L2
/-! parts of the elements -/
section
variable {n : Int} {T : List (List Int)}
def In (n : Int) (items : List Int) : Prop := ∀ a ∈ items, 0 ≤ a ∧ a < n
theorem is_el (h : 0 ≤ n) {x : Int} (hx : 0 ≤ x ∧ x < n) : P_Semigroup_is_element (n, T) x = .ok true := by
  simp [P_Semigroup_is_element, P_is_item, P_is_integer, hx]
end
/-! ### a drawn part -/
theorem filS_draw {F : Int → List Int → M (Bool × List Int)} : ∀ {xs : List Int}, (∀ x ∈ xs, Draw (F x) (fun _ => True)) → Draw (filS F (fun x r => .ok (x, r)) xs) (fun ys => List.Sublist ys xs)
  | [], _ => fun r g => ⟨_, rfl, List.Sublist.refl _, g⟩
  | x :: xs, h => fun r g => by
    simp only [filS]
    refine (h x List.mem_cons_self r g).bind fun c hc => ?_
    have ih := filS_draw (F := F) (xs := xs) fun y hy => h y (List.mem_cons_of_mem _ hy)
    refine Ok.ite (fun _ => ?_) (fun _ => ?_)
    · rw [bind_ok]
      exact (ih c.2 hc.2).bind fun ys hys => Ok.pure ⟨hys.1.cons_cons x, hys.2⟩
    · exact (ih c.2 hc.2).imp fun ys hys => ⟨hys.1.cons x, hys.2⟩
theorem rng_strict {n : Int} : (rng n).Pairwise (· < ·) := by
  unfold rng
  rw [List.pairwise_map]
  exact List.pairwise_lt_range.imp fun {a b} h => by omega
theorem ix_lt_of_strict {xs : List Int} (h : xs.Pairwise (· < ·)) {i : Int} (h0 : 0 < i) (h1 : i < xs.length) : ix xs (i - 1) < ix xs i := by
  unfold ix
  rw [List.getD_eq_getElem?_getD, List.getD_eq_getElem?_getD, List.getElem?_eq_getElem (by omega), List.getElem?_eq_getElem (by omega)]
  simp only [Option.getD_some]
  exact List.pairwise_iff_getElem.mp h _ _ (by omega) (by omega) (by omega)
section
variable {n : Int} {T : List (List Int)}
/-- ascending elements -/
theorem subset_d (hn : 0 ≤ n) {v : List Int} (hl : v.length ≤ 1000) (hi : In n v) (hs : v.Pairwise (· < ·)) : P_is_subset (n, T) v = .ok (decide ((v.length : Int) > 0)) := by
  unfold P_is_subset
  by_cases h0 : (v.length : Int) = 0
  · simp [h0]
  · have h1 : (v.length : Int) > 0 := by omega
    simp only [h0, decide_false, Bool.not_true, Bool.or_false, Bool.false_eq_true, if_false, h1, decide_true]
    rw [pRng_ok (by omega) (by omega), bind_ok, pfor_all fun k hk => ?_]
    · rfl
    · rw [mem_rng] at hk
      rw [pAt_ok hk.1 hk.2, bind_ok, is_el hn (hi _ (ix_mem hk.1 hk.2))]
      simp only [pNX_ok, bind_ok, Bool.not_true, Bool.false_eq_true, if_false]
      by_cases hk0 : k > 0
      · have := ix_lt_of_strict hs hk0 hk.2
        rw [pAt_ok (by omega) (by omega)]
        have hd : decide (ix v k ≤ ix v (k - 1)) = false := by simp; omega
        simp [hk0, hd]
      · simp [hk0]
theorem goP_all {α β : Type} {xs : List α} {g : α → List β} {f : α → β → M Bool} {q : α → β → Bool} (h : ∀ x ∈ xs, ∀ y ∈ g x, f x y = .ok (q x y)) : goP (fun _ => .ok true) (fun x => .ok (g x)) (fun _ _ => .ok true) f xs = .ok (xs.flatMap fun x => (g x).map (q x)) := by
  induction xs with
  | nil => rfl
  | cons x xs ih =>
    have ih := ih fun z hz => h z (List.mem_cons_of_mem _ hz)
    simp only [goP]
    rw [filGo_ok (q := fun _ => true) (g := q x) (fun _ _ => rfl) (fun y hy _ => h x List.mem_cons_self y hy), ih, List.filter_eq_self.mpr (fun _ _ => rfl)]
    simp
theorem sflat_len {α β γ : Type} {xs : List α} {g : α → List β} {q : α → β → γ} {k : Nat} (h : ∀ x ∈ xs, (g x).length ≤ k) : (xs.flatMap fun x => (g x).map (q x)).length ≤ xs.length * k := by
  induction xs with
  | nil => simp
  | cons x xs ih =>
    have ih := ih fun z hz => h z (List.mem_cons_of_mem _ hz)
    have := h x List.mem_cons_self
    rw [List.flatMap_cons, List.length_append, List.length_map, List.length_cons, Nat.add_mul]
    omega
theorem flat_all {α β : Type} {xs : List α} {g : α → List β} {q : α → β → Bool} : ((xs.flatMap fun x => (g x).map (q x)).all id) = xs.all fun x => (g x).all (q x) := by
  induction xs with
  | nil => rfl
  | cons x xs ih => rw [List.flatMap_cons, List.all_append, ih, List.all_cons]; simp [List.all_map]
theorem spairs_d {xs : List Int} {g : Int → List Int} {f : Int → Int → M Bool} {q : Int → Int → Bool} (hx : xs.length ≤ 1000) (hg : ∀ x ∈ xs, (g x).length ≤ 1000) (h : ∀ x ∈ xs, ∀ y ∈ g x, f x y = .ok (q x y)) :
    pFilB (fun _ => .ok true) (fun x => .ok (g x)) (fun _ _ => .ok true) f xs = .ok (xs.flatMap fun x => (g x).map (q x)) := by
  unfold pFilB
  have hb : big = 16777216 := rfl
  have := sflat_len (q := q) hg
  rw [goP_all h]
  simp only
  rw [if_pos (by have : xs.length * 1000 ≤ 1000 * 1000 := Nat.mul_le_mul_right _ hx; omega)]
def clB (T : List (List Int)) (v : List Int) : Bool := decide ((v.length : Int) > 0) && v.all fun x => v.all fun y => has (mul T x y) v
theorem subsg_d (hn : n ≤ 1000) (V : VT n T) {v : List Int} (hl : v.length ≤ 1000) (hi : In n v) (hs : v.Pairwise (· < ·)) : P_is_subsemigroup (n, T) v = .ok (clB T v) := by
  unfold P_is_subsemigroup clB
  rw [subset_d V.n0 hl hi hs, bind_ok]
  by_cases h : (v.length : Int) > 0
  · simp only [h, decide_true, Bool.not_true, bind_ok, Bool.false_eq_true, if_false, Bool.true_and]
    rw [spairs_d (g := fun _ => v) (q := fun x y => has (mul T x y) v) hl (fun _ _ => hl) (fun x hx y hy => by
      have hx := hi x hx
      have hy := hi y hy
      rw [V.at1 hx.1 hx.2, bind_ok, V.at2 hx.1 hx.2 hy.1 hy.2, bind_ok]), bind_ok, flat_all]
    rfl
  · have hv : v = [] := List.length_eq_zero_iff.mp (by omega)
    subst hv; rfl
end
theorem lenzero {α : Type} (l : List α) (p : α → Bool) : decide (((l.filter p).length : Int) = 0) = l.all fun x => !p x := by
  rw [Bool.eq_iff_iff, decide_eq_true_eq, List.all_eq_true]
  constructor
  · intro h x hx
    have : l.filter p = [] := List.length_eq_zero_iff.mp (by omega)
    have := List.filter_eq_nil_iff.mp this x hx
    simpa using this
  · intro h
    have : l.filter p = [] := List.filter_eq_nil_iff.mpr fun x hx => by have := h x hx; simpa using this
    rw [this]; rfl
section
variable {n : Int}
theorem six {P : Int → Prop} (h1 : 1 ≤ n) (h6 : n ≤ 6) (a : P 1) (b : P 2) (c : P 3) (d : P 4) (e : P 5) (f : P 6) : P n := by
  have : n = 1 ∨ n = 2 ∨ n = 3 ∨ n = 4 ∨ n = 5 ∨ n = 6 := by omega
  rcases this with rfl | rfl | rfl | rfl | rfl | rfl <;> assumption
def noB (o : M Bool) : Bool := match o with
  | .ok b => !b
  | _ => false
theorem noB_ok {o : M Bool} (h : noB o = true) : o = .ok false := by
  unfold noB at h
  split at h
  · rename_i b; cases b
    · rfl
    · cases h
  · cases h
end
end LAW

namespace LAW
open DL PySem L2
section
variable {n : Int} {T : List (List Int)}
/-- the table on the places -/
def rst (T : List (List Int)) (v : List Int) : List (List Int) := v.map fun x => v.map fun y => idx v (mul T x y)
structure ClS (n : Int) (T : List (List Int)) (v : List Int) : Prop where
  inn : In n v
  nd : v.Nodup
  cl : ∀ x ∈ v, ∀ y ∈ v, mul T x y ∈ v
  pos : 1 ≤ (v.length : Int)
theorem idx_ix {v : List Int} (nd : v.Nodup) {i : Int} (h0 : 0 ≤ i) (h1 : i < v.length) : idx v (ix v i) = i := by
  refine idx_eq h0 h1 rfl fun j j0 j1 e => ?_
  have e1 : v[j.toNat]'(by omega) = v[i.toNat]'(by omega) := by
    unfold ix at e
    rw [List.getD_eq_getElem?_getD, List.getD_eq_getElem?_getD, List.getElem?_eq_getElem (by omega), List.getElem?_eq_getElem (by omega)] at e
    simpa using e
  have := (List.getElem_inj nd).mp e1
  omega
theorem rst_len {v : List Int} : ((rst T v).length : Int) = v.length := by simp [rst]
theorem rst_at {v : List Int} {i : Int} (h0 : 0 ≤ i) (h1 : i < v.length) : ix (rst T v) i = v.map fun y => idx v (mul T (ix v i) y) := by
  unfold rst; rw [ix_map h0 h1]
theorem rst_mul {v : List Int} {i j : Int} (h0 : 0 ≤ i) (h1 : i < v.length) (j0 : 0 ≤ j) (j1 : j < v.length) : mul (rst T v) i j = idx v (mul T (ix v i) (ix v j)) := by
  unfold mul at *
  rw [rst_at h0 h1, ix_map j0 j1]; rfl
theorem rst_vt {v : List Int} (c : ClS n T v) : VT (v.length : Int) (rst T v) := by
  refine ⟨rst_len, fun r hr => ?_, fun r hr y hy => ?_⟩
  · obtain ⟨x, _, rfl⟩ := List.mem_map.mp hr
    simp
  · obtain ⟨x, hx, rfl⟩ := List.mem_map.mp hr
    obtain ⟨z, hz, rfl⟩ := List.mem_map.mp hy
    exact idx_lt (c.cl x hx z hz)
theorem rst_asc {v : List Int} (A : Asc n (mul T)) (c : ClS n T v) : Asc (v.length : Int) (mul (rst T v)) := by
  intro x y z x0 x1 y0 y1 z0 z1
  have mx := ix_mem x0 x1
  have my := ix_mem y0 y1
  have mz := ix_mem z0 z1
  have cxy := c.cl _ mx _ my
  have cyz := c.cl _ my _ mz
  rw [rst_mul x0 x1 y0 y1, rst_mul y0 y1 z0 z1, rst_mul (idx_lt cxy).1 (idx_lt cxy).2 z0 z1, rst_mul x0 x1 (idx_lt cyz).1 (idx_lt cyz).2, ix_idx cxy, ix_idx cyz]
  have ix1 := c.inn _ mx
  have iy1 := c.inn _ my
  have iz1 := c.inn _ mz
  rw [A _ _ _ ix1.1 ix1.2 iy1.1 iy1.2 iz1.1 iz1.2]
theorem cl_of {v : List Int} (hi : In n v) (hs : v.Pairwise (· < ·)) (h : clB T v = true) : ClS n T v := by
  unfold clB at h
  simp only [Bool.and_eq_true, decide_eq_true_eq, List.all_eq_true, has_iff] at h
  exact ⟨hi, hs.imp fun h => by omega, h.2, by omega⟩
theorem rows_d (V : VT n T) {v : List Int} (hl : v.length ≤ 1000) (hi : In n v) (hc : ∀ x ∈ v, ∀ y ∈ v, mul T x y ∈ v) : (pMap (fun (x3 : Int) => pMap (fun (x4 : Int) => M.bind (M.bind (pAt T x3) fun c5 => pAt c5 x4) fun c6 => pIndex v c6) v) v) = .ok (rst T v) := by
  have hb : big = 16777216 := rfl
  refine pMap_ok (fun x => v.map fun y => idx v (mul T x y)) (by omega) fun x hx => pMap_ok (fun y => idx v (mul T x y)) (by omega) fun y hy => ?_
  have ix1 := hi x hx
  have iy1 := hi y hy
  rw [V.at1 ix1.1 ix1.2, bind_ok, V.at2 ix1.1 ix1.2 iy1.1 iy1.2, bind_ok, pIndex_ok (hc x hx y hy)]
theorem sg2_d {m : Int} {S : List (List Int)} (h1 : 1 ≤ m) (h2 : m ≤ 24) (V : VT m S) (A : Asc m (mul S)) : P_Semigroup___init___2 S = .ok (m, S) := sg_d h1 h2 V A
theorem restr_d (n0 : n ≤ 24) (V : VT n T) (A : Asc n (mul T)) {v : List Int} (hl : (v.length : Int) ≤ n) (hi : In n v) (hs : v.Pairwise (· < ·)) : P_restricted (n, T) v = if clB T v = true then .ok ((v.length : Int), rst T v) else .exn "Malformed" [] := by
  unfold P_restricted
  rw [subsg_d (by omega) V (by omega) hi hs, bind_ok, bind_ok]
  cases h : clB T v with
  | false => rfl
  | true =>
    have c := cl_of hi hs h
    simp only [Bool.not_true, Bool.false_eq_true, if_false, if_true]
    rw [rows_d V (by omega) hi c.cl, bind_ok, sg2_d c.pos (by omega) (rst_vt c) (rst_asc A c), bind_ok]
theorem told_d (n0 : n ≤ 24) (V : VT n T) (A : Asc n (mul T)) {v : List Int} (hl : (v.length : Int) ≤ n) (hi : In n v) (hs : v.Pairwise (· < ·)) : P__law_told (n, T) v = .ok (if clB T v = true then some ((v.length : Int), rst T v) else none) := by
  unfold P__law_told
  rw [restr_d n0 V A hl hi hs]
  cases clB T v <;> rfl
/-- the generated part: ascending -/
theorem filt_in {p : Int → Bool} : In n ((rng n).filter p) := fun a ha => mem_rng.mp (List.mem_filter.mp ha).1
theorem len_filt {p : Int → Bool} (h0 : 0 ≤ n) : (((rng n).filter p).length : Int) ≤ n := by
  have := List.length_filter_le p (rng n)
  rw [len_rng] at this; omega
theorem grown_d (n1 : 1 ≤ n) (n6 : n ≤ 6) (V : VT n T) {items : List Int} (hi : In n items) (hl : items.length ≤ 10) : Ok (P__law_grown T items) (fun v => List.Sublist v (rng n)) := by
  have hb : big = 16777216 := rfl
  unfold P__law_grown
  rw [V.len, pRng_ok (by omega) (by omega), bind_ok, pFil_ok (fun x => has x items) (fun x => x) (by simp; omega) (fun _ _ => rfl) (fun _ _ _ => rfl), bind_ok, List.map_id', bind_ok, bind_ok]
  refine Ok.bind (Ok.fold_rng (Q := fun v => List.Sublist v (rng n)) (fun k a => In n a ∧ (a.length : Int) ≤ n ∧ (0 < k → List.Sublist a (rng n))) (by omega) ⟨fun a ha => filt_in _ ((sortI_perm _).mem_iff.mp ha), ?_, fun h => absurd h (by omega)⟩ (fun k a k0 k1 ⟨ia, la, _⟩ => ?_) fun b hb => hb.2.2 (by omega)) fun a ha => Ok.pure ha
  · rw [(sortI_perm _).length_eq]; exact len_filt (by omega)
  · refine Ok.bind (P := fun b => b.length ≤ 1000) (Ok.fold (fun p (b : List Int) => b.length ≤ p.length * 10) (by simp) (fun p x q b e hb' => ?_) fun b hb' => by omega) fun b hb' => ?_
    · have hx := ia x (by rw [e]; simp)
      have hlen : p.length ≤ 6 := by have := congrArg List.length e; simp at this; omega
      rw [pMap_ok (fun y => mul T x y) (by omega) (fun y hy => by
        have hy := hi y hy
        rw [V.at1 hx.1 hx.2, bind_ok, V.at2 hx.1 hx.2 hy.1 hy.2]), bind_ok, pCat_ok (by simp; omega), bind_ok]
      exact Ok.pure (by simp; omega)
    · rw [bind_ok, pFil_ok (fun x => has x a || has x b) (fun x => x) (by simp; omega) (fun _ _ => rfl) (fun _ _ _ => rfl), bind_ok, List.map_id']
      exact Ok.pure ⟨filt_in, len_filt (by omega), fun _ => List.filter_sublist⟩
theorem foldl_and1 {α : Type} (p : α → Bool) : ∀ (xs : List α) (a : Bool), xs.foldl (fun s x => s && p x) a = (a && xs.all p)
  | [], a => by simp
  | x :: xs, a => by rw [List.foldl_cons, foldl_and1 p xs]; simp [Bool.and_assoc]
/-- the other values -/
def wrongs (n : Int) : List D := [((eT eI) []), (eU ()), (eI 0), ((eL eI) (rng n)), ((eP2 eI eI) (0, 0)), ((eT eI) [n]), ((eT eI) [-1]), ((eT eB) [true]), ((eT eU) [()]), (eS ("0" : Str))]
theorem subset2_T (S : List (List Int)) (v : D) : P_is_subset_2 (n, T) v = P_is_subset_2 (n, S) v := rfl
theorem wrong_all : ([1, 2, 3, 4, 5, 6] : List Int).all (fun n => (wrongs n).all fun v => noB (P_is_subset_2 (n, []) v)) = true := by decide +kernel
theorem wrong_d (h1 : 1 ≤ n) (h6 : n ≤ 6) {v : D} (hv : v ∈ wrongs n) : P__law_told_2 (n, T) v = .ok none := by
  have h := wrong_all
  rw [List.all_eq_true] at h
  have h := h n (by simp only [List.mem_cons, List.not_mem_nil, or_false]; omega)
  rw [List.all_eq_true] at h
  have h := noB_ok (h v hv)
  unfold P__law_told_2 P_restricted_2 P_is_subsemigroup_2
  rw [subset2_T [] v, h]
  rfl
end
theorem neT {S T : List (List Int)} : pNe ((eT (eT eI)) S) ((eT (eT eI)) T) = .ok (!decide (S = T)) := by
  have h := ne_py (pyT (pyT pyI)) (x := S) (y := T)
  unfold opNe at h
  unfold pNe
  cases e : eqD ((eT (eT eI)) S) ((eT (eT eI)) T) with
  | none => rw [e] at h; cases h
  | some b =>
    rw [e] at h
    simp only [eB, Option.some.injEq, D.bl.injEq] at h
    show M.ok (!b) = _
    rw [h]
theorem ne_tn : ¬ Str.ofString "table" = Str.ofString "n" := by decide
theorem fldT (A : Int × List (List Int)) : opFld "Semigroup" "table" ((eO (eC2 "Semigroup" "n" "table" eI (eT (eT eI)))) (some A)) = some ((eT (eT eI)) A.2) := by
  simp [opFld, eO, eC2, getN, ne_tn]
theorem isS (A : Int × List (List Int)) : pIsC "Semigroup" ((eO (eC2 "Semigroup" "n" "table" eI (eT (eT eI)))) (some A)) = .ok true := by
  simp [pIsC, opIsC, eO, eC2]
theorem p_law (ns : List Int) : P_law ns = .ok true := by
  apply Ok.eq
  unfold P_law
  refine Ok.bind (state_d ns).nx fun r hr => ?_
  refine (semigroup_d (most := 6) (by decide) (by decide) r hr).bind fun c hc => ?_
  obtain ⟨⟨n, n1, n2, V, A⟩, hr⟩ := hc
  obtain ⟨T, r⟩ := c
  simp only at V A hr ⊢
  have n0 := V.n0
  have hb : big = 16777216 := rfl
  rw [sg_d n1 (by omega) V A, bind_ok, V.len]
  simp only [pRng_ok n0 (show n ≤ 16777216 by omega), bind_ok, bind_bind]
  refine (take_d (m := 2) (by decide) (by decide) r hr).bind fun c hc => ?_
  obtain ⟨d, r⟩ := c
  obtain ⟨hd, hr⟩ := hc
  simp only at hd hr ⊢
  rw [pRng_ok (by omega) (by omega), bind_ok]
  refine (pMapS_draw (Q := fun x => 0 ≤ x ∧ x < n) (by simp; omega) (fun _ _ => take_d (by omega) (by omega)) r hr).bind fun c hc => ?_
  obtain ⟨items, r⟩ := c
  obtain ⟨⟨hl, hi⟩, hr⟩ := hc
  simp only at hl hi hr ⊢
  have hi : In n items := hi
  have hl : items.length ≤ 10 := by rw [hl, len_rng]; omega
  have hpd : Draw (fun r => pFilS (fun (x18 : Int) (r19 : List Int) => M.bind (P__law_take r19 2) fun c21 => .ok ((decide (c21.1 = 0)), c21.2)) (fun (x18 : Int) (r19 : List Int) => .ok (x18, r19)) (rng n) r) (fun ys => List.Sublist ys (rng n)) := by
    intro r hr
    show Ok (pFilS _ _ (rng n) r) _
    unfold pFilS
    rw [if_pos (by simp; omega)]
    exact filS_draw (fun x _ r hr => (take_d (m := 2) (by decide) (by decide) r hr).bind fun c hc => Ok.pure ⟨trivial, hc.2⟩) r hr
  refine (hpd r hr).bind fun c hc => ?_
  obtain ⟨w, r⟩ := c
  obtain ⟨hw, hr⟩ := hc
  simp only at hw hr ⊢
  refine (grown_d n1 n2 V hi hl).bind fun u hu => ?_
  rw [pfor_all fun v hv => ?_]
  · simp only [bind_ok, pK_inl]
    rw [pfor_all fun v hv => ?_]
    · exact Ok.pure rfl
    · rw [wrong_d n1 n2 (show v ∈ wrongs n from hv)]; rfl
  · have hsub : List.Sublist v (rng n) := by
      simp only [List.mem_cons, List.not_mem_nil, or_false] at hv
      rcases hv with rfl | rfl | rfl
      · exact hu
      · exact hw
      · exact List.Sublist.refl _
    have hvl : (v.length : Int) ≤ n := by have := hsub.length_le; rw [len_rng] at this; omega
    have hvi : In n v := fun a ha => mem_rng.mp (hsub.subset ha)
    have hvs : v.Pairwise (· < ·) := rng_strict.sublist hsub
    rw [pfold_ok (g := fun (s : Bool) x => s && v.all fun y => has (mul T x y) v) (fun x hx a => ?_), bind_ok, foldl_and1, told_d (by omega) V A hvl hvi hvs, bind_ok]
    · show (if (!clB T v) = true then _ else _) = _
      cases h : clB T v with
      | false => rfl
      | true =>
        have c := cl_of hvi hvs h
        simp only [Bool.not_true, Bool.false_eq_true, if_false, if_true]
        have hrows := rows_d V (by omega) hvi c.cl
        simp only [bind_bind] at hrows
        rw [isS, fldT, hrows]
        simp only [bind_ok, oM_some, Bool.not_true, Bool.false_eq_true, if_false]
        rw [neT]
        simp
    · have hx := hvi x hx
      cases a with
      | false => rfl
      | true =>
        simp only [if_true]
        rw [pFil_ok (fun y => !has (mul T x y) v) (fun y => y) (by omega) (fun y hy => by
          have hy := hvi y hy
          rw [V.at1 hx.1 hx.2, bind_ok, V.at2 hx.1 hx.2 hy.1 hy.2, bind_ok]) (fun _ _ _ => rfl), bind_ok, List.map_id', bind_ok, lenzero]
        simp
end LAW

namespace LAW
open DL PySem L2
theorem math (ns : List Int) : d_law [.scr ns] = .ok (.bl true) := by
  have h := S_law ns
  rw [p_law ns] at h
  exact h
end LAW

open PySem PySem.W PySem.Calls PyProof.Rows
set_option maxRecDepth 100000 in
set_option maxHeartbeats 8000000 in
theorem PySem.Challenge.cw_reesblocks_k06_restricted_semigroups_holds : PySem.Challenge.rw_reesblocks_k06_restricted_semigroups.Holds := by
  w_on; o_law
  refine HandSHeadRun.head_any (r := OpenLaw.row PySem.Challenge.rw_reesblocks_k06_restricted_semigroups) (q := view (OpenLaw.row PySem.Challenge.rw_reesblocks_k06_restricted_semigroups).prog [33]) (H := LAW.hk) (ob := LAW.ob) (M := 4000) (loose := ((["_wall", "Fault", "Malformed", "Refused", "is_integer", "MOST", "is_item", "taken_table", "is_associative", "Semigroup", "is_subset", "is_subsemigroup", "restricted", "_law_state", "_law_take", "_law_order_of", "_law_renamed", "_law_after", "_law_closed", "_law_of_maps", "_law_monogenic", "_law_triples", "_law_blocks", "_law_plain", "_law_extended"] : List PySem.Str) ++ (["_law_semigroup", "_law_told", "_law_grown"] : List PySem.Str))) (d := HandSHeadRun.topDef (OpenLaw.row PySem.Challenge.rw_reesblocks_k06_restricted_semigroups).prog 33) (kwd := []) LAW.ob_eq
    (by kernel_rfl) (fun s => by kernel_rfl) LAW.run (by kernel_rfl) (by kernel_rfl) (by kernel_rfl) (by rfl) (by first | assumption | decide +kernel) (by decide +kernel) ⟨rfl, rfl, rfl, rfl, rfl, by decide +kernel⟩ ?hw ?hc
  case hw => w_witness2
  case hc => exact DL.law_end (l := PySem.Challenge.rw_reesblocks_k06_restricted_semigroups) (k := 8) (by rfl) (by kernel_rfl) ⟨rfl, by decide, by decide⟩ (by kernel_rfl) (fun w K mg h KX G c => LAW.ok_law KX G c) LAW.math

