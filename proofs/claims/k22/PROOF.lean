import PyProof.Rows.All
import Wide.All
import OpenK.AllK
import Wide.FinOn
import HandS.ForExc
import HandS.Comp
import HandS.Conv
import HandS.TupAny
import HandS.Strs
import HandS.Iter
import HandS.ExcSuper
import HandS.ExcField
import HandS.TryMany
import HandS.IsInst
import HandS.Wide
import HandS.Deep
import HandS.Style
import HandS.SortInts
import HandS.Defaults
import HandS.Head0
import HandS.Head1
import HandS.Head2
import HandS.HeadEnd
import HandS.HeadHook1
import HandS.HeadHook2
import KE.KExcSuper
import HandS.TupSets
import HandS.TupMul
import PyProof.StrOps2
import HandS.SetFor
import HandS.Dict
import HandS.Small
import HandS.More
import HandS.TupLen
import HandS.WordsDict
import KE.KDictDisplayH
import HandS.Text
import HandS.Replace
import PyProof.ListNew
import PyProof.EnumIter
import PyProof.EnumStmt
import PyProof.Rows.TupIter
import KE.KItemsList
import KE.GoesRaise
import KE.KAsSuite
import KE.KRevSl
import KE.DataMinMax
import PyProof.Rows.RowBridgeK
import PySem.Challenge.RW_reesblocks_k22_whole_normal_forms_of_gro
set_option Elab.async false
set_option linter.all false
set_option maxRecDepth 100000
set_option maxHeartbeats 8000000
namespace DL
open PySem PySem.Spec PyProof.Rows L2
abbrev KnO (o : Obj) : Prop := o.cls = .type "tuple" ∧ o.dict = none
section
variable {X : Cx}
theorem laidK {pins : List (Addr × Obj)} {σ : L2.St} {H : Hp} {s : Shared} {h' : Heap} {tk : Nat} {xs : List V} {its : List Value} (I : Inv X pins σ H s) (hk : ∀ b ob, s.heap.get? b = some ob → (h'.push { cls := .type "tuple", data := .seq its.toArray }).get? b = some ob) (hl : s.heap.objs.size ≤ h'.objs.size)
    (hz : xs.length ≤ sizeLine) (r : Vals xs its) : Inv X pins σ (upd H h'.objs.size (.frz { cls := .type "tuple", data := .seq its.toArray } (.tup xs))) { s with heap := h'.push { cls := .type "tuple", data := .seq its.toArray }, toks := tk } :=
  I.laid (t' := tk) hk hl ⟨Heap.get?_push_size _ rfl, hz, its, r, IsTup.new _ _⟩
def rCatK (K : PySem.W.Frag) : R2 := fun x y H Q => ∃ a b xs ys, x = .ref a ∧ y = .ref b ∧ SqT K H a xs ∧ SqT K H b ys ∧ xs.length + ys.length ≤ sizeLine ∧
  (xs = [] → Q (.ref b) H) ∧ (xs ≠ [] → ys = [] → Q (.ref a) H) ∧ (xs ≠ [] → ys ≠ [] → ∀ p o, H p = none → KnO o → Q (.ref p) (upd H p (.frz o (.tup (xs ++ ys)))))
theorem op_catK : OpR X (binaryOp .Add) (rCatK X.K) := by
  intro pins s σ H x y v u Q I rx ry h
  obtain ⟨a, b, xs, ys, rfl, rfl, ha, hb, hz, q0, q1, q2⟩ := h
  by_cases hx : xs = []
  · exact op_catA pins s σ H _ _ v u Q I rx ry ⟨a, b, xs, ys, rfl, rfl, ha, hb, hz, q0, q1, fun z => absurd hx z⟩
  · cases rx
    cases ry
    obtain ⟨its, r1, p1, _⟩ := I.tuple ha
    obtain ⟨its2, r2, p2, _⟩ := I.tuple hb
    refine HT.cat_tup p1 p2 (fun z => hx (r1.nil_iff.mp z)) (fun z => ⟨.ref a, H, I, rfl, q1 hx (r2.nil_iff.mp z)⟩) (fun z => ?_) (by rw [← r1.length, ← r2.length]; exact hz)
    exact ⟨.ref s.heap.objs.size, _, laidK I (fun b ob q => Heap.get?_push_of_some _ q) (Nat.le_refl _) (by rw [List.length_append]; exact hz) (r1.append r2), rfl, q2 hx (fun w => z (r2.nil_iff.mpr w)) _ _ (I.hok.fresh (Nat.le_refl _)) ⟨rfl, rfl⟩⟩
theorem call_tupleK : CallR X (.type "tuple") (fun xs H Q => ∃ p ys, xs = [.ref p] ∧ ((SqL X.K H p ys ∧ ∀ l o, H l = none → KnO o → Q (.ref l) (upd H l (.frz o (.tup ys)))) ∨ (SqT X.K H p ys ∧ Q (.ref p) H))) := by
  intro pins s σ H xs us Q I r h
  obtain ⟨p, ys, rfl, h⟩ := h
  rcases h with ⟨hq, q⟩ | ⟨hq, q⟩
  · obtain ⟨u, rfl, rx⟩ := vals1 r
    cases rx
    obtain ⟨its, r', pl, hz⟩ := I.list hq
    have hlen := r'.length
    refine call_tuple_list pl.isList (fun h' kp => ?_) (by simp only [List.size_toArray] <;> omega)
    have I1 : Inv X pins σ H { s with heap := h' } := I.kept (t' := s.toks) kp
    exact ⟨.ref h'.objs.size, _, laidK (s := { s with heap := h' }) (tk := s.toks) I1 (fun b o e => Heap.get?_push_of_some _ e) (Nat.le_refl _) hz r', rfl, q _ _ (I1.hok.fresh (Nat.le_refl _)) ⟨rfl, rfl⟩⟩
  · exact call_tuple_of pins s σ H _ us Q I r ⟨p, ys, rfl, .inr ⟨hq, q⟩⟩
def rSlK (K : PySem.W.Frag) : V → Option Int → Option Int → Hp → VK → Prop := fun x lo hi H Q => ∃ a xs, x = .ref a ∧ SqT K H a xs ∧
  (HT.sIx xs.length 0 lo = 0 ∧ HT.sIx xs.length xs.length hi = xs.length → Q (.ref a) H) ∧ (¬ (HT.sIx xs.length 0 lo = 0 ∧ HT.sIx xs.length xs.length hi = xs.length) → ∀ p o, H p = none → KnO o → Q (.ref p) (upd H p (.frz o (.tup (cutV xs lo hi)))))
theorem sl_tupK : SlR X (rSlK X.K) := by
  intro pins s σ H x v vl vu lo hi sl Q I rx hs pl pu h
  obtain ⟨a, xs, rfl, hx, q1, q2⟩ := h
  by_cases hw : HT.sIx xs.length 0 lo = 0 ∧ HT.sIx xs.length xs.length hi = xs.length
  · exact sl_tupA pins s σ H _ v vl vu lo hi sl Q I rx hs pl pu ⟨a, xs, rfl, hx, q1, fun z => absurd hw z⟩
  · cases rx
    obtain ⟨its, r, ht, hz⟩ := I.tuple hx
    have hlen : its.toArray.size = xs.length := by rw [List.size_toArray]; exact r.length.symm
    refine ⟨"tuple", _, PyProof.Rows.slot_tuple_getitem.lookup, ht.typeIs, ?_⟩
    refine HT.getItem_tuple_cut ht hs pl pu (by rw [hlen]; exact hw) ?_ (by rw [hlen]; exact hz)
    rw [hlen]
    exact ⟨.ref s.heap.objs.size, _, laidK I (fun b ob q => Heap.get?_push_of_some _ q) (Nat.le_refl _) (Nat.le_trans (cutV_length xs lo hi) hz) ((r.drop (HT.sIx xs.length 0 lo)).take (HT.sIx xs.length xs.length hi - HT.sIx xs.length 0 lo)), rfl, q2 hw _ _ (I.hok.fresh (Nat.le_refl _)) ⟨rfl, rfl⟩⟩
def KnT (K : PySem.W.Frag) (H : Hp) (a : Addr) : Prop := (∃ o u, H a = some (.frz o u) ∧ KnO o) ∨ ∃ o, K.lookup a = some o ∧ KnO o
theorem KnT.mono {K : PySem.W.Frag} {H H' : Hp} {a : Addr} (e : Same H H') (h : KnT K H a) : KnT K H' a := by
  rcases h with ⟨o, u, h, k⟩ | h
  · exact .inl ⟨o, u, e _ _ h, k⟩
  · exact .inr h
theorem KnT.new {K : PySem.W.Frag} {H : Hp} {p : Addr} {o : Obj} {u : HO} (k : KnO o) : KnT K (upd H p (.frz o u)) p := .inl ⟨o, u, upd_same, k⟩
theorem KnT.is {pins : List (Addr × Obj)} {σ : L2.St} {H : Hp} {s : Shared} {a : Addr} (I : Inv X pins σ H s) (h : KnT X.K H a) : s.TypeIs (.ref a) "tuple" ∧ ∃ ob, s.heap.get? a = some ob ∧ ob.dict = none := by
  rcases h with ⟨o, u, h, k⟩ | ⟨o, h, k⟩
  · obtain ⟨g, _⟩ := I.hok a _ h
    exact ⟨⟨o, g, k.1⟩, o, g, k.2⟩
  · have g := I.kIn a o h
    exact ⟨⟨o, g, k.1⟩, o, g, k.2⟩
/-- t.index(x), flat items -/
def rIndexT (K : PySem.W.Frag) : V → List V → Hp → VK → Prop := fun x xs H Q => ∃ (a : Addr) (ys : List V) (y : V) (j : Nat) (z : V), x = V.ref a ∧ xs = [y] ∧ SqT K H a ys ∧ flatV y = true ∧ ys.all flatV = true ∧ ys[j]? = some z ∧ eqV z y = true ∧
  (∀ (m : Nat) (z' : V), m < j → ys[m]? = some z' → eqV z' y = false) ∧ Q (.int (j : Nat)) H
theorem mt_indexT : MtR X "tuple.index" (rIndexT X.K) := by
  intro pins s σ H x xs v us Q I rx rxs h
  obtain ⟨a, ys, y, j, z, rfl, rfl, hs, fy, fys, hz, hzj, hno, q⟩ := h
  cases rx
  cases rxs with
  | cons ry rt =>
    rename_i uy ut
    cases rt
    obtain ⟨its, rv, ⟨⟨cls, dd, data, sl⟩, ho, hc, n, hd⟩, hlen⟩ := I.tuple hs
    simp only at hc hd
    subst hc hd
    obtain ⟨u, hu, ru⟩ := rv.get hz
    obtain ⟨hjl, hje⟩ := List.getElem?_eq_some_iff.mp hu
    have hvl := rv.length
    have hj : j < its.toArray.size := by simpa using hjl
    refine call_meets PySem.F.slot_tuple_index ⟨_, ho, rfl⟩ PySem.F.entry_tuple_index (PySem.F.args_tuple_index_2 _ _)
      (TI.tuple_indexAt a its.toArray n dd sl uy (eqU y) j hj ?_ ?_) ⟨ho, fun u' hu' => mem_eqAt ry fy rv fys u' (by simpa using hu'), ⟨.int (j : Nat), H, I.tok _, ⟨_, rfl⟩, q⟩⟩
    · have e1 : its.toArray[j] = u := by simpa using hje
      rw [e1, eqU_of ru (flat_at fys hz)]
      exact hzj
    · intro m hm hmj
      have hml : m < its.length := by simpa using hm
      have hmy : m < ys.length := by omega
      have hy' : ys[m]? = some ys[m] := List.getElem?_eq_getElem hmy
      obtain ⟨u2, hu2, ru2⟩ := rv.get hy'
      have e2 : its.toArray[m] = u2 := by
        rw [List.getElem?_eq_getElem hml] at hu2
        simpa using hu2
      rw [e2, eqU_of ru2 (flat_at fys hy')]
      exact hno m _ hmj hy'
def NewT (H : Hp) (Q : VK) (xs : List V) : Prop := (∀ p, H p = none → Q (.ref p) (upd H p (.tup xs))) ∨ (∀ p o, H p = none → KnO o → Q (.ref p) (upd H p (.frz o (.tup xs))))
def rCatN (K : PySem.W.Frag) : R2 := fun x y H Q => ∃ a b xs ys, x = .ref a ∧ y = .ref b ∧ SqT K H a xs ∧ SqT K H b ys ∧ xs.length + ys.length ≤ sizeLine ∧
  (xs = [] → Q (.ref b) H) ∧ (xs ≠ [] → ys = [] → Q (.ref a) H) ∧ (xs ≠ [] → ys ≠ [] → NewT H Q (xs ++ ys))
theorem op_catN : OpR X (binaryOp .Add) (rCatN X.K) := by
  intro pins s σ H x y v u Q I rx ry h
  obtain ⟨a, b, xs, ys, rfl, rfl, ha, hb, hz, q0, q1, q2⟩ := h
  by_cases hx : xs = []
  · exact op_catA pins s σ H _ _ v u Q I rx ry ⟨a, b, xs, ys, rfl, rfl, ha, hb, hz, q0, q1, fun z => absurd hx z⟩
  by_cases hy : ys = []
  · exact op_catA pins s σ H _ _ v u Q I rx ry ⟨a, b, xs, ys, rfl, rfl, ha, hb, hz, q0, q1, fun _ z => absurd hy z⟩
  rcases q2 hx hy with q | q
  · exact op_catA pins s σ H _ _ v u Q I rx ry ⟨a, b, xs, ys, rfl, rfl, ha, hb, hz, q0, q1, fun _ _ => q⟩
  · exact op_catK pins s σ H _ _ v u Q I rx ry ⟨a, b, xs, ys, rfl, rfl, ha, hb, hz, q0, q1, fun _ _ => q⟩
def rTupN (K : PySem.W.Frag) : List V → Hp → VK → Prop := fun xs H Q => ∃ p ys, xs = [.ref p] ∧ ((SqL K H p ys ∧ NewT H Q ys) ∨ (SqT K H p ys ∧ Q (.ref p) H))
theorem call_tupleN : CallR X (.type "tuple") (rTupN X.K) := by
  intro pins s σ H xs us Q I r h
  obtain ⟨p, ys, rfl, ⟨hq, q | q⟩ | ⟨hq, q⟩⟩ := h
  · exact call_tuple_of pins s σ H _ us Q I r ⟨p, ys, rfl, .inl ⟨hq, q⟩⟩
  · exact call_tupleK pins s σ H _ us Q I r ⟨p, ys, rfl, .inl ⟨hq, q⟩⟩
  · exact call_tuple_of pins s σ H _ us Q I r ⟨p, ys, rfl, .inr ⟨hq, q⟩⟩
def tTupN (t : TA) : TE := fun σ H Q => t σ H fun xs H1 => xs.length ≤ sizeLine ∧ NewT H1 Q xs
theorem pe_tupN {es : List Expr} {t : TA} {pos : Pos} {x1} (h : PA X es t) : PE X (.Tuple es x1 pos) (tTupN t) := by
  refine ⟨fun pins s σ H Q I hq => ?_⟩
  refine wpAny_Tuple_spliced (thn (h.run pos pins s σ H _ I hq) fun us s1 ⟨xs, H1, I1, r, z, q⟩ => ⟨by rw [← r.length]; exact z, ?_⟩)
  have hf : H1 s1.heap.objs.size = none := I1.hok.fresh (Nat.le_refl _)
  rcases q with q | q
  · refine ⟨.ref s1.heap.objs.size, upd H1 s1.heap.objs.size (.tup xs), I1.laid (t' := s1.toks) (fun b u e => Heap.get?_push_of_some _ e) (Nat.le_refl _) ?_, rfl, q _ hf⟩
    exact ⟨z, us, r, ⟨_, Heap.get?_push_size _ rfl, rfl, _, rfl⟩⟩
  · exact ⟨.ref s1.heap.objs.size, _, laidK I1 (fun b u e => Heap.get?_push_of_some _ e) (Nat.le_refl _) z r, rfl, q _ _ hf ⟨rfl, rfl⟩⟩
def rSlN (K : PySem.W.Frag) : V → Option Int → Option Int → Hp → VK → Prop := fun x lo hi H Q => ∃ a xs, x = .ref a ∧ SqT K H a xs ∧
  (HT.sIx xs.length 0 lo = 0 ∧ HT.sIx xs.length xs.length hi = xs.length → Q (.ref a) H) ∧ (¬ (HT.sIx xs.length 0 lo = 0 ∧ HT.sIx xs.length xs.length hi = xs.length) → NewT H Q (cutV xs lo hi))
theorem sl_tupN : SlR X (rSlN X.K) := by
  intro pins s σ H x v vl vu lo hi sl Q I rx hs pl pu h
  obtain ⟨a, xs, rfl, hx, q1, q2⟩ := h
  by_cases hw : HT.sIx xs.length 0 lo = 0 ∧ HT.sIx xs.length xs.length hi = xs.length
  · exact sl_tupA pins s σ H _ v vl vu lo hi sl Q I rx hs pl pu ⟨a, xs, rfl, hx, q1, fun z => absurd hw z⟩
  rcases q2 hw with q | q
  · exact sl_tupA pins s σ H _ v vl vu lo hi sl Q I rx hs pl pu ⟨a, xs, rfl, hx, q1, fun _ => q⟩
  · exact sl_tupK pins s σ H _ v vl vu lo hi sl Q I rx hs pl pu ⟨a, xs, rfl, hx, q1, fun _ => q⟩
/-- o.m(..), o a list or a known tuple -/
def tBMA (K : PySem.W.Frag) (r r' : V → List V → Hp → VK → Prop) (to : TE) (t : TA) : TE := fun σ H Q => to σ H fun x H1 => (tyV K "list" x H1 ∧ t σ H1 fun xs H2 => r x xs H2 Q) ∨ ((∃ a, x = .ref a ∧ KnT K H1 a) ∧ t σ H1 fun xs H2 => r' x xs H2 Q)
theorem pe_bmA {o e : Expr} {es : List Expr} {to : TE} {t : TA} {name : Str} {apos cpos : Pos} {id id' : String} {r r' : V → List V → Hp → VK → Prop} (pa : PlainAttrs "list") (slot : Slot "list" name id) (hty : typeOf (.builtin id) = pure (.type "method_descriptor")) (hm : MtR X id r)
    (pa' : PlainAttrs "tuple") (slot' : Slot "tuple" name id') (hty' : typeOf (.builtin id') = pure (.type "method_descriptor")) (hm' : MtR X id' r') (ho : PE X o to) (ha : PA X (e :: es) t)
    (hbase : attributeBase o name X.env (eval o X.env) = eval o X.env := by rfl)
    (hfew : ((backTo cpos (starEach (e :: es) X.env)).all (fun x => !x.1) && (backToKw cpos (keywordEach [] X.env)).all (fun x => x.1.isSome)
      && decide ((e :: es).length + ([] : List Keyword).length + (if ([] : List Keyword).isEmpty then 0 else 1) < 30)) = true := by rfl)
    (hline : (apos.endLine == cpos.line) = true := by rfl) (hs : starEach (e :: es) X.env = (false, eval e X.env) :: starEach es X.env := by rfl) (hplain : (backTo cpos (starEach es X.env)).any (·.1) = false := by rfl) :
    PE X (.Call (.Attribute o name apos) (e :: es) [] cpos) (tBMA X.K r r' to t) := by
  refine ⟨fun pins s σ H Q I h => ?_⟩
  refine wpAny_Call_method_late hbase hfew hline rfl (thn (ho.run pins s σ H _ I h) fun v s1 ⟨x, H1, I1, r1, q⟩ => ?_)
  rcases q with ⟨ty, q1⟩ | ⟨⟨a, ex, ty⟩, q1⟩
  · obtain ⟨h1, h2⟩ := tyV_is I1 r1 ty
    refine ⟨"list", id, pa, slot, hty, h1, h2, ?_⟩
    have hA := ha.run cpos pins s1 σ H1 _ I1 q1
    rw [hs] at hA ⊢
    refine Calls.callWith_builtin (by show (false || (backTo cpos (starEach es X.env)).any (·.1)) = false; rw [hplain] <;> rfl) (Calls.evalArgs_plain ?_)
    exact thn hA fun us s2 ⟨vs, H2, I2, r2, q2⟩ => hm pins s2 σ H2 x vs v us Q I2 r1 r2 q2
  · subst ex
    cases r1
    obtain ⟨h1, ob, h2, h3⟩ := ty.is I1
    refine ⟨"tuple", id', pa', slot', hty', h1, (fun b e => by cases e; exact ⟨ob, h2, h3⟩), ?_⟩
    have hA := ha.run cpos pins s1 σ H1 _ I1 q1
    rw [hs] at hA ⊢
    refine Calls.callWith_builtin (by show (false || (backTo cpos (starEach es X.env)).any (·.1)) = false; rw [hplain] <;> rfl) (Calls.evalArgs_plain ?_)
    exact thn hA fun us s2 ⟨vs, H2, I2, r2, q2⟩ => hm' pins s2 σ H2 (.ref a) vs _ us Q I2 rfl r2 q2
end
end DL
namespace DL
open PySem PySem.Spec PyProof.Rows L2
inductive D where
  | non | bl (b : Bool) | int (i : Int) | str (x : Str)
  | lst (xs : List D) | tup (xs : List D)
  | ins (c : Str) (ns : List Str) (ds : List D)
  /-- the script -/
  | scr (ns : List Int)
structure G where
  K : PySem.W.Frag
  mg : Str → Option Value
  /-- the exception that an except suite holds: its address, class, dict -/
  xa : Option (Addr × Value × Option Addr)
  /-- are the objects of tuples known (their dicts are none) -/
  tk : Bool
/-- a tuple's object: known, or just the tuple -/
def TkP (g : G) (F : Hp) (a : Addr) (vs : List V) : Prop := match g.tk with
  | true => KnT g.K F a
  | false => F a = some (.tup vs)
theorem TkP.mono {g : G} {F F' : Hp} {a : Addr} {vs : List V} (e : Same F F') (h : TkP g F a vs) : TkP g F' a vs := by
  unfold TkP at h ⊢
  revert h
  cases g.tk with
  | true => exact fun h => KnT.mono e h
  | false => exact fun h => e _ _ h
mutual
inductive Rv (g : G) (F : Hp) : V → D → Prop
  | non : Rv g F .non .non
  | bl (b : Bool) : Rv g F (.bl b) (.bl b)
  | int (i : Int) : Rv g F (.int i) (.int i)
  | str (x : Str) : Rv g F (.str x) (.str x)
  | lst {a : Addr} {vs : List V} {ds : List D} : F a = some (.lst vs) → Rl g F vs ds → Rv g F (.ref a) (.lst ds)
  | tup {a : Addr} {vs : List V} {ds : List D} : SqT g.K F a vs → TkP g F a vs → Rl g F vs ds → Rv g F (.ref a) (.tup ds)
  | ins {a C dx : Addr} {c : Str} {ns : List Str} {vs : List V} {ds : List D} : F a = some (.ins C dx (ns.zip vs)) → g.mg c = some (.ref C) → ns.length = vs.length → Rl g F vs ds → Rv g F (.ref a) (.ins c ns ds)
  | scr {a : Addr} {ns : List Int} : SqL g.K F a (ns.map V.int) → Rv g F (.ref a) (.scr ns)
inductive Rl (g : G) (F : Hp) : List V → List D → Prop
  | nil : Rl g F [] []
  | cons {v : V} {vs : List V} {d : D} {ds : List D} : Rv g F v d → Rl g F vs ds → Rl g F (v :: vs) (d :: ds)
end
theorem sqT_mono {K : PySem.W.Frag} {F F' : Hp} {a : Addr} {xs : List V} (e : Same F F') (h : SqT K F a xs) : SqT K F' a xs := by
  rcases h with (h | ⟨o, h⟩) | h
  · exact .inl (.inl (e _ _ h))
  · exact .inl (.inr ⟨o, e _ _ h⟩)
  · exact .inr h
theorem sqL_mono {K : PySem.W.Frag} {F F' : Hp} {a : Addr} {xs : List V} (e : Same F F') (h : SqL K F a xs) : SqL K F' a xs := by
  rcases h with (h | ⟨o, h⟩) | h
  · exact .inl (.inl (e _ _ h))
  · exact .inl (.inr ⟨o, e _ _ h⟩)
  · exact .inr h
mutual
theorem Rv.mono {g : G} {F F' : Hp} (e : Same F F') : ∀ {v : V} {d : D}, Rv g F v d → Rv g F' v d
  | _, _, .non => .non
  | _, _, .bl b => .bl b
  | _, _, .int i => .int i
  | _, _, .str x => .str x
  | _, _, .lst h r => .lst (e _ _ h) (Rl.mono e r)
  | _, _, .tup h k r => .tup (sqT_mono e h) (k.mono e) (Rl.mono e r)
  | _, _, .ins h m l r => .ins (e _ _ h) m l (Rl.mono e r)
  | _, _, .scr h => .scr (sqL_mono e h)
theorem Rl.mono {g : G} {F F' : Hp} (e : Same F F') : ∀ {vs : List V} {ds : List D}, Rl g F vs ds → Rl g F' vs ds
  | _, _, .nil => .nil
  | _, _, .cons r t => .cons (Rv.mono e r) (Rl.mono e t)
end
section
variable {g : G} {F : Hp}
theorem Rl.length : ∀ {vs : List V} {ds : List D}, Rl g F vs ds → vs.length = ds.length
  | _, _, .nil => rfl
  | _, _, .cons _ t => by rw [List.length_cons, List.length_cons, Rl.length t]
theorem Rl.get : ∀ {vs : List V} {ds : List D} {i : Nat} {d : D}, Rl g F vs ds → ds[i]? = some d → ∃ v, vs[i]? = some v ∧ Rv g F v d
  | _, _, _, _, .nil, e => by simp at e
  | _, _, 0, _, .cons r _, e => by simp at e; subst e; exact ⟨_, rfl, r⟩
  | _, _, i + 1, d, .cons _ t, e => by
    obtain ⟨u, h1, h2⟩ := Rl.get (i := i) (d := d) t (by simpa using e)
    exact ⟨u, by simpa using h1, h2⟩
theorem Rl.get' : ∀ {vs : List V} {ds : List D} {i : Nat} {v : V}, Rl g F vs ds → vs[i]? = some v → ∃ d, ds[i]? = some d ∧ Rv g F v d
  | _, _, _, _, .nil, e => by simp at e
  | _, _, 0, _, .cons r _, e => by simp at e; subst e; exact ⟨_, rfl, r⟩
  | _, _, i + 1, d, .cons _ t, e => by
    obtain ⟨u, h1, h2⟩ := Rl.get' (i := i) (v := d) t (by simpa using e)
    exact ⟨u, by simpa using h1, h2⟩
theorem Rl.append : ∀ {vs ws : List V} {ds es : List D}, Rl g F vs ds → Rl g F ws es → Rl g F (vs ++ ws) (ds ++ es)
  | _, _, _, _, .nil, s => s
  | _, _, _, _, .cons r t, s => .cons r (Rl.append t s)
theorem Rl.take : ∀ {vs : List V} {ds : List D} (n : Nat), Rl g F vs ds → Rl g F (vs.take n) (ds.take n)
  | _, _, 0, _ => .nil
  | _, _, _ + 1, .nil => .nil
  | _, _, n + 1, .cons r t => .cons r (Rl.take n t)
theorem Rl.drop : ∀ {vs : List V} {ds : List D} (n : Nat), Rl g F vs ds → Rl g F (vs.drop n) (ds.drop n)
  | _, _, 0, r => r
  | _, _, _ + 1, .nil => .nil
  | _, _, n + 1, .cons _ t => Rl.drop n t
theorem Rl.set {v : V} {d : D} (r : Rv g F v d) : ∀ {vs : List V} {ds : List D} (i : Nat), Rl g F vs ds → Rl g F (vs.set i v) (ds.set i d)
  | _, _, _, .nil => .nil
  | _, _, 0, .cons _ t => .cons r t
  | _, _, i + 1, .cons q t => .cons q (Rl.set r i t)
theorem Rl.eraseIdx : ∀ {vs : List V} {ds : List D} (i : Nat), Rl g F vs ds → Rl g F (vs.eraseIdx i) (ds.eraseIdx i)
  | _, _, _, .nil => .nil
  | _, _, 0, .cons _ t => t
  | _, _, i + 1, .cons q t => .cons q (Rl.eraseIdx i t)
theorem Rl.rep {vs : List V} {ds : List D} (h : Rl g F vs ds) : ∀ k : Nat, Rl g F (List.replicate k vs).flatten (List.replicate k ds).flatten
  | 0 => .nil
  | k + 1 => by rw [List.replicate_succ, List.replicate_succ, List.flatten_cons, List.flatten_cons]; exact h.append (Rl.rep h k)
theorem Rl.ints : ∀ {vs : List V} {ns : List Int}, Rl g F vs (ns.map D.int) → vs = ns.map V.int
  | _, [], .nil => rfl
  | _, n :: ns, .cons r t => by cases r; rw [Rl.ints t]; rfl
theorem Rl.of_ints : ∀ (ns : List Int), Rl g F (ns.map V.int) (ns.map D.int)
  | [] => .nil
  | n :: ns => .cons (.int n) (Rl.of_ints ns)
end
inductive Slot where
  | no | sh (d : D) | ow (ds : List D) | rf (k : Nat) (ds : List D) | oi (k : Nat) (c : Str) (ns : List Str) (ds : List D) | o2 (dss : List (List D)) | xc (c nm : Str) (x : D)
  | dk (kvs : List (Int × D)) | dt (kvs : List (List Int × D)) | lk (kvs : List (Int × D)) | lt (kvs : List (List Int × D))
abbrev DSt := List Slot
structure Par where
  B : List Addr
  R : Hp
  N : Addr → Prop
/-- dicts whose keys are numbers, tuples of numbers -/
def hK (kvs : List (Int × D)) (vs : List V) : HO := .dK ((kvs.map fun p => (Sum.inl p.1 : Key)).zip vs)
def hT (kvs : List (List Int × D)) (vs : List V) : HO := .dT ((kvs.map fun p => p.1.map (Sum.inl : Int → Key)).zip vs)
def SlotOk (g : G) (P : Par) (O : Addr → Option Nat) (F H : Hp) (i : Nat) (s : Slot) (ov : Option V) : Prop := match s with
  | .no => True
  | .sh d => ∃ v, ov = some v ∧ Rv g F v d
  | .ow ds => ∃ a vs, ov = some (.ref a) ∧ O a = some i ∧ ¬ P.N a ∧ H a = some (.lst vs) ∧ Rl g F vs ds
  | .rf k ds => ∃ a vs, ov = some (.ref a) ∧ P.B[k]? = some a ∧ O a = some i ∧ H a = some (.lst vs) ∧ Rl g F vs ds
  | .oi k c ns ds => ∃ a C dx vs, ov = some (.ref a) ∧ P.B[k]? = some a ∧ O a = some i ∧ g.mg c = some (.ref C) ∧ ns.length = vs.length ∧ H a = some (.ins C dx (ns.zip vs)) ∧ Rl g F vs ds
  | .o2 dss => ∃ (a : Addr) (bs : List Addr), ov = some (.ref a) ∧ O a = some i ∧ ¬ P.N a ∧ H a = some (.lst (bs.map V.ref)) ∧ bs.Nodup ∧ a ∉ bs ∧ bs.length = dss.length ∧
      ∀ (j : Nat) (b : Addr) (ds : List D), bs[j]? = some b → dss[j]? = some ds → O b = some i ∧ ¬ P.N b ∧ ∃ vs, H b = some (.lst vs) ∧ Rl g F vs ds
  | .dk kvs => ∃ (a : Addr) (vs : List V), ov = some (.ref a) ∧ O a = some i ∧ ¬ P.N a ∧ H a = some (hK kvs vs) ∧ Rl g F vs (kvs.map Prod.snd)
  | .dt kvs => ∃ (a : Addr) (vs : List V), ov = some (.ref a) ∧ O a = some i ∧ ¬ P.N a ∧ H a = some (hT kvs vs) ∧ Rl g F vs (kvs.map Prod.snd)
  | .lk kvs => ∃ (a : Addr) (od : Obj) (vs : List V), ov = some (.ref a) ∧ F a = some (.frz od (hK kvs vs)) ∧ Rl g F vs (kvs.map Prod.snd)
  | .lt kvs => ∃ (a : Addr) (od : Obj) (vs : List V), ov = some (.ref a) ∧ F a = some (.frz od (hT kvs vs)) ∧ Rl g F vs (kvs.map Prod.snd)
  | .xc c nm x => ∃ (a C d : Addr) (v : V), g.xa = some (a, .ref C, some d) ∧ g.mg c = some (.ref C) ∧ ov = some (.ref a) ∧ F d = some (.xd [(nm, v)]) ∧ Rv g F v x
theorem SlotOk.move {g : G} {P P' : Par} {O O' : Addr → Option Nat} {F F' H H' : Hp} {i : Nat} {s : Slot} {ov : Option V} (h : SlotOk g P O F H i s ov) (hB : P'.B = P.B) (hO : ∀ a, O a = some i → O' a = some i) (hF : Same F F')
    (hH : ∀ a o, O a = some i → H a = some o → H' a = some o) (hN : ∀ a, O a = some i → ¬ P.N a → ¬ P'.N a) : SlotOk g P' O' F' H' i s ov := by
  cases s with
  | no => trivial
  | sh d => obtain ⟨v, e, r⟩ := h; exact ⟨v, e, r.mono hF⟩
  | ow ds => obtain ⟨a, vs, e, o, n, h1, r⟩ := h; exact ⟨a, vs, e, hO a o, hN a o n, hH _ _ o h1, r.mono hF⟩
  | rf k ds => obtain ⟨a, vs, e, b, o, h1, r⟩ := h; exact ⟨a, vs, e, by rw [hB]; exact b, hO a o, hH _ _ o h1, r.mono hF⟩
  | oi k c ns ds => obtain ⟨a, C, dx, vs, e, b, o, m, l, h1, r⟩ := h; exact ⟨a, C, dx, vs, e, by rw [hB]; exact b, hO a o, m, l, hH _ _ o h1, r.mono hF⟩
  | xc c nm x => obtain ⟨a, C, d, v, e1, e2, e3, h1, r⟩ := h; exact ⟨a, C, d, v, e1, e2, e3, hF _ _ h1, r.mono hF⟩
  | dk kvs => obtain ⟨a, vs, e, o, n, h1, r⟩ := h; exact ⟨a, vs, e, hO a o, hN a o n, hH _ _ o h1, r.mono hF⟩
  | dt kvs => obtain ⟨a, vs, e, o, n, h1, r⟩ := h; exact ⟨a, vs, e, hO a o, hN a o n, hH _ _ o h1, r.mono hF⟩
  | lk kvs => obtain ⟨a, od, vs, e, h1, r⟩ := h; exact ⟨a, od, vs, e, hF _ _ h1, r.mono hF⟩
  | lt kvs => obtain ⟨a, od, vs, e, h1, r⟩ := h; exact ⟨a, od, vs, e, hF _ _ h1, r.mono hF⟩
  | o2 dss =>
    obtain ⟨a, bs, e, o, n, h1, nd, na, l, r⟩ := h
    refine ⟨a, bs, e, hO a o, hN a o n, hH _ _ o h1, nd, na, l, fun j b ds e1 e2 => ?_⟩
    obtain ⟨o', n', vs, h2, r2⟩ := r j b ds e1 e2
    exact ⟨hO b o', hN b o' n', vs, hH _ _ o' h2, r2.mono hF⟩
/-- something stands there that is no tuple -/
def NT (H : Hp) (a : Addr) : Prop := H a ≠ none ∧ ∀ xs, H a ≠ some (.tup xs)
theorem NT.of {H : Hp} {a : Addr} {o : HO} (h : H a = some o) (n : ∀ xs, o ≠ .tup xs := by intro _ z; cases z) : NT H a := ⟨by rw [h]; simp, fun xs z => by rw [h] at z; exact n xs (Option.some.inj z)⟩
theorem NT.same {H H' : Hp} {a : Addr} (e : Same H H') (h : NT H a) : NT H' a := by
  obtain ⟨h1, h2⟩ := h
  cases q : H a with
  | none => exact absurd q h1
  | some o => exact NT.of (e a o q) fun xs z => h2 xs (by rw [q, z])
theorem NT.get {H : Hp} {a : Addr} (h : NT H a) : ∃ o, H a = some o := by
  cases q : H a with
  | none => exact absurd q h.1
  | some o => exact ⟨o, rfl⟩
theorem NT.move {H H' : Hp} {a : Addr} (h : NT H a) (e : ∀ o, H a = some o → H' a = some o) : NT H' a := by
  obtain ⟨o, q⟩ := h.get
  exact NT.of (e o q) fun xs z => h.2 xs (by rw [q, z])
theorem NT.upd {H : Hp} {a b : Addr} {o : HO} (hb : b ≠ a) (h : NT H b) : NT (L2.upd H a o) b := NT.move h fun u hu => by rw [upd_ne hb]; exact hu
structure SRc (g : G) (P : Par) (O : Addr → Option Nat) (σ : L2.St) (H F : Hp) (st : DSt) : Prop where
  le : Same F H
  rr : Same P.R H
  oo : ∀ a i, O a = some i → F a = none ∧ P.R a = none ∧ NT H a
  no : ∀ a, P.N a → F a = none ∧ NT H a
  len : σ.length = st.length
  sl : ∀ i s ov, st[i]? = some s → σ[i]? = some ov → SlotOk g P O F H i s ov
def SR (g : G) (P : Par) (σ : L2.St) (H F : Hp) (st : DSt) : Prop := ∃ O, SRc g P O σ H F st
/-- .. and p belongs to nobody -/
def SRx (g : G) (P : Par) (σ : L2.St) (H F : Hp) (st : DSt) (p : Addr) : Prop := ∃ O, SRc g P O σ H F st ∧ O p = none ∧ F p = none ∧ P.R p = none ∧ ¬ P.N p
structure Grow (H F H' F' : Hp) : Prop where
  h : Same H H'
  f : Same F F'
  i : Same F' H'
  n : ∀ a, NT H a → F a = none → F' a = none
theorem Grow.refl {H F : Hp} (l : Same F H) : Grow H F H F := ⟨Same.refl _, Same.refl _, l, fun _ _ h => h⟩
theorem Grow.trans {H F H1 F1 H2 F2 : Hp} (a : Grow H F H1 F1) (b : Grow H1 F1 H2 F2) : Grow H F H2 F2 :=
  ⟨a.h.trans b.h, a.f.trans b.f, b.i, fun x h1 h2 => b.n x (NT.same a.h h1) (a.n x h1 h2)⟩
theorem ne_some {α : Type} {o : Option α} (h : o ≠ none) : ∃ x, o = some x := by
  cases o with
  | none => exact absurd rfl h
  | some x => exact ⟨x, rfl⟩
theorem Same.ne {H H' : Hp} (e : Same H H') {a : Addr} (h : H a ≠ none) : H' a ≠ none := by
  obtain ⟨o, ho⟩ := ne_some h
  rw [e a o ho]; simp
/-- a new object, frozen -/
theorem Grow.new {H F : Hp} {p : Addr} {o : HO} (l : Same F H) (h : H p = none) : Grow H F (upd H p o) (upd F p o) := by
  have hp : ∀ {b : Addr} {u : HO}, H b = some u → b ≠ p := fun e z => by subst z; rw [h] at e; cases e
  refine ⟨fun b u e => by rw [upd_ne (hp e)]; exact e, fun b u e => by rw [upd_ne (hp (l _ _ e))]; exact e, fun b u e => ?_, fun b hb hf => ?_⟩
  · by_cases hbp : b = p
    · subst hbp; rw [upd_same] at e ⊢; exact e
    · rw [upd_ne hbp] at e ⊢; exact l _ _ e
  · obtain ⟨u, e⟩ := hb.get
    rw [upd_ne (hp e)]; exact hf
/-- a new object, not frozen -/
theorem Grow.new0 {H F : Hp} {p : Addr} {o : HO} (l : Same F H) (h : H p = none) : Grow H F (upd H p o) F := by
  have hp : ∀ {b : Addr} {u : HO}, H b = some u → b ≠ p := fun e z => by subst z; rw [h] at e; cases e
  exact ⟨fun b u e => by rw [upd_ne (hp e)]; exact e, Same.refl _, fun b u e => by rw [upd_ne (hp (l _ _ e))]; exact l _ _ e, fun _ _ h => h⟩
section
variable {g : G} {P : Par} {O : Addr → Option Nat} {σ : L2.St} {H F H' F' : Hp} {st : DSt}
theorem SlotOk.grow {i : Nat} {s : Slot} {ov : Option V} (gr : Grow H F H' F') (h : SlotOk g P O F H i s ov) : SlotOk g P O F' H' i s ov :=
  h.move rfl (fun _ h => h) gr.f (fun _ _ _ h => gr.h _ _ h) fun _ _ h => h
theorem SRc.grow (s : SRc g P O σ H F st) (gr : Grow H F H' F') : SRc g P O σ H' F' st :=
  ⟨gr.i, s.rr.trans gr.h, fun a i e => ⟨gr.n a (s.oo a i e).2.2 (s.oo a i e).1, (s.oo a i e).2.1, NT.same gr.h (s.oo a i e).2.2⟩,
    fun a n => ⟨gr.n a (s.no a n).2 (s.no a n).1, NT.same gr.h (s.no a n).2⟩, s.len, fun i sl ov e1 e2 => (s.sl i sl ov e1 e2).grow gr⟩
theorem SR.grow (s : SR g P σ H F st) (gr : Grow H F H' F') : SR g P σ H' F' st := let ⟨O, c⟩ := s; ⟨O, c.grow gr⟩
theorem SR.le (s : SR g P σ H F st) : Same F H := let ⟨_, c⟩ := s; c.le
theorem SR.len (s : SR g P σ H F st) : σ.length = st.length := let ⟨_, c⟩ := s; c.len
end
inductive Res (α : Type) where
  | ok (a : α) (st : DSt) | exn (c : Str) (fs : List (Str × D)) (st : DSt) | stuck
inductive M (α : Type) where
  | ok (a : α) | exn (c : Str) (fs : List (Str × D)) | stuck
abbrev Den (α : Type) := DSt → Res α
@[simp] def bindD {α β : Type} (a : Den α) (k : α → Den β) : Den β := fun st => match a st with
  | .ok x st' => k x st'
  | .exn c fs st' => .exn c fs st'
  | .stuck => .stuck
@[simp] def liftO {α : Type} (o : Option α) : Den α := fun st => match o with
  | some a => .ok a st
  | none => .stuck
@[simp] def liftM' {α : Type} (m : M α) : Den α := fun st => match m with
  | .ok a => .ok a st
  | .exn c fs => .exn c fs st
  | .stuck => .stuck
@[simp] def retD {α : Type} (a : α) : Den α := fun st => .ok a st
def RepX (g : G) (F H : Hp) (c : Str) (fs : List (Str × D)) (cls : Value) (dd : Option Addr) : Prop :=
  ∃ C, g.mg c = some (.ref C) ∧ cls = .ref C ∧ ((fs = [] ∧ dd = none) ∨ ∃ d nm v x, dd = some d ∧ fs = [(nm, x)] ∧ F d = some (.xd [(nm, v)]) ∧ Rv g F v x)
theorem RepX.mono {g : G} {F F' H H' : Hp} {c : Str} {fs : List (Str × D)} {cls : Value} {dd : Option Addr} (ef : Same F F') (eh : Same H H') (h : RepX g F H c fs cls dd) : RepX g F' H' c fs cls dd := by
  obtain ⟨C, m, e, h⟩ := h
  refine ⟨C, m, e, ?_⟩
  rcases h with h | ⟨d, nm, v, x, e1, e2, e3, r⟩
  · exact .inl h
  · exact .inr ⟨d, nm, v, x, e1, e2, ef _ _ e3, r.mono ef⟩
def Out {α : Type} (g : G) (W : WX) (P : Par) (σ : L2.St) (F : Hp) (r : Res α) (k : α → DSt → Hp → Hp → Prop) : Prop := match r with
  | .ok a st' => ∀ H' F', Same F F' → SR g P σ H' F' st' → k a st' H' F'
  | .exn c fs st' => ∀ cls dd H' F', Same F F' → SR g P σ H' F' st' → RepX g F' H' c fs cls dd → W cls dd σ H'
  | .stuck => False
section
variable {g : G} {W : WX} {P : Par} {σ : L2.St} {F F' : Hp} {α β : Type}
theorem Out.imp {r : Res α} {k k' : α → DSt → Hp → Hp → Prop} (h : Out g W P σ F r k) (hk : ∀ a st' H' F', Same F F' → SR g P σ H' F' st' → k a st' H' F' → k' a st' H' F') : Out g W P σ F r k' := by
  cases r with
  | ok a st' => exact fun H' F' e s => hk a st' H' F' e s (h H' F' e s)
  | exn c fs st' => exact h
  | stuck => exact h
theorem Out.weak {r : Res α} {k : α → DSt → Hp → Hp → Prop} (e : Same F F') (h : Out g W P σ F r k) : Out g W P σ F' r k := by
  cases r with
  | ok a st' => exact fun H' F2 e2 s => h H' F2 (e.trans e2) s
  | exn c fs st' => exact fun cls dd H' F2 e2 s => h cls dd H' F2 (e.trans e2) s
  | stuck => exact h
theorem Out.bind {a : Den α} {f : α → Den β} {st : DSt} {k : β → DSt → Hp → Hp → Prop} (h : Out g W P σ F (bindD a f st) k) : Out g W P σ F (a st) (fun x st1 _ F1 => Out g W P σ F1 (f x st1) k) := by
  unfold bindD at h
  revert h
  cases a st with
  | ok x st' => exact fun h H' F' e s => Out.weak e h
  | exn c fs st' => exact fun h => h
  | stuck => exact fun h => h
theorem Out.lift {o : Option α} {st : DSt} {k : α → DSt → Hp → Hp → Prop} (h : Out g W P σ F (liftO o st) k) : ∃ a, o = some a ∧ ∀ H' F', Same F F' → SR g P σ H' F' st → k a st H' F' := by
  cases o with
  | some a => exact ⟨a, rfl, h⟩
  | none => exact h.elim
end
def tE (g : G) (W : WX) (f : Den D) : TE := fun σ H Q => ∃ P F st, SR g P σ H F st ∧ Out g W P σ F (f st) fun d _ H' F' => ∀ v, Rv g F' v d → Q v H'
def tT (g : G) (W : WX) (f : Den Bool) : TT := fun σ H Q => ∃ P F st, SR g P σ H F st ∧ Out g W P σ F (f st) fun b _ H' _ => Q b H'
def tA (g : G) (W : WX) (f : Den (List D)) : TA := fun σ H Q => ∃ P F st, SR g P σ H F st ∧ Out g W P σ F (f st) fun ds _ H' F' => ∀ vs, Rl g F' vs ds → Q vs H'
/-- a new list, owned by nobody -/
def OutN (g : G) (W : WX) (P : Par) (σ : L2.St) (F : Hp) (r : Res (List D)) (Q : VK) : Prop := match r with
  | .ok ds st' => ∀ H' F' p vs, Same F F' → SRx g P σ H' F' st' p → H' p = some (.lst vs) → Rl g F' vs ds → Q (.ref p) H'
  | .exn c fs st' => ∀ cls dd H' F', Same F F' → SR g P σ H' F' st' → RepX g F' H' c fs cls dd → W cls dd σ H'
  | .stuck => False
def tN (g : G) (W : WX) (f : Den (List D)) : TE := fun σ H Q => ∃ P F st, SR g P σ H F st ∧ OutN g W P σ F (f st) Q
theorem _root_.L2.PE.imp {X : Cx} {e : Expr} {t t' : TE} (h : PE X e t) (i : ∀ σ H Q, t' σ H Q → t σ H Q) : PE X e t' := ⟨fun pins s σ H Q I q => h.run pins s σ H Q I (i σ H Q q)⟩
theorem _root_.L2.PT.imp {X : Cx} {e : Expr} {t t' : TT} (h : PT X e t) (i : ∀ σ H Q, t' σ H Q → t σ H Q) : PT X e t' := ⟨fun pins s σ H Q I q => h.run pins s σ H Q I (i σ H Q q)⟩
theorem _root_.L2.PW.imp {X : Cx} {e : Expr} {t t' : TT} (h : PW X e t) (i : ∀ σ H Q, t' σ H Q → t σ H Q) : PW X e t' := ⟨fun w pins s σ H Q I q => h.run w pins s σ H Q I (i σ H Q q)⟩
theorem _root_.L2.PA.imp {X : Cx} {e : List Expr} {t t' : TA} (h : PA X e t) (i : ∀ σ H Q, t' σ H Q → t σ H Q) : PA X e t' := ⟨fun pos pins s σ H Q I q => h.run pos pins s σ H Q I (i σ H Q q)⟩
theorem _root_.L2.PS.imp {X : Cx} {e : Stmt} {t t' : TS} (h : PS X e t) (i : ∀ D σ H, t' D σ H → t D σ H) : PS X e t' := ⟨fun pins s σ H D I q => h.run pins s σ H D I (i D σ H q)⟩
theorem _root_.L2.PSs.imp {X : Cx} {e : List Stmt} {t t' : TS} (h : PSs X e t) (i : ∀ D σ H, t' D σ H → t D σ H) : PSs X e t' := ⟨fun pins s σ H D I q => h.run pins s σ H D I (i D σ H q)⟩
/-- read at the heap: frozen, or an owned list -/
def Br (g : G) (F H : Hp) (v : V) (d : D) : Prop := Rv g F v d ∨ ∃ a vs ds, v = .ref a ∧ d = .lst ds ∧ H a = some (.lst vs) ∧ Rl g F vs ds
end DL
namespace DL
open PySem PySem.Spec PyProof.Rows L2
mutual
def toPy : D → Option PyData
  | .non => some .none
  | .bl b => some (.bool b)
  | .int i => some (.int i)
  | .str x => some (.str x)
  | .lst xs => match toPys xs with | some ps => some (.list ps) | none => none
  | .tup xs => match toPys xs with | some ps => some (.tuple ps) | none => none
  | .ins _ _ _ => none
  | .scr _ => none
def toPys : List D → Option (List PyData)
  | [] => some []
  | d :: ds => match toPy d, toPys ds with | some p, some ps => some (p :: ps) | _, _ => none
end
theorem sqL_of {K : PySem.W.Frag} {H : Hp} {a : Addr} {xs : List V} (h : H a = some (.lst xs)) : SqL K H a xs := .inl (.inl h)
mutual
theorem Rv.dp {g : G} {F H : Hp} (l : Same F H) : ∀ {v : V} {d : D} {p : PyData}, Rv g F v d → toPy d = some p → Dp g.K H v p
  | _, .non, _, r, e => by cases r; cases e; exact .non
  | _, .bl b, _, r, e => by cases r; cases e; exact .bl b
  | _, .int b, _, r, e => by cases r; cases e; exact .int b
  | _, .str b, _, r, e => by cases r; cases e; exact .str b
  | _, .lst xs, _, r, e => by
    cases r with
    | lst h q =>
      unfold toPy at e
      cases z : toPys xs with
      | none => rw [z] at e; cases e
      | some ps => rw [z] at e; cases e; exact .lst (sqL_of (l _ _ h)) (Rl.dp l q z)
  | _, .tup xs, _, r, e => by
    cases r with
    | tup h _ q =>
      unfold toPy at e
      cases z : toPys xs with
      | none => rw [z] at e; cases e
      | some ps => rw [z] at e; cases e; exact .tup (sqT_mono l h) (Rl.dp l q z)
  | _, .ins _ _ _, _, r, e => by cases e
  | _, .scr _, _, r, e => by cases e
theorem Rl.dp {g : G} {F H : Hp} (l : Same F H) : ∀ {vs : List V} {ds : List D} {ps : List PyData}, Rl g F vs ds → toPys ds = some ps → DpAll g.K H vs ps
  | _, [], _, r, e => by cases r; cases e; exact .nil
  | _, d :: ds, _, r, e => by
    cases r with
    | cons a b =>
      unfold toPys at e
      cases z : toPy d with
      | none => rw [z] at e; cases e
      | some p =>
        cases z2 : toPys ds with
        | none => rw [z, z2] at e; cases e
        | some ps => rw [z, z2] at e; cases e; exact .cons (Rv.dp l a z) (Rl.dp l b z2)
end
theorem Br.dp {g : G} {F H : Hp} (l : Same F H) {v : V} {d : D} {p : PyData} (r : Br g F H v d) (e : toPy d = some p) : Dp g.K H v p := by
  rcases r with r | ⟨a, vs, ds, rfl, rfl, h, q⟩
  · exact r.dp l e
  · unfold toPy at e
    cases z : toPys ds with
    | none => rw [z] at e; cases e
    | some ps => rw [z] at e; cases e; exact .lst (sqL_of h) (Rl.dp l q z)
theorem Br.lst {g : G} {F H : Hp} (l : Same F H) {v : V} {ds : List D} (r : Br g F H v (.lst ds)) : ∃ a vs, v = .ref a ∧ H a = some (.lst vs) ∧ Rl g F vs ds := by
  rcases r with r | ⟨a, vs, ds', rfl, e, h, q⟩
  · cases r with
    | lst h q => exact ⟨_, _, rfl, l _ _ h, q⟩
  · cases e; exact ⟨a, vs, rfl, h, q⟩
theorem Br.tup {g : G} {F H : Hp} (l : Same F H) {v : V} {ds : List D} (r : Br g F H v (.tup ds)) : ∃ a vs, v = .ref a ∧ SqT g.K H a vs ∧ Rl g F vs ds := by
  rcases r with r | ⟨a, vs, ds', rfl, e, h, q⟩
  · cases r with
    | tup h _ q => exact ⟨_, _, rfl, sqT_mono l h, q⟩
  · cases e
theorem Br.int {g : G} {F H : Hp} {v : V} {i : Int} (r : Br g F H v (.int i)) : v = .int i := by
  rcases r with r | ⟨a, vs, ds', rfl, e, h, q⟩
  · cases r; rfl
  · cases e
theorem Br.bl {g : G} {F H : Hp} {v : V} {i : Bool} (r : Br g F H v (.bl i)) : v = .bl i := by
  rcases r with r | ⟨a, vs, ds', rfl, e, h, q⟩
  · cases r; rfl
  · cases e
theorem Br.str {g : G} {F H : Hp} {v : V} {i : Str} (r : Br g F H v (.str i)) : v = .str i := by
  rcases r with r | ⟨a, vs, ds', rfl, e, h, q⟩
  · cases r; rfl
  · cases e
theorem Br.non {g : G} {F H : Hp} {v : V} (r : Br g F H v .non) : v = .non := by
  rcases r with r | ⟨a, vs, ds', rfl, e, h, q⟩
  · cases r; rfl
  · cases e
def VO1 (g : G) (r : V → Hp → VK → Prop) (op : D → Option D) : Prop := ∀ (H F : Hp) (v : V) (d z : D), Same F H → Br g F H v d → op d = some z → ∀ Q : VK, (∀ v' H' F', Grow H F H' F' → Rv g F' v' z → Q v' H') → r v H Q
def VO2 (g : G) (r : R2) (op : D → D → Option D) : Prop := ∀ (H F : Hp) (v u : V) (d e z : D), Same F H → Br g F H v d → Br g F H u e → op d e = some z → ∀ Q : VK, (∀ v' H' F', Grow H F H' F' → Rv g F' v' z → Q v' H') → r v u H Q
def VOC (g : G) (r : List V → Hp → VK → Prop) (op : D → Option D) : Prop := VO1 g (fun v => r [v]) op
/-- .. that give a new list -/
def VN1 (g : G) (r : V → Hp → VK → Prop) (op : D → Option (List D)) : Prop := ∀ (H F : Hp) (v : V) (d : D) (zs : List D), Same F H → Br g F H v d → op d = some zs → ∀ Q : VK, (∀ p vs, H p = none → Rl g F vs zs → Q (.ref p) (upd H p (.lst vs))) → r v H Q
def VN2 (g : G) (r : R2) (op : D → D → Option (List D)) : Prop := ∀ (H F : Hp) (v u : V) (d e : D) (zs : List D), Same F H → Br g F H v d → Br g F H u e → op d e = some zs → ∀ Q : VK, (∀ p vs, H p = none → Rl g F vs zs → Q (.ref p) (upd H p (.lst vs))) → r v u H Q
theorem OpR.or {X : Cx} {f : Value → Value → Sem Value} {r r' : R2} (h : OpR X f r) (h' : OpR X f r') : OpR X f (fun x y H Q => r x y H Q ∨ r' x y H Q) := by
  intro pins s σ H x y v u Q I rx ry q
  rcases q with q | q
  · exact h pins s σ H x y v u Q I rx ry q
  · exact h' pins s σ H x y v u Q I rx ry q
theorem newT {g : G} {H F : Hp} {vs : List V} {ds : List D} {Q : VK} (l : Same F H) (r : Rl g F vs ds) (q : ∀ v' H' F', Grow H F H' F' → Rv g F' v' (.tup ds) → Q v' H') : NewT H Q vs := by
  cases ht : g.tk with
  | false => exact .inl fun p hp => q _ _ _ (Grow.new l hp) (.tup (.inl (.inl upd_same)) (by unfold TkP; rw [ht]; exact upd_same) (r.mono (Grow.new l hp).f))
  | true => exact .inr fun p o hp ko => q _ _ _ (Grow.new l hp) (.tup (.inl (.inr ⟨o, upd_same⟩)) (by unfold TkP; rw [ht]; exact KnT.new ko) (r.mono (Grow.new l hp).f))
section
variable {g : G}
def big : Nat := 16777216
theorem big_eq : big = sizeLine := by rw [sizeLine_eq]; rfl
@[simp] def opAdd : D → D → Option D
  | .int i, .int j => some (.int (i + j))
  | .str x, .str y => if x.length + y.length ≤ big then some (.str (x ++ y)) else none
  | .tup xs, .tup ys => if xs.length + ys.length ≤ big then some (.tup (xs ++ ys)) else none
  | .lst xs, .lst ys => if xs.length + ys.length ≤ big then some (.lst (xs ++ ys)) else none
  | _, _ => none
def rAddD (K : PySem.W.Frag) : R2 := fun x y H Q => rI0 (fun i j => .int (i + j)) x y H Q ∨ (∃ i j, x = .str i ∧ y = .str j ∧ i.length + j.length ≤ sizeLine ∧ Q (.str (i ++ j)) H) ∨ rCatN K x y H Q ∨ rCat x y H Q
theorem op_addD {X : Cx} : OpR X (binaryOp .Add) (rAddD X.K) := op_add.or (op_add_str.or (op_catN.or op_cat))
theorem vo_add : VO2 g (rAddD g.K) opAdd := by
  intro H F v u d e z l rd re h Q q
  unfold opAdd at h
  split at h
  · cases h; cases rd.int; cases re.int
    exact .inl ⟨_, _, rfl, rfl, q _ _ _ (Grow.refl l) (.int _)⟩
  · split at h
    · rename_i hl
      cases h; cases rd.str; cases re.str
      exact .inr (.inl ⟨_, _, rfl, rfl, by rw [← big_eq]; exact hl, q _ _ _ (Grow.refl l) (.str _)⟩)
    · cases h
  · split at h
    · rename_i xs ys hl
      cases h
      obtain ⟨a, vs, rfl, h1, r1⟩ := rd.tup l
      obtain ⟨b, ws, rfl, h2, r2⟩ := re.tup l
      refine .inr (.inr (.inl ?_))
      refine ⟨a, b, vs, ws, rfl, rfl, h1, h2, by rw [r1.length, r2.length, ← big_eq]; exact hl, fun e => ?_, fun _ e => ?_, fun _ _ => newT l (r1.append r2) q⟩
      · subst e
        cases r1
        rcases re with re | ⟨_, _, _, _, e, _⟩
        · exact q _ _ _ (Grow.refl l) re
        · cases e
      · subst e
        cases r2
        rw [List.append_nil] at q
        rcases rd with rd | ⟨_, _, _, _, e, _⟩
        · exact q _ _ _ (Grow.refl l) rd
        · cases e
    · cases h
  · split at h
    · rename_i xs ys hl
      cases h
      obtain ⟨a, vs, rfl, h1, r1⟩ := rd.lst l
      obtain ⟨b, ws, rfl, h2, r2⟩ := re.lst l
      exact .inr (.inr (.inr ⟨a, b, vs, ws, rfl, rfl, h1, h2, by rw [r1.length, r2.length, ← big_eq]; exact hl, fun p hp => q _ _ _ (Grow.new l hp) (.lst upd_same ((r1.append r2).mono (Grow.new l hp).f))⟩))
    · cases h
  · cases h
@[simp] def nAdd : D → D → Option (List D)
  | .lst xs, .lst ys => if xs.length + ys.length ≤ big then some (xs ++ ys) else none
  | _, _ => none
theorem vn_add : VN2 g (rAddD g.K) nAdd := by
  intro H F v u d e z l rd re h Q q
  unfold nAdd at h
  split at h
  · split at h
    · rename_i xs ys hl
      cases h
      obtain ⟨a, vs, rfl, h1, r1⟩ := rd.lst l
      obtain ⟨b, ws, rfl, h2, r2⟩ := re.lst l
      exact .inr (.inr (.inr ⟨a, b, vs, ws, rfl, rfl, h1, h2, by rw [r1.length, r2.length, ← big_eq]; exact hl, fun p hp => q _ _ hp (r1.append r2)⟩))
    · cases h
  · cases h
@[simp] def opSub : D → D → Option D
  | .int i, .int j => some (.int (i - j))
  | _, _ => none
theorem vo_sub : VO2 g (rI0 fun i j => .int (i - j)) opSub := by
  intro H F v u d e z l rd re h Q q
  unfold opSub at h
  split at h
  · cases h; cases rd.int; cases re.int
    exact ⟨_, _, rfl, rfl, q _ _ _ (Grow.refl l) (.int _)⟩
  · cases h
def smallI (i : Int) : Bool := decide (i.natAbs < 18446744073709551616)
theorem small_of {i : Int} (h : smallI i = true) : -(2 ^ 64) < i ∧ i < 2 ^ 64 := by
  have : i.natAbs < 18446744073709551616 := of_decide_eq_true h
  omega
@[simp] def opMul : D → D → Option D
  | .int i, .int j => if smallI i || smallI j then some (.int (i * j)) else none
  | .lst xs, .int k => if xs.length * k.toNat ≤ big ∧ smallI (k * 4) = true ∧ k.natAbs < 9223372036854775808 then some (.lst (List.replicate k.toNat xs).flatten) else none
  | _, _ => none
def rMulD : R2 := fun x y H Q => rI CMul (fun i j => .int (i * j)) x y H Q ∨ rRep x y H Q
theorem op_mulD {X : Cx} : OpR X (binaryOp .Mult) rMulD := op_mul.or op_rep
theorem vo_mul : VO2 g rMulD opMul := by
  intro H F v u d e z l rd re h Q q
  unfold opMul at h
  split at h
  · split at h
    · rename_i hc
      cases h; cases rd.int; cases re.int
      refine .inl ⟨_, _, rfl, rfl, ?_, q _ _ _ (Grow.refl l) (.int _)⟩
      rcases Bool.or_eq_true_iff.mp hc with c | c
      · exact .inl (small_of c)
      · exact .inr (small_of c)
    · cases h
  · split at h
    · rename_i xs k hl
      cases h
      obtain ⟨a, vs, rfl, h1, r1⟩ := rd.lst l
      cases re.int
      obtain ⟨hl1, hl2, hl3⟩ := hl
      exact .inr ⟨a, k, vs, rfl, rfl, h1, by omega, by omega, by rw [r1.length, ← big_eq]; exact hl1, fun p hp => q _ _ _ (Grow.new l hp) (.lst upd_same ((r1.rep k.toNat).mono (Grow.new l hp).f))⟩
    · cases h
  · cases h
@[simp] def nMul : D → D → Option (List D)
  | .lst xs, .int k => if xs.length * k.toNat ≤ big ∧ k.natAbs < 9223372036854775808 then some (List.replicate k.toNat xs).flatten else none
  | _, _ => none
@[simp] def opDiv : D → D → Option D
  | .int i, .int j => if j ≠ 0 ∧ j.natAbs < 1073741824 then some (.int (i.fdiv j)) else none
  | _, _ => none
theorem vo_div : VO2 g (rI CDivN fun i j => .int (i.fdiv j)) opDiv := by
  intro H F v u d e z l rd re h Q q
  unfold opDiv at h
  split at h
  · split at h
    · rename_i hc
      cases h; cases rd.int; cases re.int
      exact ⟨_, _, rfl, rfl, hc, q _ _ _ (Grow.refl l) (.int _)⟩
    · cases h
  · cases h
@[simp] def opMod : D → D → Option D
  | .int i, .int j => if j ≠ 0 then some (.int (i.fmod j)) else none
  | _, _ => none
theorem vo_mod : VO2 g (rI (fun _ j => j ≠ 0) fun i j => .int (i.fmod j)) opMod := by
  intro H F v u d e z l rd re h Q q
  unfold opMod at h
  split at h
  · split at h
    · rename_i hc
      cases h; cases rd.int; cases re.int
      exact ⟨_, _, rfl, rfl, hc, q _ _ _ (Grow.refl l) (.int _)⟩
    · cases h
  · cases h
@[simp] def opNeg : D → Option D
  | .int i => some (.int (-i))
  | _ => none
@[simp] def cmpI (p : Int → Int → Bool) : D → D → Option D
  | .int i, .int j => some (.bl (p i j))
  | _, _ => none
theorem vo_cmpI (p : Int → Int → Bool) : VO2 g (rI0 fun i j => .bl (p i j)) (cmpI p) := by
  intro H F v u d e z l rd re h Q q
  unfold cmpI at h
  split at h
  · cases h; cases rd.int; cases re.int
    exact ⟨_, _, rfl, rfl, q _ _ _ (Grow.refl l) (.bl _)⟩
  · cases h
@[simp] def opLt : D → D → Option D := cmpI fun i j => decide (i < j)
@[simp] def opLe : D → D → Option D := cmpI fun i j => decide (i ≤ j)
@[simp] def opGt : D → D → Option D := cmpI fun i j => decide (j < i)
@[simp] def opGe : D → D → Option D := cmpI fun i j => decide (j ≤ i)
def eqD (x y : D) : Option Bool := match toPy x, toPy y with
  | some p, some q => if SeqAt.shaped p && SeqAt.shaped q then some (PyData.eqv p q) else none
  | _, _ => none
@[simp] def opEq (x y : D) : Option D := match eqD x y with | some b => some (.bl b) | none => none
@[simp] def opNe (x y : D) : Option D := match eqD x y with | some b => some (.bl (!b)) | none => none
theorem eqD_some {x y : D} {b : Bool} (h : eqD x y = some b) : ∃ p q, toPy x = some p ∧ toPy y = some q ∧ SeqAt.shaped p = true ∧ SeqAt.shaped q = true ∧ b = PyData.eqv p q := by
  unfold eqD at h
  split at h
  · rename_i p q e1 e2
    split at h
    · rename_i hs
      cases h
      obtain ⟨h1, h2⟩ := Bool.and_eq_true_iff.mp hs
      exact ⟨p, q, e1, e2, h1, h2, rfl⟩
    · cases h
  · cases h
theorem vo_eq : VO2 g (rEqD g.K) opEq := by
  intro H F v u d e z l rd re h Q q
  unfold opEq at h
  split at h
  · rename_i b hb
    cases h
    obtain ⟨p, r, e1, e2, s1, s2, rfl⟩ := eqD_some hb
    exact ⟨p, r, rd.dp l e1, re.dp l e2, s1, s2, q _ _ _ (Grow.refl l) (.bl _)⟩
  · cases h
theorem vo_ne : VO2 g (rNeD g.K) opNe := by
  intro H F v u d e z l rd re h Q q
  unfold opNe at h
  split at h
  · rename_i b hb
    cases h
    obtain ⟨p, r, e1, e2, s1, s2, rfl⟩ := eqD_some hb
    exact ⟨p, r, rd.dp l e1, re.dp l e2, s1, s2, q _ _ _ (Grow.refl l) (.bl _)⟩
  · cases h
/-- is, is not: None and truth values -/
@[simp] def isD : D → D → Option Bool
  | .bl a, .bl b => some (decide (a = b))
  | d, .non => some (match d with | .non => true | _ => false)
  | _, _ => none
@[simp] def opIs (x y : D) : Option D := match isD x y with | some b => some (.bl b) | none => none
@[simp] def opIsNot (x y : D) : Option D := match isD x y with | some b => some (.bl (!b)) | none => none
def rIsD : R2 := fun x y H Q => (y = .non ∧ Q (.bl (decide (x = .non))) H) ∨ rIsB x y H Q
def rIsNotD : R2 := fun x y H Q => (y = .non ∧ Q (.bl (!decide (x = .non))) H) ∨ rNotB x y H Q
theorem op_isD {X : Cx} : OpR X (compareOp .Is) rIsD := op_isN.or op_isBl
theorem op_isNotD {X : Cx} : OpR X (compareOp .IsNot) rIsNotD := op_notN.or op_notBl
theorem isD_cases {H F : Hp} {v u : V} {d e : D} {b : Bool} (l : Same F H) (rd : Br g F H v d) (re : Br g F H u e) (h : isD d e = some b) : (u = .non ∧ b = decide (v = .non)) ∨ ∃ x y, v = .bl x ∧ u = .bl y ∧ b = decide (x = y) := by
  unfold isD at h
  split at h
  · cases h; cases rd.bl; cases re.bl
    exact .inr ⟨_, _, rfl, rfl, rfl⟩
  · cases h; cases re.non
    refine .inl ⟨rfl, ?_⟩
    rcases rd with rd | ⟨a, vs, ds, rfl, rfl, _⟩
    · cases rd <;> rfl
    · rfl
  · cases h
theorem vo_is : VO2 g rIsD opIs := by
  intro H F v u d e z l rd re h Q q
  unfold opIs at h
  split at h
  · rename_i b hb
    cases h
    rcases isD_cases l rd re hb with ⟨rfl, rfl⟩ | ⟨x, y, rfl, rfl, rfl⟩
    · exact .inl ⟨rfl, q _ _ _ (Grow.refl l) (.bl _)⟩
    · exact .inr ⟨x, y, rfl, rfl, q _ _ _ (Grow.refl l) (.bl _)⟩
  · cases h
theorem vo_isnot : VO2 g rIsNotD opIsNot := by
  intro H F v u d e z l rd re h Q q
  unfold opIsNot at h
  split at h
  · rename_i b hb
    cases h
    rcases isD_cases l rd re hb with ⟨rfl, rfl⟩ | ⟨x, y, rfl, rfl, rfl⟩
    · exact .inl ⟨rfl, q _ _ _ (Grow.refl l) (.bl _)⟩
    · exact .inr ⟨x, y, rfl, rfl, q _ _ _ (Grow.refl l) (.bl _)⟩
  · cases h
def flatD : D → Bool
  | .non | .bl _ | .int _ | .str _ => true
  | _ => false
def eqF : D → D → Bool
  | .non, .non => true
  | .bl a, .bl b => a == b
  | .bl a, .int b => (if a then 1 else 0) == b
  | .int a, .bl b => a == (if b then 1 else 0)
  | .int a, .int b => a == b
  | .str a, .str b => a == b
  | _, _ => false
theorem flat_rv {F : Hp} {v : V} {d : D} (r : Rv g F v d) (h : flatD d = true) : flatV v = true := by
  cases r <;> first | rfl | cases h
theorem eqF_rv {F : Hp} {v u : V} {d e : D} (r : Rv g F v d) (s : Rv g F u e) (h : flatD d = true) (h2 : flatD e = true) : eqV v u = eqF d e := by
  cases r <;> first | (cases s <;> first | rfl | cases h2) | cases h
theorem all_flat {F : Hp} : ∀ {vs : List V} {ds : List D}, Rl g F vs ds → ds.all flatD = true → vs.all flatV = true
  | _, _, .nil, _ => rfl
  | _, _, .cons r t, h => by
    rw [List.all_cons, Bool.and_eq_true] at h
    rw [List.all_cons, flat_rv r h.1, all_flat t h.2]; rfl
theorem any_eqF {F : Hp} {u : V} {e : D} (s : Rv g F u e) (h2 : flatD e = true) : ∀ {vs : List V} {ds : List D}, Rl g F vs ds → ds.all flatD = true → vs.any (fun y => eqV y u) = ds.any fun y => eqF y e
  | _, _, .nil, _ => rfl
  | _, _, .cons r t, h => by
    rw [List.all_cons, Bool.and_eq_true] at h
    rw [List.any_cons, List.any_cons, eqF_rv r s h.1 h2, any_eqF s h2 t h.2]
def inD (x y : D) : Option Bool := match y with
  | .lst ys => if flatD x && ys.all flatD then some (ys.any fun y => eqF y x) else
      match toPy x, toPys ys with
      | some p, some qs => if SeqAt.shaped p && SeqAt.shaped (.list qs) then some (qs.any fun z => PyData.eqv z p) else none
      | _, _ => none
  | .tup ys => if flatD x && ys.all flatD then some (ys.any fun y => eqF y x) else
      match toPy x, toPys ys with
      | some p, some qs => if SeqAt.shaped p && SeqAt.shaped (.tuple qs) then some (qs.any fun z => PyData.eqv z p) else none
      | _, _ => none
  | .str t => match x with | .str s => some (!(Builtin.Str.occurrences t s 0 t.length 1).isEmpty) | _ => none
  | _ => none
@[simp] def opIn (x y : D) : Option D := match inD x y with | some b => some (.bl b) | none => none
@[simp] def opNotIn (x y : D) : Option D := match inD x y with | some b => some (.bl (!b)) | none => none
def rNotInT (K : PySem.W.Frag) : R2 := fun x y H Q => ∃ d ds, Dp K H x d ∧ Dp K H y (.tuple ds) ∧ SeqAt.shaped d = true ∧ SeqAt.shaped (.tuple ds) = true ∧ Q (.bl (!(ds.any fun z => PyData.eqv z d))) H
theorem op_notInT {X : Cx} (hu : X.A.units + 65 < cLine) : OpR X (compareOp .NotIn) (rNotInT X.K) := by
  intro pins s σ H x y v u Q I rx ry hw
  obtain ⟨d, ds, hd, he, sd, se, q⟩ := hw
  obtain ⟨as, r1⟩ := Dp.reads I d x v hd rx
  obtain ⟨bs, r2⟩ := Dp.reads I (.tuple ds) y u he ry
  exact SeqAt.notIn_tuple_reads r2 r1 (SeqAt.canLay_of_shaped se) (SeqAt.canLay_of_shaped sd) (room_in_shaped sd hu) ⟨.bl _, H, I, rfl, q⟩
def rNotInA (K : PySem.W.Frag) : R2 := fun x y H Q => rIn K true x y H Q ∨ rNotInD K x y H Q ∨ rNotInT K x y H Q ∨ ∃ i j, x = .str i ∧ y = .str j ∧ Q (.bl (!(!(Builtin.Str.occurrences j i 0 j.length 1).isEmpty))) H
theorem op_notInA {X : Cx} (hu : X.A.units + 65 < cLine) : OpR X (compareOp .NotIn) (rNotInA X.K) := op_notIn_seq.or ((op_notInD hu).or ((op_notInT hu).or op_notIn_str))
theorem Br.flat {F H : Hp} {v : V} {d : D} (r : Br g F H v d) (h : flatD d = true) : Rv g F v d := by
  rcases r with r | ⟨_, _, _, _, rfl, _⟩
  · exact r
  · cases h
theorem inD_cases {H F : Hp} {v u : V} {d e : D} {b : Bool} (l : Same F H) (rd : Br g F H v d) (re : Br g F H u e) (h : inD d e = some b) :
    (∃ p xs, u = .ref p ∧ (SqL g.K H p xs ∨ SqT g.K H p xs) ∧ flatV v = true ∧ xs.all flatV = true ∧ inV v xs = b) ∨
    (∃ d ds, Dp g.K H v d ∧ Dp g.K H u (.list ds) ∧ SeqAt.shaped d = true ∧ SeqAt.shaped (.list ds) = true ∧ (ds.any fun z => PyData.eqv z d) = b) ∨
    (∃ d ds, Dp g.K H v d ∧ Dp g.K H u (.tuple ds) ∧ SeqAt.shaped d = true ∧ SeqAt.shaped (.tuple ds) = true ∧ (ds.any fun z => PyData.eqv z d) = b) ∨
    ∃ i j, v = .str i ∧ u = .str j ∧ (!(Builtin.Str.occurrences j i 0 j.length 1).isEmpty) = b := by
  unfold inD at h
  split at h
  · rename_i ys
    split at h
    · rename_i hf
      cases h
      obtain ⟨f1, f2⟩ := Bool.and_eq_true_iff.mp hf
      obtain ⟨a, vs, rfl, h1, r1⟩ := re.lst l
      exact .inl ⟨a, vs, rfl, .inl (sqL_of h1), flat_rv (rd.flat f1) f1, all_flat r1 f2, any_eqF (rd.flat f1) f1 r1 f2⟩
    · split at h
      · rename_i p qs e1 e2
        split at h
        · rename_i hs
          cases h
          obtain ⟨h1, h2⟩ := Bool.and_eq_true_iff.mp hs
          exact .inr (.inl ⟨p, qs, rd.dp l e1, re.dp l (by unfold toPy; rw [e2]), h1, h2, rfl⟩)
        · cases h
      · cases h
  · rename_i ys
    split at h
    · rename_i hf
      cases h
      obtain ⟨f1, f2⟩ := Bool.and_eq_true_iff.mp hf
      obtain ⟨a, vs, rfl, h1, r1⟩ := re.tup l
      exact .inl ⟨a, vs, rfl, .inr h1, flat_rv (rd.flat f1) f1, all_flat r1 f2, any_eqF (rd.flat f1) f1 r1 f2⟩
    · split at h
      · rename_i p qs e1 e2
        split at h
        · rename_i hs
          cases h
          obtain ⟨h1, h2⟩ := Bool.and_eq_true_iff.mp hs
          exact .inr (.inr (.inl ⟨p, qs, rd.dp l e1, re.dp l (by unfold toPy; rw [e2]), h1, h2, rfl⟩))
        · cases h
      · cases h
  · split at h
    · cases h
      exact .inr (.inr (.inr ⟨_, _, rd.str, re.str, rfl⟩))
    · cases h
  · cases h
theorem vo_notin : VO2 g (rNotInA g.K) opNotIn := by
  intro H F v u d e z l rd re h Q q
  unfold opNotIn at h
  split at h
  · rename_i b hb
    cases h
    rcases inD_cases l rd re hb with ⟨p, xs, e1, e2, e3, e4, rfl⟩ | ⟨p, ds, e1, e2, e3, e4, rfl⟩ | ⟨p, ds, e1, e2, e3, e4, rfl⟩ | ⟨i, j, e1, e2, rfl⟩
    · exact .inl ⟨p, xs, e1, e2, e3, e4, q _ _ _ (Grow.refl l) (.bl _)⟩
    · exact .inr (.inl ⟨p, ds, e1, e2, e3, e4, q _ _ _ (Grow.refl l) (.bl _)⟩)
    · exact .inr (.inr (.inl ⟨p, ds, e1, e2, e3, e4, q _ _ _ (Grow.refl l) (.bl _)⟩))
    · exact .inr (.inr (.inr ⟨i, j, e1, e2, q _ _ _ (Grow.refl l) (.bl _)⟩))
  · cases h
@[simp] def opIx : D → D → Option D
  | .lst xs, .int i => atI xs i
  | .tup xs, .int i => atI xs i
  | .str z, .int i => if z.length ≤ big then match atI z.cps.toList i with | some c => some (.str ⟨#[c]⟩) | none => none else none
  | _, _ => none
theorem atI_rl {F : Hp} {vs : List V} {ds : List D} {i : Int} {z : D} (r : Rl g F vs ds) (h : atI ds i = some z) : ∃ v, atI vs i = some v ∧ Rv g F v z := by
  unfold atI at h ⊢
  rw [r.length]
  cases e : ixN ds.length i with
  | none => rw [e] at h; cases h
  | some j =>
    rw [e] at h
    obtain ⟨v, h1, h2⟩ := r.get (show ds[j]? = some z from h)
    exact ⟨v, h1, h2⟩
theorem vo_ix : VO2 g (rIx g.K) opIx := by
  intro H F v u d e z l rd re h Q q
  unfold opIx at h
  split at h
  · cases re.int
    obtain ⟨a, vs, rfl, h1, r1⟩ := rd.lst l
    obtain ⟨w, h2, r2⟩ := atI_rl r1 h
    exact .inl ⟨a, vs, _, w, rfl, rfl, sqL_of h1, h2, q _ _ _ (Grow.refl l) r2⟩
  · cases re.int
    obtain ⟨a, vs, rfl, h1, r1⟩ := rd.tup l
    obtain ⟨w, h2, r2⟩ := atI_rl r1 h
    exact .inr (.inl ⟨a, vs, _, w, rfl, rfl, h1, h2, q _ _ _ (Grow.refl l) r2⟩)
  · split at h
    · rename_i hz
      split at h
      · rename_i c hc
        cases h; cases re.int; cases rd.str
        exact .inr (.inr ⟨_, _, c, rfl, rfl, by rw [← big_eq]; exact hz, hc, q _ _ _ (Grow.refl l) (.str _)⟩)
      · cases h
    · cases h
  · cases h
@[simp] def opLen : D → Option D
  | .lst xs => some (.int xs.length)
  | .tup xs => some (.int xs.length)
  | .str z => if z.length ≤ big then some (.int z.length) else none
  | _ => none
def rLenD (K : PySem.W.Frag) : List V → Hp → VK → Prop := fun xs H Q => (∃ p ys, xs = [.ref p] ∧ (SqL K H p ys ∨ SqT K H p ys) ∧ Q (.int ys.length) H) ∨ ∃ z, xs = [.str z] ∧ z.length ≤ sizeLine ∧ Q (.int z.length) H
theorem call_lenD {X : Cx} : CallR X (.builtin "len") (rLenD X.K) := call_len_seq.or call_len_str
theorem vo_len : VOC g (rLenD g.K) opLen := by
  intro H F v d z l rd h Q q
  unfold opLen at h
  split at h
  · cases h
    obtain ⟨a, vs, rfl, h1, r1⟩ := rd.lst l
    exact .inl ⟨a, vs, rfl, .inl (sqL_of h1), by rw [r1.length]; exact q _ _ _ (Grow.refl l) (.int _)⟩
  · cases h
    obtain ⟨a, vs, rfl, h1, r1⟩ := rd.tup l
    exact .inl ⟨a, vs, rfl, .inr h1, by rw [r1.length]; exact q _ _ _ (Grow.refl l) (.int _)⟩
  · split at h
    · rename_i hz
      cases h; cases rd.str
      exact .inr ⟨_, rfl, by rw [← big_eq]; exact hz, q _ _ _ (Grow.refl l) (.int _)⟩
    · cases h
  · cases h
@[simp] def opAbs : D → Option D
  | .int i => some (.int (if i < 0 then -i else i))
  | _ => none
theorem vo_abs : VOC g (fun xs H Q => ∃ i, xs = [.int i] ∧ Q (.int (if i < 0 then -i else i)) H) opAbs := by
  intro H F v d z l rd h Q q
  unfold opAbs at h
  split at h
  · cases h; cases rd.int; exact ⟨_, rfl, q _ _ _ (Grow.refl l) (.int _)⟩
  · cases h
@[simp] def opMax2 : D → D → Option D
  | .int i, .int j => some (.int (if j > i then j else i))
  | _, _ => none
@[simp] def opMin2 : D → D → Option D
  | .int i, .int j => some (.int (if j < i then j else i))
  | _, _ => none
@[simp] def opInt : D → Option D
  | .int i => some (.int i)
  | .bl b => some (.int (if b then 1 else 0))
  | _ => none
theorem vo_int : VOC g (fun xs H Q => (∃ i, xs = [.int i] ∧ Q (.int i) H) ∨ ∃ k, xs = [.bl k] ∧ Q (.int (if k then 1 else 0)) H) opInt := by
  intro H F v d z l rd h Q q
  unfold opInt at h
  split at h
  · cases h; cases rd.int; exact .inl ⟨_, rfl, q _ _ _ (Grow.refl l) (.int _)⟩
  · cases h; cases rd.bl; exact .inr ⟨_, rfl, q _ _ _ (Grow.refl l) (.int _)⟩
  · cases h
@[simp] def opStr : D → Option D
  | .int i => if i.natAbs.log2 < 1920 then some (.str (toString i : String)) else none
  | _ => none
@[simp] def opTuple : D → Option D
  | .lst xs => some (.tup xs)
  | .tup xs => some (.tup xs)
  | _ => none
theorem vo_tuple : VOC g (rTupN g.K) opTuple := by
  intro H F v d z l rd h Q q
  unfold opTuple at h
  split at h
  · cases h
    obtain ⟨a, vs, rfl, h1, r1⟩ := rd.lst l
    exact ⟨a, vs, rfl, .inl ⟨sqL_of h1, newT l r1 q⟩⟩
  · cases h
    rcases rd with rd | ⟨_, _, _, _, e, _⟩
    · obtain ⟨a, vs, rfl, h1, r1⟩ := Br.tup l (.inl rd)
      exact ⟨a, vs, rfl, .inr ⟨h1, q _ _ _ (Grow.refl l) rd⟩⟩
    · cases e
  · cases h
@[simp] def nList : D → Option (List D)
  | .lst xs => some xs
  | .tup xs => some xs
  | _ => none
theorem vn_list : VN1 g (fun v => (fun xs H Q => ∃ p ys, xs = [V.ref p] ∧ (SqL g.K H p ys ∨ SqT g.K H p ys) ∧ ∀ l, H l = none → Q (.ref l) (upd H l (.lst ys))) [v]) nList := by
  intro H F v d z l rd h Q q
  unfold nList at h
  split at h
  · cases h
    obtain ⟨a, vs, rfl, h1, r1⟩ := rd.lst l
    exact ⟨a, vs, rfl, .inl (sqL_of h1), fun p hp => q _ _ hp r1⟩
  · cases h
    obtain ⟨a, vs, rfl, h1, r1⟩ := rd.tup l
    exact ⟨a, vs, rfl, .inr h1, fun p hp => q _ _ hp r1⟩
  · cases h
def intsOf : List D → Option (List Int)
  | [] => some []
  | .int i :: r => match intsOf r with | some is => some (i :: is) | none => none
  | _ :: _ => none
theorem intsOf_eq : ∀ {ds : List D} {is : List Int}, intsOf ds = some is → ds = is.map D.int
  | [], _, e => by cases e; rfl
  | .int i :: r, _, e => by
    unfold intsOf at e
    split at e
    · rename_i js hj; cases e; rw [intsOf_eq hj]; rfl
    · cases e
def blsOf : List D → Option (List Bool)
  | [] => some []
  | .bl i :: r => match blsOf r with | some is => some (i :: is) | none => none
  | _ :: _ => none
@[simp] def onInts {α : Type} (f : List Int → Option α) : D → Option α
  | .lst ds => match intsOf ds with | some is => f is | none => none
  | _ => none
@[simp] def opSum : D → Option D := onInts fun is => some (.int is.sum)
def minL : List Int → Int
  | [] => 0
  | [x] => x
  | x :: r => if x ≤ minL r then x else minL r
def maxL : List Int → Int
  | [] => 0
  | [x] => x
  | x :: r => if maxL r ≤ x then x else maxL r
@[simp] def opMin : D → Option D := onInts fun is => if is.isEmpty then none else some (.int (minL is))
@[simp] def opMax : D → Option D := onInts fun is => if is.isEmpty then none else some (.int (maxL is))
@[simp] def onBls {α : Type} (f : List Bool → Option α) : D → Option α
  | .lst ds => match blsOf ds with | some is => f is | none => none
  | _ => none
@[simp] def opAll : D → Option D := onBls fun is => some (.bl (is.all id))
@[simp] def opAny : D → Option D := onBls fun is => some (.bl (is.any id))
end
end DL
namespace DL
open PySem PySem.Spec PyProof.Rows L2
@[simp] def dVar (i : Nat) : Den D := fun st => match st[i]? with
  | some (.sh d) => .ok d st
  | some (.ow ds) => .ok (.lst ds) (st.set i (.sh (.lst ds)))
  | some (.o2 dss) => .ok (.lst (dss.map .lst)) (st.set i (.sh (.lst (dss.map .lst))))
  | _ => .stuck
@[simp] def dRd (i : Nat) : Den D := fun st => match st[i]? with
  | some (.sh d) => .ok d st
  | some (.ow ds) => .ok (.lst ds) st
  | some (.rf _ ds) => .ok (.lst ds) st
  | _ => .stuck
@[simp] def dC (d : D) : Den D := retD d
@[simp] def dOp1 (op : D → Option D) (a : Den D) : Den D := bindD a fun x => liftO (op x)
@[simp] def dOp2 (op : D → D → Option D) (a b : Den D) : Den D := bindD a fun x => bindD b fun y => liftO (op x y)
/-- first b, then the name's content -/
@[simp] def dOp2n (op : D → D → Option D) (i : Nat) (b : Den D) : Den D := bindD (dRd i) fun _ => bindD b fun y => bindD (dRd i) fun x => liftO (op x y)
@[simp] def dOp2m (op : D → D → Option D) (a : Den D) (j : Nat) : Den D := bindD a fun x => bindD (dRd j) fun y => liftO (op x y)
@[simp] def dOp1n (op : D → Option D) (i : Nat) : Den D := bindD (dRd i) fun x => liftO (op x)
@[simp] def dN1n (op : D → Option (List D)) (i : Nat) : Den (List D) := bindD (dRd i) fun x => liftO (op x)
@[simp] def dN1 (op : D → Option (List D)) (a : Den D) : Den (List D) := bindD a fun x => liftO (op x)
@[simp] def dN2 (op : D → D → Option (List D)) (a b : Den D) : Den (List D) := bindD a fun x => bindD b fun y => liftO (op x y)
@[simp] def dFrz (a : Den (List D)) : Den D := bindD a fun ds => retD (.lst ds)
@[simp] def dNil : Den (List D) := retD []
@[simp] def dCons (a : Den D) (r : Den (List D)) : Den (List D) := bindD a fun x => bindD r fun xs => retD (x :: xs)
@[simp] def dTup (a : Den (List D)) : Den D := bindD a fun ds => liftO (if ds.length ≤ big then some (.tup ds) else none)
@[simp] def dLst (a : Den (List D)) : Den (List D) := bindD a fun ds => liftO (if ds.length ≤ big then some ds else none)
@[simp] def asB : D → Option Bool
  | .bl b => some b
  | _ => none
@[simp] def dTst (a : Den D) : Den Bool := bindD a fun x => liftO (asB x)
@[simp] def dVal (a : Den Bool) : Den D := bindD a fun b => retD (.bl b)
@[simp] def dAnd (a b : Den Bool) : Den Bool := bindD a fun x => if x then b else retD false
@[simp] def dOr (a b : Den Bool) : Den Bool := bindD a fun x => if x then retD true else b
@[simp] def dNot (a : Den Bool) : Den Bool := bindD a fun x => retD (!x)
@[simp] def dIf {α : Type} (t : Den Bool) (a b : Den α) : Den α := bindD t fun x => if x then a else b
@[simp] def dChain (op op' : D → D → Option D) (a b c : Den D) : Den D := bindD a fun x => bindD b fun y => bindD (liftO (op x y)) fun z => bindD (liftO (asB z)) fun k => if k then bindD c fun w => liftO (op' y w) else retD (.bl false)
section
variable {X : Cx} {g : G} {W : WX} {e a b c : Expr} {f h k : Den D} {t u : Den Bool} {P : Par} {σ : L2.St} {H F : Hp} {st : DSt}
theorem SRc.nth (s : SR g P σ H F st) {i : Nat} {sl : Slot} (h : st[i]? = some sl) : ∃ ov, σ[i]? = some ov := by
  have := s.len
  have hi : i < st.length := by
    rcases Nat.lt_or_ge i st.length with q | q
    · exact q
    · rw [List.getElem?_eq_none q] at h; cases h
  exact ⟨σ[i], by simp [this, hi]⟩
/-- an owned list becomes data -/
theorem SR.freeze {i : Nat} {ds : List D} (s : SR g P σ H F st) (h : st[i]? = some (.ow ds)) : ∃ a F', σ[i]? = some (some (.ref a)) ∧ Same F F' ∧ Rv g F' (.ref a) (.lst ds) ∧ SR g P σ H F' (st.set i (.sh (.lst ds))) := by
  obtain ⟨ov, hov⟩ := SRc.nth s h
  obtain ⟨O, c⟩ := s
  obtain ⟨a, vs, rfl, ho, hn, ha, r⟩ := c.sl i _ _ h hov
  have fa := (c.oo a i ho).1
  have sf : Same F (upd F a (.lst vs)) := fun b o e => by
    rw [upd_ne (fun z => by subst z; rw [fa] at e; cases e)]; exact e
  have rv : Rv g (upd F a (.lst vs)) (.ref a) (.lst ds) := .lst upd_same (r.mono sf)
  refine ⟨a, upd F a (.lst vs), hov, sf, rv, fun b => if b = a then none else O b, ?_⟩
  refine ⟨fun b o e => ?_, c.rr, fun b j e => ?_, fun b n => ?_, by rw [List.length_set]; exact c.len, fun j s ov e1 e2 => ?_⟩
  · by_cases hb : b = a
    · subst hb; rw [upd_same] at e; cases e; exact ha
    · rw [upd_ne hb] at e; exact c.le _ _ e
  · by_cases hb : b = a
    · subst hb; simp at e
    · simp only [if_neg hb] at e
      rw [upd_ne hb]; exact c.oo b j e
  · have hb : b ≠ a := fun z => hn (z ▸ n)
    rw [upd_ne hb]; exact c.no b n
  · by_cases hj : j = i
    · subst hj
      have hlt : j < st.length := by
        rcases Nat.lt_or_ge j st.length with q | q
        · exact q
        · rw [List.getElem?_eq_none q] at h; cases h
      rw [List.getElem?_set_self hlt] at e1
      cases e1
      rw [hov] at e2; cases e2
      exact ⟨_, rfl, rv⟩
    · rw [List.getElem?_set_ne (Ne.symm hj)] at e1
      exact (c.sl j s ov e1 e2).move rfl (fun b o => by
        have hb : b ≠ a := fun z => hj (by rw [z, ho] at o; exact (Option.some.inj o).symm)
        simp only [if_neg hb]; exact o) sf (fun _ _ _ h => h) fun _ _ h => h
theorem Rl.of_get {F : Hp} : ∀ {vs : List V} {ds : List D}, vs.length = ds.length → (∀ (j : Nat) (v : V) (d : D), vs[j]? = some v → ds[j]? = some d → Rv g F v d) → Rl g F vs ds
  | [], [], _, _ => .nil
  | [], _ :: _, h, _ => nomatch h
  | _ :: _, [], h, _ => nomatch h
  | v :: vs, d :: ds, h, k => .cons (k 0 v d rfl rfl) (Rl.of_get (by simpa using h) fun j v d e1 e2 => k (j + 1) v d (by simpa using e1) (by simpa using e2))
theorem lt_of_get {α : Type} {l : List α} {i : Nat} {x : α} (h : l[i]? = some x) : i < l.length := (List.getElem?_eq_some_iff.mp h).1
/-- a list of lists becomes data -/
theorem SR.freeze2 {i : Nat} {dss : List (List D)} (s : SR g P σ H F st) (h : st[i]? = some (.o2 dss)) : ∃ a F', σ[i]? = some (some (.ref a)) ∧ Same F F' ∧ Rv g F' (.ref a) (.lst (dss.map .lst)) ∧ SR g P σ H F' (st.set i (.sh (.lst (dss.map .lst)))) := by
  obtain ⟨ov, hov⟩ := SRc.nth s h
  obtain ⟨O, c⟩ := s
  obtain ⟨a, bs, rfl, ho, hn, ha, nd, na, hl, hr⟩ := c.sl i _ _ h hov
  have own : ∀ x, (x = a ∨ x ∈ bs) → O x = some i ∧ ¬ P.N x := fun x hx => by
    rcases hx with rfl | hx
    · exact ⟨ho, hn⟩
    · obtain ⟨j, hj, e⟩ := List.getElem_of_mem hx
      have e1 : bs[j]? = some x := by rw [List.getElem?_eq_getElem hj, e]
      obtain ⟨o, n, _⟩ := hr j x _ e1 (List.getElem?_eq_getElem (by rw [← hl]; exact hj))
      exact ⟨o, n⟩
  let F' : Hp := fun x => if x = a ∨ x ∈ bs then H x else F x
  have fin : ∀ x, (x = a ∨ x ∈ bs) → F' x = H x := fun x hx => if_pos hx
  have fout : ∀ x, ¬ (x = a ∨ x ∈ bs) → F' x = F x := fun x hx => if_neg hx
  have sf : Same F F' := fun x o e => by
    rw [fout x fun hx => by rw [(c.oo x i (own x hx).1).1] at e; cases e]; exact e
  have rv : Rv g F' (.ref a) (.lst (dss.map .lst)) := by
    refine .lst (vs := bs.map V.ref) (by rw [fin a (.inl rfl)]; exact ha) (Rl.of_get (by simp [hl]) fun j v d e1 e2 => ?_)
    rw [List.getElem?_map] at e1 e2
    cases hb : bs[j]? with
    | none => rw [hb] at e1; cases e1
    | some b =>
      cases hd : dss[j]? with
      | none => rw [hd] at e2; cases e2
      | some ds =>
        rw [hb] at e1; rw [hd] at e2
        cases e1; cases e2
        obtain ⟨_, _, vs, h1, r1⟩ := hr j b ds hb hd
        exact .lst (by rw [fin b (.inr (List.mem_of_getElem? hb))]; exact h1) (r1.mono sf)
  refine ⟨a, F', hov, sf, rv, fun x => if x = a ∨ x ∈ bs then none else O x, ?_⟩
  refine ⟨fun x o e => ?_, c.rr, fun x j e => ?_, fun x n => ?_, by rw [List.length_set]; exact c.len, fun j s ov e1 e2 => ?_⟩
  · by_cases hx : x = a ∨ x ∈ bs
    · rw [fin x hx] at e; exact e
    · rw [fout x hx] at e; exact c.le x o e
  · by_cases hx : x = a ∨ x ∈ bs
    · simp [hx] at e
    · simp only [if_neg hx] at e
      rw [fout x hx]; exact c.oo x j e
  · have hx : ¬ (x = a ∨ x ∈ bs) := fun hx => (own x hx).2 n
    rw [fout x hx]; exact c.no x n
  · by_cases hj : j = i
    · subst hj
      rw [List.getElem?_set_self (lt_of_get h)] at e1
      cases e1
      rw [hov] at e2; cases e2
      exact ⟨_, rfl, rv⟩
    · rw [List.getElem?_set_ne (Ne.symm hj)] at e1
      exact (c.sl j s ov e1 e2).move rfl (fun x o => by
        have hx : ¬ (x = a ∨ x ∈ bs) := fun hx => hj (by rw [(own x hx).1] at o; exact (Option.some.inj o).symm)
        simp only [if_neg hx]; exact o) sf (fun _ _ _ h => h) fun _ _ h => h
theorem ev_var {i : Nat} (he : PE X e (tVar i)) : PE X e (tE g W (dVar i)) := he.imp fun σ H Q ⟨P, F, st, s, o⟩ => by
  unfold dVar at o
  split at o
  · rename_i d hd
    obtain ⟨ov, hov⟩ := SRc.nth s hd
    obtain ⟨O, c⟩ := id s
    obtain ⟨v, rfl, r⟩ := c.sl i _ _ hd hov
    exact ⟨v, hov, o H F (Same.refl _) s v r⟩
  · rename_i ds hd
    obtain ⟨a, F', h1, sf, r, s'⟩ := s.freeze hd
    exact ⟨_, h1, o H F' sf s' _ r⟩
  · rename_i dss hd
    obtain ⟨a, F', h1, sf, r, s'⟩ := s.freeze2 hd
    exact ⟨_, h1, o H F' sf s' _ r⟩
  · exact o.elim
theorem rd_at {i : Nat} {d : D} {st' : DSt} (s : SR g P σ H F st) (h : dRd i st = .ok d st') : st' = st ∧ ∃ v, σ[i]? = some (some v) ∧ Br g F H v d := by
  unfold dRd at h
  split at h
  · rename_i d hd
    cases h
    obtain ⟨ov, hov⟩ := SRc.nth s hd
    obtain ⟨O, c⟩ := id s
    obtain ⟨v, rfl, r⟩ := c.sl i _ _ hd hov
    exact ⟨rfl, v, hov, .inl r⟩
  · rename_i ds hd
    cases h
    obtain ⟨ov, hov⟩ := SRc.nth s hd
    obtain ⟨O, c⟩ := id s
    obtain ⟨a, vs, rfl, ho, hn, ha, r⟩ := c.sl i _ _ hd hov
    exact ⟨rfl, _, hov, .inr ⟨a, vs, ds, rfl, rfl, ha, r⟩⟩
  · rename_i ds hd
    cases h
    obtain ⟨ov, hov⟩ := SRc.nth s hd
    obtain ⟨O, c⟩ := id s
    obtain ⟨a, vs, rfl, ho, hn, ha, r⟩ := c.sl i _ _ hd hov
    exact ⟨rfl, _, hov, .inr ⟨a, vs, ds, rfl, rfl, ha, r⟩⟩
  · cases h
theorem rd_no {i : Nat} {c : Str} {fs : List (Str × D)} {st st' : DSt} : dRd i st ≠ .exn c fs st' := by
  unfold dRd
  split <;> exact fun h => by cases h
theorem ev_c {v : V} {d : D} (he : PE X e (tC v)) (r : ∀ F, Rv g F v d) : PE X e (tE g W (dC d)) := he.imp fun σ H Q ⟨P, F, st, s, o⟩ => o H F (Same.refl _) s v (r F)
theorem ev_int {i : Int} (he : PE X e (tC (.int i))) : PE X e (tE g W (dC (.int i))) := ev_c he fun _ => .int i
theorem ev_bl {i : Bool} (he : PE X e (tC (.bl i))) : PE X e (tE g W (dC (.bl i))) := ev_c he fun _ => .bl i
theorem ev_non (he : PE X e (tC .non)) : PE X e (tE g W (dC .non)) := ev_c he fun _ => .non
/-- the end of an operation on values -/
theorem fin1 {r : V → Hp → VK → Prop} {op : D → Option D} (vo : VO1 g r op) {v : V} {x : D} {Q : VK} (s : SR g P σ H F st) (rx : Br g F H v x) (o : Out g W P σ F (liftO (op x) st) fun d _ H' F' => ∀ v, Rv g F' v d → Q v H') : r v H Q := by
  obtain ⟨z, ez, q⟩ := o.lift
  exact vo H F v x z s.le rx ez Q fun v' H' F' gr rv => q H' F' gr.f (s.grow gr) v' rv
theorem fin2 {r : R2} {op : D → D → Option D} (vo : VO2 g r op) {v u : V} {x y : D} {Q : VK} (s : SR g P σ H F st) (rx : Br g F H v x) (ry : Br g F H u y) (o : Out g W P σ F (liftO (op x y) st) fun d _ H' F' => ∀ v, Rv g F' v d → Q v H') : r v u H Q := by
  obtain ⟨z, ez, q⟩ := o.lift
  exact vo H F v u x y z s.le rx ry ez Q fun v' H' F' gr rv => q H' F' gr.f (s.grow gr) v' rv
theorem ev2 {r : R2} {op : D → D → Option D} (vo : VO2 g r op) (he : PE X e (tOp r (tE g W f) (tE g W h))) : PE X e (tE g W (dOp2 op f h)) := he.imp fun σ H Q ⟨P, F, st, s, o⟩ =>
  ⟨P, F, st, s, o.bind.imp fun x st1 H1 F1 le1 s1 o1 v rx => ⟨P, F1, st1, s1, o1.bind.imp fun y st2 H2 F2 le2 s2 o2 u ry => fin2 vo s2 (.inl (rx.mono le2)) (.inl ry) o2⟩⟩
/-- a name's content, read -/
theorem Out.rd {i : Nat} {α : Type} {kk : D → Den α} {K : α → DSt → Hp → Hp → Prop} (s : SR g P σ H F st) (o : Out g W P σ F (bindD (dRd i) kk st) K) :
    ∃ v d, σ[i]? = some (some v) ∧ Br g F H v d ∧ Out g W P σ F (kk d st) K := by
  unfold bindD at o
  cases e : dRd i st with
  | ok d st' =>
    rw [e] at o
    obtain ⟨rfl, v, h1, h2⟩ := rd_at s e
    exact ⟨v, d, h1, h2, o⟩
  | exn c fs st' => exact (rd_no e).elim
  | stuck => rw [e] at o; exact o.elim
theorem ev2n {r : R2} {i : Nat} {op : D → D → Option D} (vo : VO2 g r op) (he : PE X e (tOp r (tVar i) (tE g W h))) : PE X e (tE g W (dOp2n op i h)) := he.imp fun σ H Q ⟨P, F, st, s, o⟩ => by
  obtain ⟨v, d, hv, _, o1⟩ := o.rd s
  refine ⟨v, hv, P, F, st, s, o1.bind.imp fun y st2 H2 F2 le2 s2 o2 u ry => ?_⟩
  obtain ⟨v', d', hv', rx, o3⟩ := o2.rd s2
  rw [hv] at hv'; cases hv'
  exact fin2 vo s2 rx (.inl ry) o3
theorem evc1 {r : List V → Hp → VK → Prop} {op : D → Option D} (vo : VOC g r op) (he : PE X e (tCB r (tCons (tE g W f) tNil))) : PE X e (tE g W (dOp1 op f)) := he.imp fun σ H Q ⟨P, F, st, s, o⟩ =>
  ⟨P, F, st, s, o.bind.imp fun x st1 H1 F1 le1 s1 o1 v rx => fin1 vo s1 (.inl rx) o1⟩
theorem evc1n {r : List V → Hp → VK → Prop} {i : Nat} {op : D → Option D} (vo : VOC g r op) (he : PE X e (tCB r (tCons (tVar i) tNil))) : PE X e (tE g W (dOp1n op i)) := he.imp fun σ H Q ⟨P, F, st, s, o⟩ => by
  obtain ⟨v, d, hv, rx, o1⟩ := o.rd s
  exact ⟨v, hv, fin1 vo s rx o1⟩
theorem SR.newx {p : Addr} {o : HO} (s : SR g P σ H F st) (h : H p = none) : SRx g P σ (upd H p o) F st p := by
  obtain ⟨O, c⟩ := s
  have f0 : F p = none := by
    cases e : F p with
    | none => rfl
    | some u => rw [c.le _ _ e] at h; cases h
  have r0 : P.R p = none := by
    cases e : P.R p with
    | none => rfl
    | some u => rw [c.rr _ _ e] at h; cases h
  refine ⟨O, c.grow (Grow.new0 c.le h), ?_, f0, r0, fun n => (c.no p n).2.1 h⟩
  cases e : O p with
  | none => rfl
  | some i => exact absurd h (c.oo p i e).2.2.1
theorem SRx.sr {p : Addr} (s : SRx g P σ H F st p) : SR g P σ H F st := let ⟨O, c, _⟩ := s; ⟨O, c⟩
theorem SRx.frz {p : Addr} {vs : List V} (s : SRx g P σ H F st p) (h : H p = some (.lst vs)) : Same F (upd F p (.lst vs)) ∧ SR g P σ H (upd F p (.lst vs)) st := by
  obtain ⟨O, c, o0, f0, r0, n0⟩ := s
  have sf : Same F (upd F p (.lst vs)) := fun b o e => by
    rw [upd_ne (fun z => by subst z; rw [f0] at e; cases e)]; exact e
  refine ⟨sf, O, fun b o e => ?_, c.rr, fun b j e => ?_, fun b n => ?_, c.len, fun j s ov e1 e2 => ?_⟩
  · by_cases hb : b = p
    · subst hb; rw [upd_same] at e; cases e; exact h
    · rw [upd_ne hb] at e; exact c.le _ _ e
  · have hb : b ≠ p := fun z => by rw [z, o0] at e; cases e
    rw [upd_ne hb]; exact c.oo b j e
  · have hb : b ≠ p := fun z => n0 (z ▸ n)
    rw [upd_ne hb]; exact c.no b n
  · exact (c.sl j s ov e1 e2).move rfl (fun _ h => h) sf (fun _ _ _ h => h) fun _ _ h => h
theorem finN {r : V → Hp → VK → Prop} {op : D → Option (List D)} (vo : VN1 g r op) {v : V} {x : D} {Q : VK} (s : SR g P σ H F st) (rx : Br g F H v x) (o : OutN g W P σ F (liftO (op x) st) Q) : r v H Q := by
  cases ez : op x with
  | none => rw [ez] at o; exact o.elim
  | some zs =>
    rw [ez] at o
    exact vo H F v x zs s.le rx ez Q fun p vs hp rv => o _ F p vs (Same.refl _) (s.newx hp) upd_same rv
theorem finN2 {r : R2} {op : D → D → Option (List D)} (vo : VN2 g r op) {v u : V} {x y : D} {Q : VK} (s : SR g P σ H F st) (rx : Br g F H v x) (ry : Br g F H u y) (o : OutN g W P σ F (liftO (op x y) st) Q) : r v u H Q := by
  cases ez : op x y with
  | none => rw [ez] at o; exact o.elim
  | some zs =>
    rw [ez] at o
    exact vo H F v u x y zs s.le rx ry ez Q fun p vs hp rv => o _ F p vs (Same.refl _) (s.newx hp) upd_same rv
theorem OutN.weak {r : Res (List D)} {Q : VK} {F' : Hp} (e : Same F F') (h : OutN g W P σ F r Q) : OutN g W P σ F' r Q := by
  cases r with
  | ok a st' => exact fun H' F2 p vs e2 s => h H' F2 p vs (e.trans e2) s
  | exn c fs st' => exact fun cls dd H' F2 e2 s => h cls dd H' F2 (e.trans e2) s
  | stuck => exact h
theorem OutN.bind {α : Type} {a : Den α} {ff : α → Den (List D)} {Q : VK} (h : OutN g W P σ F (bindD a ff st) Q) : Out g W P σ F (a st) (fun x st1 _ F1 => OutN g W P σ F1 (ff x st1) Q) := by
  unfold bindD at h
  revert h
  cases a st with
  | ok x st' => exact fun h H' F' e s => OutN.weak e h
  | exn c fs st' => exact fun h => h
  | stuck => exact fun h => h
theorem OutN.rd {i : Nat} {kk : D → Den (List D)} {Q : VK} (s : SR g P σ H F st) (o : OutN g W P σ F (bindD (dRd i) kk st) Q) :
    ∃ v d, σ[i]? = some (some v) ∧ Br g F H v d ∧ OutN g W P σ F (kk d st) Q := by
  unfold bindD at o
  cases e : dRd i st with
  | ok d st' =>
    rw [e] at o
    obtain ⟨rfl, v, h1, h2⟩ := rd_at s e
    exact ⟨v, d, h1, h2, o⟩
  | exn c fs st' => exact (rd_no e).elim
  | stuck => rw [e] at o; exact o.elim
theorem evN1n {r : List V → Hp → VK → Prop} {i : Nat} {op : D → Option (List D)} (vo : VN1 g (fun v => r [v]) op) (he : PE X e (tCB r (tCons (tVar i) tNil))) : PE X e (tN g W (dN1n op i)) := he.imp fun σ H Q ⟨P, F, st, s, o⟩ => by
  obtain ⟨v, d, hv, rx, o1⟩ := o.rd s
  exact ⟨v, hv, finN vo s rx o1⟩
theorem evN2 {r : R2} {op : D → D → Option (List D)} (vo : VN2 g r op) (he : PE X e (tOp r (tE g W f) (tE g W h))) : PE X e (tN g W (dN2 op f h)) := he.imp fun σ H Q ⟨P, F, st, s, o⟩ =>
  ⟨P, F, st, s, o.bind.imp fun x st1 H1 F1 le1 s1 o1 v rx => ⟨P, F1, st1, s1, o1.bind.imp fun y st2 H2 F2 le2 s2 o2 u ry => finN2 vo s2 (.inl (rx.mono le2)) (.inl ry) o2⟩⟩
theorem ev_frz {fn : Den (List D)} (he : PE X e (tN g W fn)) : PE X e (tE g W (dFrz fn)) := he.imp fun σ H Q ⟨P, F, st, s, o⟩ => by
  refine ⟨P, F, st, s, ?_⟩
  unfold dFrz bindD at o
  revert o
  cases fn st with
  | ok ds st' => exact fun o H' F' p vs le sx hp r => o H' (upd F' p (.lst vs)) (le.trans (sx.frz hp).1) (sx.frz hp).2 _ (.lst upd_same (r.mono (sx.frz hp).1))
  | exn c fs st' => exact fun o => o
  | stuck => exact fun o => o
theorem ea_nil (ha : PA X [] tNil) : PA X [] (tA g W dNil) := ha.imp fun σ H Q ⟨P, F, st, s, o⟩ => o H F (Same.refl _) s [] .nil
theorem ea_nil' : PA X [] (tA g W dNil) := ea_nil pa_nil
theorem ea_cons {es : List Expr} {fr : Den (List D)} (he : PE X e (tE g W f)) (hr : PA X es (tA g W fr)) (hs : starEach (e :: es) X.env = (false, eval e X.env) :: starEach es X.env := by rfl) : PA X (e :: es) (tA g W (dCons f fr)) :=
  (pa_cons he hr hs).imp fun σ H Q ⟨P, F, st, s, o⟩ => ⟨P, F, st, s, o.bind.imp fun x st1 H1 F1 le1 s1 o1 v rx => ⟨P, F1, st1, s1, o1.bind.imp fun xs st2 H2 F2 le2 s2 o2 vs rxs => o2 H2 F2 (Same.refl _) s2 _ (.cons (rx.mono le2) rxs)⟩⟩
theorem ev_tup {fr : Den (List D)} (he : PE X e (tTupN (tA g W fr))) : PE X e (tE g W (dTup fr)) := he.imp fun σ H Q ⟨P, F, st, s, o⟩ =>
  ⟨P, F, st, s, o.bind.imp fun ds st1 H1 F1 le1 s1 o1 vs rx => by
    obtain ⟨z, ez, q⟩ := o1.lift
    split at ez
    · rename_i hl
      cases ez
      exact ⟨by rw [rx.length, ← big_eq]; exact hl, newT s1.le rx fun v' H' F' gr rv => q _ _ gr.f (s1.grow gr) _ rv⟩
    · cases ez⟩
theorem evN_lst {fr : Den (List D)} (he : PE X e (tLst (tA g W fr))) : PE X e (tN g W (dLst fr)) := he.imp fun σ H Q ⟨P, F, st, s, o⟩ =>
  ⟨P, F, st, s, o.bind.imp fun ds st1 H1 F1 le1 s1 o1 vs rx => by
    unfold liftO at o1
    split at o1
    · rename_i ds' ez
      split at ez
      · rename_i hl
        cases ez
        exact ⟨by rw [rx.length, ← big_eq]; exact hl, fun p hp => o1 _ F1 p vs (Same.refl _) (s1.newx hp) upd_same rx⟩
      · cases ez
    · exact o1.elim⟩
theorem asB_some {d : D} {b : Bool} (h : asB d = some b) : d = .bl b := by
  cases d <;> cases h; rfl
theorem et_tst (he : PT X e (tB (tE g W f))) : PT X e (tT g W (dTst f)) := he.imp fun σ H Q ⟨P, F, st, s, o⟩ =>
  ⟨P, F, st, s, o.bind.imp fun x st1 H1 F1 le1 s1 o1 v rx => by
    obtain ⟨z, ez, q⟩ := o1.lift
    cases asB_some ez
    cases rx
    exact ⟨_, rfl, q H1 F1 (Same.refl _) s1⟩⟩
theorem et_and (he : PW X e (tAnd (tT g W t) (tT g W u))) : PW X e (tT g W (dAnd t u)) := he.imp fun σ H Q ⟨P, F, st, s, o⟩ =>
  ⟨P, F, st, s, o.bind.imp fun x st1 H1 F1 le1 s1 o1 => by
    cases x with
    | true => exact ⟨P, F1, st1, s1, o1⟩
    | false => exact o1 H1 F1 (Same.refl _) s1⟩
theorem et_or (he : PW X e (tOr (tT g W t) (tT g W u))) : PW X e (tT g W (dOr t u)) := he.imp fun σ H Q ⟨P, F, st, s, o⟩ =>
  ⟨P, F, st, s, o.bind.imp fun x st1 H1 F1 le1 s1 o1 => by
    cases x with
    | true => exact o1 H1 F1 (Same.refl _) s1
    | false => exact ⟨P, F1, st1, s1, o1⟩⟩
/-- a comparison as a test -/
theorem et2 {r : R2} {op : D → D → Option D} (vo : VO2 g r op) (he : PT X e (tTest (tOp r (tE g W f) (tE g W h)))) : PT X e (tT g W (dTst (dOp2 op f h))) := et_tst (he.imp fun σ H Q ⟨P, F, st, s, o⟩ =>
  ⟨P, F, st, s, o.bind.imp fun x st1 H1 F1 le1 s1 o1 v rx => ⟨P, F1, st1, s1, o1.bind.imp fun y st2 H2 F2 le2 s2 o2 u ry => fin2 vo s2 (.inl (rx.mono le2)) (.inl ry) o2⟩⟩)
theorem et2m {r : R2} {j : Nat} {op : D → D → Option D} (vo : VO2 g r op) (he : PT X e (tTest (tOp r (tE g W f) (tVar j)))) : PT X e (tT g W (dTst (dOp2m op f j))) := et_tst (he.imp fun σ H Q ⟨P, F, st, s, o⟩ =>
  ⟨P, F, st, s, o.bind.imp fun x st1 H1 F1 le1 s1 o1 v rx => by
    obtain ⟨v', d', hv', ry, o3⟩ := o1.rd s1
    exact ⟨v', hv', fin2 vo s1 (.inl rx) ry o3⟩⟩)
end
end DL
namespace DL
open PySem PySem.Spec PyProof.Rows L2
inductive Fl where
  | nx | ret (d : D) | brk | cnt
abbrev DS := Den Fl
def OutS (g : G) (W : WX) (P : Par) (F : Hp) (r : Res Fl) (E : Ends) : Prop := match r with
  | .ok fl st' => ∀ σ' H' F', Same F F' → SR g P σ' H' F' st' → match fl with
    | .nx => E.nx σ' H'
    | .brk => E.bk σ' H'
    | .cnt => E.ct σ' H'
    | .ret d => ∀ v, Rv g F' v d → E.rt v H'
  | .exn c fs st' => ∀ cls dd σ' H' F', Same F F' → SR g P σ' H' F' st' → RepX g F' H' c fs cls dd → W cls dd σ' H'
  | .stuck => False
def tS (g : G) (W : WX) (f : DS) : TS := fun D σ H => ∃ P F st, SR g P σ H F st ∧ OutS g W P F (f st) D
@[simp] def slotSet (i : Nat) (s : Slot) (st : DSt) : Option DSt := match st[i]? with
  | some _ => some (st.set i s)
  | none => none
@[simp] def sExpr (f : Den D) : DS := bindD f fun _ => retD .nx
@[simp] def sRet (f : Den D) : DS := bindD f fun d => retD (.ret d)
@[simp] def sRetN : DS := retD (.ret .non)
@[simp] def sPass : DS := retD .nx
@[simp] def sBrk : DS := retD .brk
@[simp] def sCnt : DS := retD .cnt
@[simp] def putD (i : Nat) (s : Slot) : DS := fun st => match slotSet i s st with
  | some st' => .ok .nx st'
  | none => .stuck
@[simp] def sSet (i : Nat) (f : Den D) : DS := bindD f fun d => putD i (.sh d)
@[simp] def sOwn (i : Nat) (f : Den (List D)) : DS := bindD f fun ds => putD i (.ow ds)
@[simp] def sIf (t : Den Bool) (a b : DS) : DS := bindD t fun x => if x then a else b
@[simp] def sSeq (a b : DS) : DS := fun st => match a st with
  | .ok .nx st' => b st'
  | r => r
/-- targets: one name, some names -/
inductive Tg where
  | nm (i : Nat) | nms (is : List Nat)
def Tg.is : Tg → List Nat
  | .nm i => [i]
  | .nms is => is
@[simp] def setAll : List Nat → List D → DSt → Option DSt
  | [], [], st => some st
  | i :: is, d :: ds, st => match slotSet i (.sh d) st with
    | some st' => setAll is ds st'
    | none => none
  | _, _, _ => none
@[simp] def setT (t : Tg) (d : D) (st : DSt) : Option DSt := match t with
  | .nm i => slotSet i (.sh d) st
  | .nms is => match d with
    | .tup ds => setAll is ds st
    | _ => none
def setσ : List Nat → List V → L2.St → L2.St
  | i :: is, x :: xs, σ => setσ is xs (σ.set i (some x))
  | _, _, σ => σ
def tG (g : G) (t : Tg) : TG := fun v σ H Q => ∃ P F st d, SR g P σ H F st ∧ Rv g F v d ∧ ∃ st', setT t d st = some st' ∧ ∀ xs, SR g P (setσ t.is xs σ) H F st' → Q (setσ t.is xs σ) H
def loop (t : Tg) (body : DS) : List D → DS
  | [] => retD .nx
  | d :: ds => fun st => match setT t d st with
    | none => .stuck
    | some st1 => match body st1 with
      | .ok .nx st2 => loop t body ds st2
      | .ok .cnt st2 => loop t body ds st2
      | .ok .brk st2 => .ok .nx st2
      | r => r
@[simp] def sFor (t : Tg) (fi : Den (List D)) (body : DS) : DS := bindD fi fun ds => loop t body ds
def sWhile (t : Den Bool) (body : DS) : Nat → DS
  | 0 => fun _ => .stuck
  | n + 1 => fun st => match t st with
    | .ok true st1 => match body st1 with
      | .ok .nx st2 => sWhile t body n st2
      | .ok .cnt st2 => sWhile t body n st2
      | .ok .brk st2 => .ok .nx st2
      | r => r
    | .ok false st1 => .ok .nx st1
    | .exn c fs st' => .exn c fs st'
    | .stuck => .stuck
section
variable {X : Cx} {g : G} {W : WX} {P : Par} {σ : L2.St} {H F : Hp} {st : DSt} {e : Expr} {s : Stmt} {ss : List Stmt} {f : Den D} {t : Den Bool} {a b : DS}
theorem OutS.weak {r : Res Fl} {E : Ends} {F' : Hp} (e : Same F F') (h : OutS g W P F r E) : OutS g W P F' r E := by
  cases r with
  | ok a st' => exact fun σ' H' F2 e2 s => h σ' H' F2 (e.trans e2) s
  | exn c fs st' => exact fun cls dd σ' H' F2 e2 s => h cls dd σ' H' F2 (e.trans e2) s
  | stuck => exact h
theorem OutS.bind {α : Type} {a : Den α} {k : α → DS} {E : Ends} (h : OutS g W P F (bindD a k st) E) : Out g W P σ F (a st) (fun x st1 _ F1 => OutS g W P F1 (k x st1) E) := by
  unfold bindD at h
  revert h
  cases a st with
  | ok x st' => exact fun h H' F' e s => OutS.weak e h
  | exn c fs st' => exact fun h cls dd H' F' e s => h cls dd σ H' F' e s
  | stuck => exact fun h => h
/-- a slot is stored -/
theorem slotSet_some {i : Nat} {sl : Slot} {st' : DSt} (h : slotSet i sl st = some st') : i < st.length ∧ st' = st.set i sl := by
  unfold slotSet at h
  split at h
  · rename_i x hx
    cases h
    refine ⟨?_, rfl⟩
    rcases Nat.lt_or_ge i st.length with q | q
    · exact q
    · rw [List.getElem?_eq_none q] at hx; cases hx
  · cases h
theorem SR.put {i : Nat} {v : V} {d : D} (s : SR g P σ H F st) (r : Rv g F v d) (hi : i < st.length) : SR g P (σ.set i (some v)) H F (st.set i (.sh d)) := by
  obtain ⟨O, c⟩ := s
  refine ⟨fun b => if O b = some i then none else O b, c.le, c.rr, fun b j e => ?_, c.no, by rw [List.length_set, List.length_set]; exact c.len, fun j s ov e1 e2 => ?_⟩
  · by_cases hb : O b = some i
    · simp [hb] at e
    · simp only [if_neg hb] at e; exact c.oo b j e
  · by_cases hj : j = i
    · subst hj
      rw [List.getElem?_set_self hi] at e1
      rw [List.getElem?_set_self (by rw [c.len]; exact hi)] at e2
      cases e1; cases e2
      exact ⟨v, rfl, r⟩
    · rw [List.getElem?_set_ne (Ne.symm hj)] at e1 e2
      exact (c.sl j s ov e1 e2).move rfl (fun b o => by
        show (if O b = some i then none else O b) = some j
        rw [if_neg (by rw [o]; intro z; exact hj (Option.some.inj z))]; exact o) (Same.refl _) (fun _ _ _ h => h) fun _ _ h => h
theorem SRx.own {p : Addr} {i : Nat} {vs : List V} {ds : List D} (s : SRx g P σ H F st p) (h : H p = some (.lst vs)) (r : Rl g F vs ds) (hi : i < st.length) : SR g P (σ.set i (some (.ref p))) H F (st.set i (.ow ds)) := by
  obtain ⟨O, c, o0, f0, r0, n0⟩ := s
  refine ⟨fun b => if b = p then some i else if O b = some i then none else O b, c.le, c.rr, fun b j e => ?_, c.no, by rw [List.length_set, List.length_set]; exact c.len, fun j s ov e1 e2 => ?_⟩
  · by_cases hp : b = p
    · subst hp; exact ⟨f0, r0, NT.of h⟩
    · simp only [if_neg hp] at e
      by_cases hb : O b = some i
      · simp [hb] at e
      · simp only [if_neg hb] at e; exact c.oo b j e
  · by_cases hj : j = i
    · subst hj
      rw [List.getElem?_set_self hi] at e1
      rw [List.getElem?_set_self (by rw [c.len]; exact hi)] at e2
      cases e1; cases e2
      exact ⟨p, vs, rfl, by simp, n0, h, r⟩
    · rw [List.getElem?_set_ne (Ne.symm hj)] at e1 e2
      exact (c.sl j s ov e1 e2).move rfl (fun b o => by
        have hp : b ≠ p := fun z => by rw [z, o0] at o; cases o
        simp only [if_neg hp]
        rw [if_neg (by rw [o]; intro z; exact hj (Option.some.inj z))]; exact o) (Same.refl _) (fun _ _ _ h => h) fun _ _ h => h
theorem es_expr (he : PS X s (tDrop (tE g W f))) : PS X s (tS g W (sExpr f)) := he.imp fun D σ H ⟨P, F, st, s, o⟩ =>
  ⟨P, F, st, s, o.bind.imp fun x st1 H1 F1 le1 s1 o1 v rx => o1 σ H1 F1 (Same.refl _) s1⟩
theorem es_ret (he : PS X s (tRet (tE g W f))) : PS X s (tS g W (sRet f)) := he.imp fun D σ H ⟨P, F, st, s, o⟩ =>
  ⟨P, F, st, s, o.bind.imp fun x st1 H1 F1 le1 s1 o1 v rx => o1 σ H1 F1 (Same.refl _) s1 v rx⟩
theorem es_set {i : Nat} (he : PS X s (tAsg (tE g W f) (gName i))) : PS X s (tS g W (sSet i f)) := he.imp fun D σ H ⟨P, F, st, s, o⟩ =>
  ⟨P, F, st, s, o.bind.imp fun x st1 H1 F1 le1 s1 o1 v rx => by
    unfold putD at o1
    split at o1
    · rename_i st' h
      obtain ⟨hi, rfl⟩ := slotSet_some h
      exact o1 _ H1 F1 (Same.refl _) (s1.put rx hi)
    · exact o1.elim⟩
theorem es_own {i : Nat} {fn : Den (List D)} (he : PS X s (tAsg (tN g W fn) (gName i))) : PS X s (tS g W (sOwn i fn)) := he.imp fun D σ H ⟨P, F, st, s, o⟩ => by
  refine ⟨P, F, st, s, ?_⟩
  unfold sOwn bindD at o
  revert o
  cases fn st with
  | ok ds st' =>
    intro o H' F' p vs le sx hp r
    have o : OutS g W P F (putD i (.ow ds) st') D := o
    unfold putD at o
    split at o
    · rename_i st2 h
      obtain ⟨hi, rfl⟩ := slotSet_some h
      exact o _ H' F' le (sx.own hp r hi)
    · exact o.elim
  | exn c fs st' => exact fun o cls dd H' F' e s => o cls dd σ H' F' e s
  | stuck => exact fun o => o
theorem es_if (he : PS X s (tIfS (tT g W t) (tS g W a) (tS g W b))) : PS X s (tS g W (sIf t a b)) := he.imp fun D σ H ⟨P, F, st, s, o⟩ =>
  ⟨P, F, st, s, o.bind.imp fun x st1 H1 F1 le1 s1 o1 => by
    cases x with
    | true => exact ⟨P, F1, st1, s1, o1⟩
    | false => exact ⟨P, F1, st1, s1, o1⟩⟩
theorem seq_imp {D : Ends} (q : tS g W (sSeq a b) D σ H) : tSeq (tS g W a) (tS g W b) D σ H := by
  obtain ⟨P, F, st, s, o⟩ := q
  refine ⟨P, F, st, s, ?_⟩
  unfold sSeq at o
  revert o
  cases a st with
  | ok fl st' =>
    cases fl with
    | nx => exact fun o σ' H' F' le s' => ⟨P, F', st', s', OutS.weak le o⟩
    | ret d => exact fun o => o
    | brk => exact fun o => o
    | cnt => exact fun o => o
  | exn c fs st' => exact fun o => o
  | stuck => exact fun o => o
theorem ess_cons (h1 : PS X s (tS g W a)) (h2 : PSs X ss (tS g W b)) : PSs X (s :: ss) (tS g W (sSeq a b)) := (pss_cons h1 h2).imp fun _ _ _ q => seq_imp q
theorem ess_one (h1 : PS X s (tS g W a)) : PSs X [s] (tS g W a) := pss_one h1
theorem ess_nil : PSs X [] (tS g W sPass) := (pss_nil (X := X)).imp fun D σ H ⟨P, F, st, s, o⟩ => o σ H F (Same.refl _) s
theorem _root_.L2.PG.imp {X : Cx} {e : Expr} {t t' : TG} (h : PG X e t) (i : ∀ v σ H Q, t' v σ H Q → t v σ H Q) : PG X e t' := ⟨fun pins s σ H v u Q I r q => h.run pins s σ H v u Q I r (i v σ H Q q)⟩
theorem eg_nm {i : Nat} (h : PG X e (gName i)) : PG X e (tG g (.nm i)) := h.imp fun v σ H Q ⟨P, F, st, d, s, r, st', e, q⟩ => by
  obtain ⟨hi, rfl⟩ := slotSet_some e
  exact q [v] (s.put r hi)
/-- what a turn gives: a thing that is known; a tuple that stands there or is new -/
def Yl (g : G) (F H H' : Hp) (x : V) (d : D) : Prop := (H' = H ∧ Rv g F x d) ∨
  ∃ (q : Addr) (ws : List V) (es : List D), x = .ref q ∧ d = .tup es ∧ Rl g F ws es ∧ g.tk = false ∧ ((H' = H ∧ H q = some (.tup ws)) ∨ (H q = none ∧ H' = upd H q (.tup ws)))
theorem SR.frzT {q : Addr} {ws : List V} (s : SR g P σ H F st) (h : H q = some (.tup ws)) : Same F (upd F q (.tup ws)) ∧ SR g P σ H (upd F q (.tup ws)) st := by
  obtain ⟨O, c⟩ := s
  have sf : Same F (upd F q (.tup ws)) := fun b o e => by
    by_cases hb : b = q
    · subst hb; rw [upd_same]; rw [c.le _ _ e] at h; exact h.symm
    · rw [upd_ne hb]; exact e
  refine ⟨sf, O, fun b o e => ?_, c.rr, fun b j e => ?_, fun b n => ?_, c.len, fun j s ov e1 e2 => (c.sl j s ov e1 e2).move rfl (fun _ h => h) sf (fun _ _ _ h => h) fun _ _ h => h⟩
  · by_cases hb : b = q
    · subst hb; rw [upd_same] at e; rw [← e]; exact h
    · rw [upd_ne hb] at e; exact c.le _ _ e
  · have hb : b ≠ q := fun z => (c.oo b j e).2.2.2 ws (by rw [z]; exact h)
    rw [upd_ne hb]; exact c.oo b j e
  · have hb : b ≠ q := fun z => (c.no b n).2.2 ws (by rw [z]; exact h)
    rw [upd_ne hb]; exact c.no b n
theorem SR.yl {F0 H' : Hp} {x : V} {d : D} (s : SR g P σ H F st) (le : Same F0 F) (y : Yl g F0 H H' x d) : ∃ F', Same F F' ∧ SR g P σ H' F' st ∧ Rv g F' x d := by
  rcases y with ⟨rfl, r⟩ | ⟨q, ws, es, rfl, rfl, r, tk, ⟨rfl, h⟩ | ⟨h, rfl⟩⟩
  · exact ⟨F, Same.refl _, s, r.mono le⟩
  · obtain ⟨sf, s'⟩ := s.frzT h
    exact ⟨_, sf, s', .tup (.inl (.inl upd_same)) (by unfold TkP; rw [tk]; exact upd_same) (r.mono (le.trans sf))⟩
  · exact ⟨_, (Grow.new s.le h).f, s.grow (Grow.new s.le h), .tup (.inl (.inl upd_same)) (by unfold TkP; rw [tk]; exact upd_same) (r.mono (le.trans (Grow.new s.le h).f))⟩
structure Wk (g : G) (J : It) (F : Hp) (ds : List D) : Prop where
  stop : ∀ H', Same F H' → J.stop ds.length H'
  go : ∀ i H', Same F H' → i < ds.length → J.go i H'
  yld : ∀ i H' x H'', Same F H' → i < ds.length → J.yld i H' x H'' → ∃ d, ds[i]? = some d ∧ Yl g F H' H'' x d
def tI (g : G) (W : WX) (fi : Den (List D)) : TI := fun σ H R => ∃ P F st, SR g P σ H F st ∧ Out g W P σ F (fi st) fun ds _ H' F' => ∀ J, Wk g J F' ds → R J H'
theorem _root_.L2.PI.imp {X : Cx} {tg it : Expr} {w w' : TI} (h : PI X tg it w) (i : ∀ σ H R, w' σ H R → w σ H R) : PI X tg it w' := ⟨fun pins s σ H R I q => h.run pins s σ H R I (i σ H R q)⟩
@[simp] def itemsOf : D → Option (List D)
  | .lst xs => some xs
  | .tup xs => some xs
  | _ => none
@[simp] def dItems (f : Den D) : Den (List D) := bindD f fun d => liftO (itemsOf d)
@[simp] def rangeL (n : Int) : Option (List D) := if n.natAbs ≤ big then some ((List.range n.toNat).map fun k : Nat => D.int (k : Int)) else none
@[simp] def rangeL2 (m n : Int) : Option (List D) := if m.natAbs ≤ big ∧ n.natAbs ≤ big then some ((List.range (n - m).toNat).map fun k => D.int (m + (k : Nat))) else none
@[simp] def rngD : D → Option (List D)
  | .int n => rangeL n
  | _ => none
@[simp] def rngD2 : D → D → Option (List D)
  | .int m, .int n => rangeL2 m n
  | _, _ => none
@[simp] def dRng (f : Den D) : Den (List D) := bindD f fun d => liftO (rngD d)
@[simp] def dRng2 (f h : Den D) : Den (List D) := bindD f fun d => bindD h fun d2 => liftO (rngD2 d d2)
theorem wk_l {F : Hp} {a : Addr} {vs : List V} {ds : List D} (h : F a = some (.lst vs)) (r : Rl g F vs ds) : Wk g (Itl g.K a) F ds where
  stop := fun H' le => ⟨vs, sqL_of (le _ _ h), by rw [r.length]; exact Nat.le_refl _⟩
  go := fun i H' le hi => ⟨vs, vs[i]'(by rw [r.length]; exact hi), sqL_of (le _ _ h), by simp [r.length, hi]⟩
  yld := fun i H' x H'' le hi y => by
    obtain ⟨e, y⟩ := y
    obtain ⟨d, h1, h2⟩ := r.get' (y vs (sqL_of (le _ _ h)))
    exact ⟨d, h1, .inl ⟨e, h2⟩⟩
theorem wk_t {F : Hp} {a : Addr} {vs : List V} {ds : List D} (h : SqT g.K F a vs) (r : Rl g F vs ds) : Wk g (Itt g.K a) F ds where
  stop := fun H' le => ⟨vs, sqT_mono le h, by rw [r.length]; exact Nat.le_refl _⟩
  go := fun i H' le hi => ⟨vs, vs[i]'(by rw [r.length]; exact hi), sqT_mono le h, by simp [r.length, hi]⟩
  yld := fun i H' x H'' le hi y => by
    obtain ⟨e, y⟩ := y
    obtain ⟨d, h1, h2⟩ := r.get' (y vs (sqT_mono le h))
    exact ⟨d, h1, .inl ⟨e, h2⟩⟩
theorem wk_r (F : Hp) (lo : Int) (n : Nat) : Wk g (Itr lo n) F ((List.range n).map fun k => D.int (lo + (k : Nat))) where
  stop := fun H' le => by show n ≤ _; simp
  go := fun i H' le hi => by show i < n; simpa using hi
  yld := fun i H' x H'' le hi y => by
    obtain ⟨e, y⟩ := y
    refine ⟨.int (lo + i), ?_, .inl ⟨e, ?_⟩⟩
    · have : i < n := by simpa using hi
      simp [this]
    · rw [y]; exact .int _
def iAny (K : PySem.W.Frag) (tl : TE) : TI := fun σ H R => tl σ H fun x H1 => ∃ a, x = .ref a ∧ (((∃ xs, SqL K H1 a xs) ∧ R (Itl K a) H1) ∨ ((∃ xs, SqT K H1 a xs) ∧ R (Itt K a) H1))
theorem pi_any {tg l : Expr} {tl : TE} (hl : PE X l tl) : PI X tg l (iAny X.K tl) := by
  refine ⟨fun pins s σ H R I h => ?_⟩
  refine thn (hl.run pins s σ H _ I h) fun v s1 ⟨x, H1, I1, r1, q1⟩ => ?_
  obtain ⟨a, e, q1⟩ := q1
  subst e
  cases r1
  rcases q1 with ⟨⟨xs, hq⟩, q⟩ | ⟨⟨xs, hq⟩, q⟩
  · obtain ⟨its, rv, p, hz⟩ := I1.list hq
    refine wpAny_pyIter_list p.isList ?_
    refine ⟨s1.heap.objs.size, [s1.heap.objs.size], _, _, H1, rfl, I1.kept (t' := s1.toks) fun b o e => Heap.get?_push_of_some _ e, turn_list a _, ⟨_, Heap.get?_push_size _ rfl, rfl, rfl⟩, fun b hb => ?_, q⟩
    have e : b = s1.heap.objs.size := by simpa using hb
    subst e
    exact I1.fpOk (Nat.le_refl _) (I1.hok.fresh (Nat.le_refl _))
  · obtain ⟨its, rv, p, hz⟩ := I1.tuple hq
    refine wpAny_pyIter_tuple (show s1.heap.IsTuple a its.toArray from p) ?_
    refine ⟨s1.heap.objs.size, [s1.heap.objs.size], _, _, H1, rfl, I1.kept (t' := s1.toks) fun b o e => Heap.get?_push_of_some _ e, turn_tuple a _, ⟨_, Heap.get?_push_size _ rfl, rfl, rfl⟩, fun b hb => ?_, q⟩
    have e : b = s1.heap.objs.size := by simpa using hb
    subst e
    exact I1.fpOk (Nat.le_refl _) (I1.hok.fresh (Nat.le_refl _))
theorem ei_any {tg it : Expr} (h : PI X tg it (iAny g.K (tE g W f))) : PI X tg it (tI g W (dItems f)) := h.imp fun σ H R ⟨P, F, st, s, o⟩ =>
  ⟨P, F, st, s, o.bind.imp fun d st1 H1 F1 le1 s1 o1 v rx => by
    obtain ⟨ds, ez, q⟩ := o1.lift
    have q := q H1 F1 (Same.refl _) s1
    cases d with
    | lst xs =>
      cases ez
      obtain ⟨a, vs, rfl, h1, r1⟩ := Br.lst (H := F1) (Same.refl _) (.inl rx)
      exact ⟨a, rfl, .inl ⟨⟨vs, sqL_of (s1.le _ _ h1)⟩, q _ (wk_l h1 r1)⟩⟩
    | tup xs =>
      cases ez
      obtain ⟨a, vs, rfl, h1, r1⟩ := Br.tup (H := F1) (Same.refl _) (.inl rx)
      exact ⟨a, rfl, .inr ⟨⟨vs, sqT_mono s1.le h1⟩, q _ (wk_t h1 r1)⟩⟩
    | _ => cases ez⟩
theorem ei_rng {tg it : Expr} (h : PI X tg it (iRng1 (tCons (tE g W f) tNil))) : PI X tg it (tI g W (dRng f)) := h.imp fun σ H R ⟨P, F, st, s, o⟩ =>
  ⟨P, F, st, s, o.bind.imp fun d st1 H1 F1 le1 s1 o1 v rx => by
    obtain ⟨ds, ez, q⟩ := o1.lift
    have q := q H1 F1 (Same.refl _) s1
    cases d with
    | int n =>
      cases rx
      simp only [rngD, rangeL] at ez
      split at ez
      · rename_i hn
        cases ez
        have hb : big = 16777216 := rfl
        have := wk_r (g := g) F1 0 n.toNat
        simp only [Int.zero_add] at this
        exact ⟨n, rfl, by omega, by omega, q _ this⟩
      · cases ez
    | _ => cases ez⟩
theorem ei_rng2 {tg it : Expr} {h2 : Den D} (h : PI X tg it (iRng2 (tCons (tE g W f) (tCons (tE g W h2) tNil)))) : PI X tg it (tI g W (dRng2 f h2)) := h.imp fun σ H R ⟨P, F, st, s, o⟩ =>
  ⟨P, F, st, s, o.bind.imp fun d st1 H1 F1 le1 s1 o1 v rx => ⟨P, F1, st1, s1, o1.bind.imp fun d2 st2 H2 F2 le2 s2 o2 v2 rx2 => by
    obtain ⟨ds, ez, q⟩ := o2.lift
    have q := q H2 F2 (Same.refl _) s2
    cases d with
    | int m =>
      cases d2 with
      | int n =>
        cases rx; cases rx2
        simp only [rngD2, rangeL2] at ez
        split at ez
        · rename_i hn
          cases ez
          have hb : big = 16777216 := rfl
          obtain ⟨hn1, hn2⟩ := hn
          exact ⟨m, n, rfl, ⟨by omega, by omega, by omega, by omega⟩, q _ (wk_r (g := g) F2 m (n - m).toNat)⟩
        · cases ez
      | _ => cases ez
    | _ => cases ez⟩⟩
theorem es_for {tgt : Tg} {fi : Den (List D)} (he : PS X s (tFor (tI g W fi) (tG g tgt) (tS g W a))) : PS X s (tS g W (sFor tgt fi a)) := he.imp fun E σ H ⟨P, F, st, s, o⟩ =>
  ⟨P, F, st, s, o.bind.imp fun ds st1 H1 F1 le1 s1 o1 J wk => by
    refine ⟨fun i m σ H => m = ds.length - i ∧ i ≤ ds.length ∧ ∃ F' st', Same F1 F' ∧ SR g P σ H F' st' ∧ OutS g W P F' (loop tgt a (ds.drop i) st') E, ⟨ds.length, by simp, Nat.zero_le _, F1, st1, Same.refl _, s1, by simpa using o1⟩, ?_⟩
    rintro i m σ H ⟨rfl, hi, F', st', le, s', o'⟩
    by_cases hlt : i < ds.length
    · refine .inr ⟨wk.go i H (le.trans s'.le) hlt, fun σ H => ∃ F' st', Same F1 F' ∧ SR g P σ H F' st' ∧ OutS g W P F' (loop tgt a (ds.drop (i + 1)) st') E, fun σ' H' p' => ⟨ds.length - (i + 1), by omega, rfl, hlt, p'⟩, fun x H' y => ?_⟩
      obtain ⟨d, hd, yy⟩ := wk.yld i H x H' (le.trans s'.le) hlt y
      obtain ⟨F', le2, s', rd⟩ := s'.yl le yy
      have le := le.trans le2
      have o' := OutS.weak le2 o'
      have hdr : ds.drop i = d :: ds.drop (i + 1) := by
        rw [List.drop_eq_getElem_cons hlt]
        have : ds[i] = d := by
          have := List.getElem?_eq_getElem hlt
          rw [hd] at this; exact (Option.some.inj this).symm
        rw [this]
      rw [hdr] at o'
      unfold loop at o'
      split at o'
      · exact o'.elim
      · rename_i st2 h2
        refine ⟨P, F', st', d, s', rd, st2, h2, fun xs s2 => ⟨P, F', st2, s2, ?_⟩⟩
        revert o'
        cases a st2 with
        | ok fl st3 =>
          cases fl with
          | nx => exact fun o' σ3 H3 F3 le3 s3 => ⟨F3, st3, le.trans le3, s3, OutS.weak le3 o'⟩
          | cnt => exact fun o' σ3 H3 F3 le3 s3 => ⟨F3, st3, le.trans le3, s3, OutS.weak le3 o'⟩
          | brk => exact fun o' => o'
          | ret d => exact fun o' => o'
        | exn c fs st3 => exact fun o' => o'
        | stuck => exact fun o' => o'
    · have e : i = ds.length := by omega
      subst e
      rw [List.drop_length] at o'
      exact .inl ⟨wk.stop H (le.trans s'.le), o' σ H F' (Same.refl _) s'⟩⟩
theorem es_while {n : Nat} (he : PS X s (tWhile (tT g W t) (tS g W a))) : PS X s (tS g W (sWhile t a n)) := he.imp fun E σ H ⟨P, F, st, s, o⟩ => by
  refine ⟨fun m σ H => ∃ F' st', SR g P σ H F' st' ∧ OutS g W P F' (sWhile t a m st') E, ⟨n, F, st, s, o⟩, ?_⟩
  rintro m σ H ⟨F', st', s', o'⟩
  cases m with
  | zero => exact o'.elim
  | succ m =>
    refine ⟨P, F', st', s', ?_⟩
    unfold sWhile at o'
    revert o'
    cases t st' with
    | ok b st1 =>
      cases b with
      | true =>
        intro o' H1 F1 le1 s1
        show ∃ N : L2.St → Hp → Prop, _ ∧ _
        refine ⟨fun σ H => ∃ F' st', SR g P σ H F' st' ∧ OutS g W P F' (sWhile t a m st') E, fun σ' H' p' => ⟨m, Nat.lt_succ_self _, p'⟩, P, F1, st1, s1, ?_⟩
        revert o'
        simp only
        cases a st1 with
        | ok fl st3 =>
          cases fl with
          | nx => exact fun o' σ3 H3 F3 le3 s3 => ⟨F3, st3, s3, OutS.weak (le1.trans le3) o'⟩
          | cnt => exact fun o' σ3 H3 F3 le3 s3 => ⟨F3, st3, s3, OutS.weak (le1.trans le3) o'⟩
          | brk => exact fun o' => OutS.weak le1 o'
          | ret d => exact fun o' => OutS.weak le1 o'
        | exn c fs st3 => exact fun o' => OutS.weak le1 o'
        | stuck => exact fun o' => o'
      | false => exact fun o' H1 F1 le1 s1 => o' σ H1 F1 le1 s1
    | exn c fs st1 => exact fun o' cls dd H1 F1 le1 s1 => o' cls dd σ H1 F1 le1 s1
    | stuck => exact fun o' => o'
end
end DL
namespace DL
open PySem PySem.Spec PyProof.Rows L2
@[simp] def dOw (i : Nat) : Den (List D) := fun st => match st[i]? with
  | some (.ow ds) => .ok ds st
  | some (.rf _ ds) => .ok ds st
  | _ => .stuck
@[simp] def setOw (i : Nat) (ds : List D) : Den Unit := fun st => match st[i]? with
  | some (.ow _) => .ok () (st.set i (.ow ds))
  | some (.rf k _) => .ok () (st.set i (.rf k ds))
  | _ => .stuck
@[simp] def mutD {α : Type} (i : Nat) (fn : List D → Option (α × List D)) : Den α := bindD (dOw i) fun ds => bindD (liftO (fn ds)) fun r => bindD (setOw i r.2) fun _ => retD r.1
@[simp] def dAppend (i : Nat) (f : Den D) : Den D := bindD (dOw i) fun _ => bindD f fun y => mutD i fun ds => if ds.length < big then some (.non, ds ++ [y]) else none
@[simp] def popAt (ds : List D) (i : Int) : Option (D × List D) := match seqIndex? i ds.length with
  | some k => match ds[k]? with | some y => if i.natAbs ≤ big then some (y, ds.eraseIdx k) else none | none => none
  | none => none
@[simp] def dPopAt (i : Nat) (f : Den D) : Den D := bindD (dOw i) fun _ => bindD f fun y => match y with
  | .int k => mutD i fun ds => popAt ds k
  | _ => fun _ => .stuck
@[simp] def dPop (i : Nat) : Den D := mutD i fun ds => match ds[ds.length - 1]? with | some y => some (y, ds.dropLast) | none => none
@[simp] def sStore (i : Nat) (ix e : Den D) : DS := bindD e fun v => bindD (dRd i) fun _ => bindD ix fun k => match k with
  | .int k => bindD (mutD i fun ds => match ixN ds.length k with | some j => some ((), ds.set j v) | none => none) fun _ => retD .nx
  | _ => fun _ => .stuck
section
variable {X : Cx} {g : G} {W : WX} {P : Par} {σ : L2.St} {H F : Hp} {st : DSt} {e : Expr} {s : Stmt} {ss : List Stmt} {f h : Den D} {t : Den Bool} {a b : DS}
/-- what an owned slot is; it may be changed -/
theorem SR.owned {i : Nat} {ds : List D} {st' : DSt} (s : SR g P σ H F st) (e : dOw i st = .ok ds st') : st' = st ∧ ∃ a vs, σ[i]? = some (some (.ref a)) ∧ H a = some (.lst vs) ∧ Rl g F vs ds ∧ F a = none ∧ P.R a = none ∧
    ∀ (H' F' : Hp) (vs' : List V) (ds' : List D), Same F F' → Same F' H' → (∀ b, NT H b → F b = none → F' b = none) → (∀ b o, b ≠ a → H b = some o → H' b = some o) → H' a = some (.lst vs') → F' a = none → Rl g F' vs' ds' →
      ∃ st2, setOw i ds' st = .ok () st2 ∧ SR g P σ H' F' st2 := by
  have key : ∀ (mk : List D → Slot) (ds0 : List D), st[i]? = some (mk ds0) → (mk = .ow ∨ ∃ k, mk = .rf k) → ∃ a vs, σ[i]? = some (some (.ref a)) ∧ H a = some (.lst vs) ∧ Rl g F vs ds0 ∧ F a = none ∧ P.R a = none ∧
      ∀ (H' F' : Hp) (vs' : List V) (ds' : List D), Same F F' → Same F' H' → (∀ b, NT H b → F b = none → F' b = none) → (∀ b o, b ≠ a → H b = some o → H' b = some o) → H' a = some (.lst vs') → F' a = none → Rl g F' vs' ds' →
        SR g P σ H' F' (st.set i (mk ds')) := by
    intro mk ds0 hd hk
    obtain ⟨ov, hov⟩ := SRc.nth s hd
    obtain ⟨O, c⟩ := s
    have q0 := c.sl i _ _ hd hov
    have hi : i < st.length := by
      rcases Nat.lt_or_ge i st.length with q | q
      · exact q
      · rw [List.getElem?_eq_none q] at hd; cases hd
    have ⟨a, vs, e1, ho, ha, r, mkok⟩ : ∃ a vs, ov = some (.ref a) ∧ O a = some i ∧ H a = some (.lst vs) ∧ Rl g F vs ds0 ∧ ∀ F' H' vs' ds', H' a = some (.lst vs') → Rl g F' vs' ds' → SlotOk g P O F' H' i (mk ds') ov := by
      rcases hk with rfl | ⟨k, rfl⟩
      · obtain ⟨a, vs, rfl, ho, hn, ha, r⟩ := q0
        exact ⟨a, vs, rfl, ho, ha, r, fun F' H' vs' ds' h1 h2 => ⟨a, vs', rfl, ho, hn, h1, h2⟩⟩
      · obtain ⟨a, vs, rfl, hb, ho, ha, r⟩ := q0
        exact ⟨a, vs, rfl, ho, ha, r, fun F' H' vs' ds' h1 h2 => ⟨a, vs', rfl, hb, ho, h1, h2⟩⟩
    subst e1
    refine ⟨a, vs, hov, ha, r, (c.oo a i ho).1, (c.oo a i ho).2.1, fun H' F' vs' ds' sf sfh nf sh hva fa rr => ⟨O, sfh, fun b o e => ?_, fun b j e => ?_, fun b n => ?_, by rw [List.length_set]; exact c.len, fun j s ov e1 e2 => ?_⟩⟩
    · have hb : b ≠ a := fun z => by rw [z, (c.oo a i ho).2.1] at e; cases e
      exact sh b o hb (c.rr _ _ e)
    · refine ⟨nf b (c.oo b j e).2.2 (c.oo b j e).1, (c.oo b j e).2.1, ?_⟩
      by_cases hb : b = a
      · subst hb; exact NT.of hva
      · exact NT.move (c.oo b j e).2.2 fun u hu => sh b u hb hu
    · refine ⟨nf b (c.no b n).2 (c.no b n).1, ?_⟩
      by_cases hb : b = a
      · subst hb; exact NT.of hva
      · exact NT.move (c.no b n).2 fun u hu => sh b u hb hu
    · by_cases hj : j = i
      · subst hj
        rw [List.getElem?_set_self hi] at e1
        cases e1
        rw [hov] at e2; cases e2
        exact mkok F' H' vs' ds' hva rr
      · rw [List.getElem?_set_ne (Ne.symm hj)] at e1
        exact (c.sl j s ov e1 e2).move rfl (fun _ h => h) sf (fun b o ho' h => sh b o (fun z => hj (by rw [z, ho] at ho'; exact (Option.some.inj ho').symm)) h) fun _ _ h => h
  unfold dOw at e
  split at e
  · rename_i ds0 hd
    cases e
    obtain ⟨a, vs, h1, h2, h3, h4, h5, h6⟩ := key .ow ds hd (.inl rfl)
    exact ⟨rfl, a, vs, h1, h2, h3, h4, h5, fun H' F' vs' ds' a1 a2 a3 a4 a5 a6 a7 => ⟨_, by unfold setOw; rw [hd], h6 H' F' vs' ds' a1 a2 a3 a4 a5 a6 a7⟩⟩
  · rename_i k ds0 hd
    cases e
    obtain ⟨a, vs, h1, h2, h3, h4, h5, h6⟩ := key (.rf k) ds hd (.inr ⟨k, rfl⟩)
    exact ⟨rfl, a, vs, h1, h2, h3, h4, h5, fun H' F' vs' ds' a1 a2 a3 a4 a5 a6 a7 => ⟨_, by unfold setOw; rw [hd], h6 H' F' vs' ds' a1 a2 a3 a4 a5 a6 a7⟩⟩
  · cases e
theorem dOw_no {i : Nat} {c : Str} {fs : List (Str × D)} {st st' : DSt} : dOw i st ≠ .exn c fs st' := by
  unfold dOw
  split <;> exact fun h => by cases h
theorem Out.ow {i : Nat} {α : Type} {kk : List D → Den α} {K : α → DSt → Hp → Hp → Prop} (o : Out g W P σ F (bindD (dOw i) kk st) K) : ∃ ds, dOw i st = .ok ds st ∧ Out g W P σ F (kk ds st) K := by
  unfold bindD at o
  cases e : dOw i st with
  | ok d st' =>
    rw [e] at o
    have : st' = st := by
      unfold dOw at e
      split at e <;> cases e <;> rfl
    subst this
    exact ⟨d, rfl, o⟩
  | exn c fs st' => exact (dOw_no e).elim
  | stuck => rw [e] at o; exact o.elim
/-- a list changed in place, nothing else -/
theorem Out.mut {α : Type} {i : Nat} {fn : List D → Option (α × List D)} {K : α → DSt → Hp → Hp → Prop} (s : SR g P σ H F st) (o : Out g W P σ F (mutD i fn st) K) :
    ∃ a vs ds r, σ[i]? = some (some (.ref a)) ∧ H a = some (.lst vs) ∧ Rl g F vs ds ∧ fn ds = some r ∧ ∀ vs', Rl g F vs' r.2 → ∃ st2, SR g P σ (upd H a (.lst vs')) F st2 ∧ K r.1 st2 (upd H a (.lst vs')) F := by
  obtain ⟨ds, e, o1⟩ := Out.ow o
  obtain ⟨_, a, vs, h1, h2, h3, h4, h5, h6⟩ := s.owned e
  have o1 : Out g W P σ F (bindD (liftO (fn ds)) (fun r => bindD (setOw i r.2) fun _ => retD r.1) st) K := o1
  cases er : fn ds with
  | none => rw [er] at o1; exact o1.elim
  | some r =>
    rw [er] at o1
    refine ⟨a, vs, ds, r, h1, h2, h3, er, fun vs' rr => ?_⟩
    have sfh : Same F (upd H a (.lst vs')) := fun b o e => by
      rw [upd_ne (fun z => by subst z; rw [h4] at e; cases e)]; exact s.le _ _ e
    obtain ⟨st2, e2, s2⟩ := h6 (upd H a (.lst vs')) F vs' r.2 (Same.refl _) sfh (fun b _ h => h) (fun b o hb e => by rw [upd_ne hb]; exact e) upd_same h4 rr
    refine ⟨st2, s2, ?_⟩
    have o2 : Out g W P σ F (bindD (setOw i r.2) (fun _ => retD r.1) st) K := o1
    unfold bindD at o2
    rw [e2] at o2
    exact o2 _ _ (Same.refl _) s2
theorem ev_append {i : Nat} (he : PE X e (tBM g.K "list" rAppend (tVar i) (tCons (tE g W f) tNil))) : PE X e (tE g W (dAppend i f)) := he.imp fun σ H Q ⟨P, F, st, s, o⟩ => by
  obtain ⟨ds, e, o1⟩ := Out.ow o
  obtain ⟨_, a, vs, h1, h2, h3, h4, h5, h6⟩ := s.owned e
  refine ⟨_, h1, .inl ⟨rfl, vs, sqL_of h2⟩, P, F, st, s, o1.bind.imp fun y st1 H1 F1 le1 s1 o2 v rv => ?_⟩
  obtain ⟨a', vs', ds', r, g1, g2, g3, g4, g5⟩ := Out.mut s1 o2
  rw [h1] at g1; cases g1
  split at g4
  · rename_i hl
    cases g4
    obtain ⟨st2, s2, k⟩ := g5 (vs' ++ [v]) (g3.append (.cons rv .nil))
    exact ⟨a, vs', v, rfl, rfl, g2, by rw [g3.length, ← big_eq]; exact hl, k _ .non⟩
  · cases g4
theorem ev_popAt {i : Nat} (he : PE X e (tBM g.K "list" rPopAt (tVar i) (tCons (tE g W f) tNil))) : PE X e (tE g W (dPopAt i f)) := he.imp fun σ H Q ⟨P, F, st, s, o⟩ => by
  obtain ⟨ds, e, o1⟩ := Out.ow o
  obtain ⟨_, a, vs, h1, h2, h3, h4, h5, h6⟩ := s.owned e
  refine ⟨_, h1, .inl ⟨rfl, vs, sqL_of h2⟩, P, F, st, s, o1.bind.imp fun y st1 H1 F1 le1 s1 o2 v rv => ?_⟩
  cases y with
  | int k =>
    cases rv
    obtain ⟨a', vs', ds', r, g1, g2, g3, g4, g5⟩ := Out.mut s1 o2
    rw [h1] at g1; cases g1
    unfold popAt at g4
    split at g4
    · rename_i j hj
      split at g4
      · rename_i y hy
        split at g4
        · rename_i hk
          cases g4
          have hb : big = 16777216 := rfl
          obtain ⟨w, hw, rw'⟩ := g3.get hy
          obtain ⟨st2, s2, kk⟩ := g5 (vs'.eraseIdx j) (g3.eraseIdx j)
          exact ⟨a, vs', k, j, w, rfl, rfl, g2, by omega, by omega, by rw [g3.length]; exact hj, hw, kk _ rw'⟩
        · cases g4
      · cases g4
    · cases g4
  | _ => exact o2.elim
theorem es_store {i : Nat} (he : PS X s (tAsg (tE g W f) (gSub (tVar i) (tE g W h) rSetL))) : PS X s (tS g W (sStore i h f)) := he.imp fun D σ H ⟨P, F, st, s, o⟩ =>
  ⟨P, F, st, s, o.bind.imp fun x st1 H1 F1 le1 s1 o1 v rx => by
    have o1 : OutS g W P F1 (bindD (dRd i) (fun _ => bindD h fun k => match k with
      | .int k => bindD (mutD i fun ds => match ixN ds.length k with | some j => some ((), ds.set j x) | none => none) fun _ => retD .nx
      | _ => fun _ => .stuck) st1) D := o1
    obtain ⟨v0, d0, hv0, _, o2⟩ := Out.rd s1 (OutS.bind o1 (σ := σ) |> fun (q : Out g W P σ F1 (dRd i st1) _) => (by
      revert q
      unfold bindD
      cases ed : dRd i st1 with
      | ok d st' => exact fun q => q
      | exn c fs st' => exact fun q => q
      | stuck => exact fun q => q : Out g W P σ F1 (bindD (dRd i) (fun d => retD d) st1) (fun d st' _ F1 => OutS g W P F1 ((bindD h fun k => match k with
      | .int k => bindD (mutD i fun ds => match ixN ds.length k with | some j => some ((), ds.set j x) | none => none) fun _ => retD .nx
      | _ => fun _ => .stuck) st') D)))
    have o3 := o2 H1 F1 (Same.refl _) s1
    refine ⟨v0, hv0, P, F1, st1, s1, o3.bind.imp fun k st2 H2 F2 le2 s2 o4 vk rk => ?_⟩
    cases k with
    | int k =>
      cases rk
      have o5 := OutS.bind o4 (σ := σ)
      obtain ⟨a', vs', ds', r, g1, g2, g3, g4, g5⟩ := Out.mut s2 o5
      rw [hv0] at g1; cases g1
      split at g4
      · rename_i j hj
        cases g4
        obtain ⟨st3, s3, kk⟩ := g5 (vs'.set j v) (g3.set (rx.mono le2) j)
        exact ⟨a', vs', k, j, rfl, rfl, g2, by rw [g3.length]; exact hj, kk σ _ F2 (Same.refl _) s3⟩
      · cases g4
    | _ => exact o4.elim⟩
def spD (g : G) (df : List D → M D) : Sp := fun vs H Q E => ∃ F ds, Same F H ∧ Rl g F vs ds ∧ match df ds with
  | .ok d => ∀ v H' F', Grow H F H' F' → Rv g F' v d → Q v H'
  | .exn c fs => ∀ cls dd H' F', Grow H F H' F' → RepX g F' H' c fs cls dd → E cls dd H'
  | .stuck => False
@[simp] def dCall (df : List D → M D) (fa : Den (List D)) : Den D := bindD fa fun ds => liftM' (df ds)
theorem call_fin {df : List D → M D} {vs : List V} {ds : List D} {Q : VK} {E : XK} (s : SR g P σ H F st) (r : Rl g F vs ds) (hE : ∀ cls dd H', W cls dd σ H' → E cls dd H') (o : Out g W P σ F (liftM' (df ds) st) fun d _ H' F' => ∀ v, Rv g F' v d → Q v H') : spD g df vs H Q E := by
  refine ⟨F, ds, s.le, r, ?_⟩
  revert o
  unfold liftM'
  cases df ds with
  | ok d => exact fun o v H' F' gr rv => o H' F' gr.f (s.grow gr) v rv
  | exn c fs => exact fun o cls dd H' F' gr rx => hE _ _ _ (o cls dd H' F' gr.f (s.grow gr) rx)
  | stuck => exact fun o => o
theorem ev_call {df : List D → M D} {fa : Den (List D)} (he : PE X e (tCallS (spD g df) (WE W) (tA g W fa))) : PE X e (tE g W (dCall df fa)) := he.imp fun σ H Q ⟨P, F, st, s, o⟩ =>
  ⟨P, F, st, s, o.bind.imp fun ds st1 H1 F1 le1 s1 o1 vs rs => call_fin s1 rs (fun _ _ _ h => h) o1⟩
/-- .. whose first argument is a list that the function changes -/
def spR (g : G) (df : List D → List D → M (D × List D)) : Sp := fun vs H Q _ => ∃ F a ws ss us ds, vs = .ref a :: us ∧ Same F H ∧ F a = none ∧ H a = some (.lst ws) ∧ Rl g F ws ss ∧ Rl g F us ds ∧ match df ss ds with
  | .ok r => ∀ v H' F' ws', Same F F' → Same F' H' → (∀ b, NT H b → F b = none → F' b = none) → (∀ b o, b ≠ a → H b = some o → H' b = some o) → H' a = some (.lst ws') → F' a = none → Rl g F' ws' r.2 → Rv g F' v r.1 → Q v H'
  | _ => False
@[simp] def dCallR (df : List D → List D → M (D × List D)) (i : Nat) (fa : Den (List D)) : Den D := bindD (dOw i) fun _ => bindD fa fun ds => bindD (dOw i) fun ss => bindD (liftM' (df ss ds)) fun r => bindD (setOw i r.2) fun _ => retD r.1
theorem ev_callR {df : List D → List D → M (D × List D)} (nox : ∀ ss ds c fs, df ss ds ≠ .exn c fs) {i : Nat} {fa : Den (List D)} (he : PE X e (tCallS (spR g df) (WE W) (tCons (tVar i) (tA g W fa)))) : PE X e (tE g W (dCallR df i fa)) := he.imp fun σ H Q ⟨P, F, st, s, o⟩ => by
  obtain ⟨ds0, e0, o1⟩ := Out.ow o
  obtain ⟨_, a, vs, h1, h2, h3, h4, h5, h6⟩ := s.owned e0
  refine ⟨_, h1, P, F, st, s, o1.bind.imp fun ds st1 H1 F1 le1 s1 o2 us ru => ?_⟩
  obtain ⟨ss, e1, o3⟩ := Out.ow o2
  obtain ⟨_, a', ws, g1, g2, g3, g4, g5, g6⟩ := s1.owned e1
  rw [h1] at g1; cases g1
  refine ⟨F1, a, ws, ss, us, ds, rfl, s1.le, g4, g2, g3, ru, ?_⟩
  have nx := nox ss ds
  revert o3 nx
  cases df ss ds with
  | ok r =>
    intro o3 nx v H' F' ws' a1 a2 a3 a4 a5 a6 a7 rv
    obtain ⟨st2, e2, s2⟩ := g6 H' F' ws' r.2 a1 a2 a3 a4 a5 a6 a7
    have o4 : Out g W P σ F1 (bindD (setOw i r.2) (fun _ => retD r.1) st1) fun d _ H' F' => ∀ v, Rv g F' v d → Q v H' := o3
    unfold bindD at o4
    rw [e2] at o4
    exact o4 H' F' a1 s2 v rv
  | exn c fs => exact fun _ nx => (nx c fs rfl).elim
  | stuck => exact fun o3 => o3.elim
/-- a body's meaning as a function of its arguments: n slots -/
def runF (m n : Nat) (f : DS) (ds : List D) : M D := if ds.length = m then match f (ds.map Slot.sh ++ List.replicate (n - ds.length) .no) with
  | .ok (.ret d) _ => .ok d
  | .ok .nx _ => .ok .non
  | .exn c fs _ => .exn c fs
  | _ => .stuck
  else .stuck
theorem getElem_start {N : List Str} {vs : List V} {i : Nat} {ov : Option V} (h : (L2.start N vs)[i]? = some ov) : ∀ v, vs[i]? = some v → ov = some v := by
  intro v hv
  unfold L2.start at h
  have hi : i < vs.length := by
    rcases Nat.lt_or_ge i vs.length with q | q
    · exact q
    · rw [List.getElem?_eq_none q] at hv; cases hv
  rw [List.getElem?_append_left (by simpa using hi), List.getElem?_map, hv] at h
  exact (Option.some.inj h).symm
theorem init_sl {O : Addr → Option Nat} {N : List Str} {vs : List V} {ds : List D} (r : Rl g F vs ds) (n : Nat) : ∀ i s ov, (ds.map Slot.sh ++ List.replicate n Slot.no)[i]? = some s → (L2.start N vs)[i]? = some ov → SlotOk g P O F H i s ov := by
  intro i s ov e1 e2
  rcases Nat.lt_or_ge i ds.length with hi | hi
  · rw [List.getElem?_append_left (by simpa using hi), List.getElem?_map, List.getElem?_eq_getElem hi] at e1
    cases e1
    obtain ⟨v, hv, rv⟩ := r.get (List.getElem?_eq_getElem hi)
    exact ⟨v, getElem_start e2 v hv, rv⟩
  · rw [List.getElem?_append_right (by simpa using hi)] at e1
    have : s = Slot.no := by
      have := List.mem_of_getElem? e1
      exact (List.mem_replicate.mp this).2
    subst this
    trivial
/-- THE RULE for a def of data -/
theorem body_ok {N ps : List Str} {f : DS} {n : Nat} {vs : List V} {Q : VK} {E : XK} (hn : n = N.length) (hp : ps.length ≤ N.length) (hl : vs.length = ps.length) (h : spD g (runF ps.length n f) vs H Q E) :
    tS g (fun cls dd _ H => E cls dd H) f { nx := fun _ H' => Q .non H', rt := Q } (L2.start N vs) H := by
  obtain ⟨F, ds, le, r, h⟩ := h
  refine ⟨⟨[], H, fun a => NT H a ∧ F a = none⟩, F, ds.map Slot.sh ++ List.replicate (n - ds.length) .no, ⟨fun _ => none, le, Same.refl _, (fun _ _ e => nomatch e), fun a h => ⟨h.2, h.1⟩, ?_, init_sl r _⟩, ?_⟩
  · have := r.length
    unfold L2.start
    simp only [List.length_append, List.length_map, List.length_replicate]
    omega
  · have gr : ∀ {σ' : L2.St} {H' F' : Hp} {st' : DSt}, Same F F' → SR g ⟨[], H, fun a => NT H a ∧ F a = none⟩ σ' H' F' st' → Grow H F H' F' := fun le ⟨O, c⟩ => ⟨c.rr, le, c.le, fun a h1 h2 => (c.no a ⟨h1, h2⟩).1⟩
    unfold runF at h
    rw [if_pos (by rw [← r.length]; exact hl)] at h
    revert h
    cases f (ds.map Slot.sh ++ List.replicate (n - ds.length) .no) with
    | ok fl st' =>
      cases fl with
      | nx => exact fun h σ' H' F' le s => h .non H' F' (gr le s) .non
      | ret d => exact fun h σ' H' F' le s v rv => h v H' F' (gr le s) rv
      | brk => exact fun h => h.elim
      | cnt => exact fun h => h.elim
    | exn c fs st' => exact fun h cls dd σ' H' F' le s rx => h cls dd H' F' (gr le s) rx
    | stuck => exact fun h => h.elim
/-- .. with a list that it changes, its first argument -/
def runR (m n : Nat) (f : DS) (ss : List D) (ds : List D) : M (D × List D) := if ds.length + 1 = m then match f (.rf 0 ss :: (ds.map Slot.sh ++ List.replicate (n - ds.length - 1) .no)) with
  | .ok (.ret d) (.rf 0 ss' :: _) => .ok (d, ss')
  | .ok .nx (.rf 0 ss' :: _) => .ok (.non, ss')
  | _ => .stuck
  else .stuck
theorem runR_nox (m n : Nat) (f : DS) : ∀ ss ds c fs, runR m n f ss ds ≠ .exn c fs := by
  intro ss ds c fs h
  unfold runR at h
  split at h
  · split at h <;> cases h
  · cases h
theorem start_cons {x : Str} {N : List Str} {v : V} {vs : List V} : L2.start (x :: N) (v :: vs) = some v :: L2.start N vs := by
  unfold L2.start
  simp
theorem body_okR {x : Str} {N ps : List Str} {f : DS} {n : Nat} {vs : List V} {Q : VK} {E : XK} (hn : n = (x :: N).length) (hp : ps.length ≤ (x :: N).length) (hl : vs.length = ps.length) (h : spR g (runR ps.length n f) vs H Q E) :
    tS g (fun cls dd _ H => E cls dd H) f { nx := fun _ H' => Q .non H', rt := Q } (L2.start (x :: N) vs) H := by
  obtain ⟨F, a, ws, ss, us, ds, rfl, le, fa, ha, rs, r, h⟩ := h
  have hln := r.length
  rw [start_cons]
  refine ⟨⟨[a], fun b => if b = a then none else H b, fun b => NT H b ∧ F b = none⟩, F, .rf 0 ss :: (ds.map Slot.sh ++ List.replicate (n - ds.length - 1) .no), ⟨fun b => if b = a then some 0 else none, le, fun b o e => ?_, fun b i e => ?_, fun a h => ⟨h.2, h.1⟩, ?_, fun i s ov e1 e2 => ?_⟩, ?_⟩
  · by_cases hb : b = a
    · subst hb; simp at e
    · simpa [hb] using e
  · by_cases hb : b = a
    · subst hb; exact ⟨fa, by simp, NT.of ha⟩
    · simp [hb] at e
  · unfold L2.start
    simp only [List.length_append, List.length_map, List.length_replicate, List.length_cons] at *
    omega
  · cases i with
    | zero =>
      simp at e1 e2
      subst e1; subst e2
      exact ⟨a, ws, rfl, rfl, by simp, ha, rs⟩
    | succ i =>
      have q := init_sl (P := ⟨[a], fun b => if b = a then none else H b, fun b => NT H b ∧ F b = none⟩) (H := H) (O := fun b => if b = a then some 0 else none) (N := N) r (n - ds.length - 1) i s ov (by simpa using e1) (by simpa using e2)
      have hs : s = .no ∨ ∃ d, s = .sh d := by
        have e1 : (ds.map Slot.sh ++ List.replicate (n - ds.length - 1) Slot.no)[i]? = some s := by simpa using e1
        rcases List.mem_append.mp (List.mem_of_getElem? e1) with h | h
        · obtain ⟨d, _, e⟩ := List.mem_map.mp h
          exact .inr ⟨d, e.symm⟩
        · exact .inl (List.mem_replicate.mp h).2
      rcases hs with rfl | ⟨d, rfl⟩
      · trivial
      · exact q
  · have gr : ∀ {σ' : L2.St} {H' F' : Hp} {ss' : List D} {st' : DSt} {d : D}, Same F F' → SR g ⟨[a], fun b => if b = a then none else H b, fun b => NT H b ∧ F b = none⟩ σ' H' F' (.rf 0 ss' :: st') →
        (∀ v H' F' ws', Same F F' → Same F' H' → (∀ b, NT H b → F b = none → F' b = none) → (∀ b o, b ≠ a → H b = some o → H' b = some o) → H' a = some (.lst ws') → F' a = none → Rl g F' ws' ss' → Rv g F' v d → Q v H') → ∀ v, Rv g F' v d → Q v H' := fun {σ' H' F' ss' st' d} le s k v rv => by
      obtain ⟨ov, hov⟩ := SRc.nth (i := 0) s rfl
      obtain ⟨O, c⟩ := s
      obtain ⟨a', ws', e1, e2, e3, e4, e5⟩ := c.sl 0 _ _ rfl hov
      have : a' = a := by simpa using e2.symm
      subst this
      refine k v H' F' ws' le c.le (fun b h1 h2 => (c.no b ⟨h1, h2⟩).1) (fun b o hb e => c.rr b o (by simp [hb, e])) e4 (c.oo _ _ e3).1 e5 rv
    unfold runR at h
    rw [if_pos (by simp only [List.length_cons] at hl; omega)] at h
    revert h
    cases f (.rf 0 ss :: (ds.map Slot.sh ++ List.replicate (n - ds.length - 1) .no)) with
    | ok fl st' =>
      cases fl with
      | nx =>
        cases st' with
        | nil => exact fun h => h.elim
        | cons s0 st' =>
          cases s0 with
          | rf k ss' =>
            cases k with
            | zero => exact fun h σ' H' F' le s => gr le s h .non .non
            | succ k => exact fun h => h.elim
          | _ => exact fun h => h.elim
      | ret d =>
        cases st' with
        | nil => exact fun h => h.elim
        | cons s0 st' =>
          cases s0 with
          | rf k ss' =>
            cases k with
            | zero => exact fun h σ' H' F' le s v rv => gr le s h v rv
            | succ k => exact fun h => h.elim
          | _ => exact fun h => h.elim
      | brk => exact fun h => h.elim
      | cnt => exact fun h => h.elim
    | exn c fs st' => exact fun h => h.elim
    | stuck => exact fun h => h.elim
theorem spD_len {m n : Nat} {f : DS} {vs : List V} {Q : VK} {E : XK} (h : spD g (runF m n f) vs H Q E) : vs.length = m := by
  obtain ⟨F, ds, le, r, h⟩ := h
  rw [r.length]
  by_cases hm : ds.length = m
  · exact hm
  · unfold runF at h
    rw [if_neg hm] at h
    exact h.elim
theorem spR_len {m n : Nat} {f : DS} {vs : List V} {Q : VK} {E : XK} (h : spR g (runR m n f) vs H Q E) : vs.length = m := by
  obtain ⟨F, a, ws, ss, us, ds, rfl, le, fa, ha, rs, r, h⟩ := h
  rw [List.length_cons, r.length]
  by_cases hm : ds.length + 1 = m
  · exact hm
  · unfold runR at h
    rw [if_neg hm] at h
    exact h.elim
end
end DL
namespace DL
open PySem PySem.Spec PyProof.Rows L2
def wipeD (st : DSt) : List Nat → DSt
  | [] => st
  | v :: vs => (wipeD st vs).set v .no
/-- the names of the block have their old content again -/
def backD (st0 st : DSt) : List Nat → DSt
  | [] => st
  | v :: vs => (backD st0 st vs).set v ((st0[v]?).getD .no)
def plainAt (st : DSt) (v : Nat) : Bool := match st[v]? with
  | some .no => true
  | some (.sh _) => true
  | _ => false
def compGo (vs : List Nat) (t : Tg) (test : Den Bool) (elt : Den D) : List D → Den (List D)
  | [] => retD []
  | d :: ds => fun st => match setT t d st with
    | none => .stuck
    | some st1 => match test st1 with
      | .ok true st2 => match elt st2 with
        | .ok y st3 => match compGo vs t test elt ds (wipeD st3 vs) with
          | .ok ys st4 => .ok (y :: ys) st4
          | _ => .stuck
        | _ => .stuck
      | .ok false st2 => compGo vs t test elt ds (wipeD st2 vs)
      | _ => .stuck
def dComp (vs : List Nat) (t : Tg) (fi : Den (List D)) (test : Den Bool) (elt : Den D) : Den (List D) := bindD fi fun ds => fun st =>
  if ds.length ≤ big ∧ vs.all (plainAt st) = true then
    match compGo vs t test elt ds (wipeD st vs) with
    | .ok ys st' => .ok ys (backD st st' vs)
    | _ => .stuck
  else .stuck
def WN : WX := fun _ _ _ _ => False
@[simp] def dYes : Den Bool := retD true
section
variable {X : Cx} {g : G} {W : WX} {P : Par} {σ : L2.St} {H F : Hp} {st : DSt} {e : Expr}
theorem wipeD_length (st : DSt) : ∀ vs : List Nat, (wipeD st vs).length = st.length
  | [] => rfl
  | v :: vs => by unfold wipeD; rw [List.length_set, wipeD_length st vs]
theorem backD_length (st0 st : DSt) : ∀ vs : List Nat, (backD st0 st vs).length = st.length
  | [] => rfl
  | v :: vs => by unfold backD; rw [List.length_set, backD_length st0 st vs]
theorem wipeD_in {st : DSt} {i : Nat} : ∀ {vs : List Nat}, i ∈ vs → ∀ s, (wipeD st vs)[i]? = some s → s = .no
  | v :: vs, h, s, e => by
    unfold wipeD at e
    by_cases hv : v = i
    · subst hv
      by_cases hl : v < (wipeD st vs).length
      · rw [List.getElem?_set_self hl] at e; cases e; rfl
      · rw [List.getElem?_eq_none (by simpa using hl)] at e; cases e
    · rw [List.getElem?_set_ne hv] at e
      rcases List.mem_cons.mp h with h | h
      · exact absurd h.symm hv
      · exact wipeD_in h s e
theorem wipeD_out {st : DSt} {i : Nat} : ∀ {vs : List Nat}, i ∉ vs → (wipeD st vs)[i]? = st[i]?
  | [], _ => rfl
  | v :: vs, h => by
    unfold wipeD
    rw [List.getElem?_set_ne (fun z => h (by rw [← z]; exact List.mem_cons_self))]
    exact wipeD_out fun z => h (List.mem_cons_of_mem _ z)
theorem wipe_out {σ : L2.St} {i : Nat} : ∀ {vs : List Nat}, i ∉ vs → (wipe σ vs)[i]? = σ[i]?
  | [], _ => rfl
  | v :: vs, h => by
    unfold wipe
    rw [List.getElem?_set_ne (fun z => h (by rw [← z]; exact List.mem_cons_self))]
    exact wipe_out fun z => h (List.mem_cons_of_mem _ z)
theorem backD_out {st0 st : DSt} {i : Nat} : ∀ {vs : List Nat}, i ∉ vs → (backD st0 st vs)[i]? = st[i]?
  | [], _ => rfl
  | v :: vs, h => by
    unfold backD
    rw [List.getElem?_set_ne (fun z => h (by rw [← z]; exact List.mem_cons_self))]
    exact backD_out fun z => h (List.mem_cons_of_mem _ z)
theorem backD_in {st0 st : DSt} {i : Nat} : ∀ {vs : List Nat}, i ∈ vs → ∀ s, (backD st0 st vs)[i]? = some s → s = (st0[i]?).getD .no
  | v :: vs, h, s, e => by
    unfold backD at e
    by_cases hv : v = i
    · subst hv
      by_cases hl : v < (backD st0 st vs).length
      · rw [List.getElem?_set_self hl] at e; cases e; rfl
      · rw [List.getElem?_eq_none (by simpa using hl)] at e; cases e
    · rw [List.getElem?_set_ne hv] at e
      rcases List.mem_cons.mp h with h | h
      · exact absurd h.symm hv
      · exact backD_in h s e
theorem SR.wipe (s : SR g P σ H F st) (vs : List Nat) : SR g P (wipe σ vs) H F (wipeD st vs) := by
  obtain ⟨O, c⟩ := s
  refine ⟨O, c.le, c.rr, c.oo, c.no, by rw [wipe_length, wipeD_length]; exact c.len, fun i s ov e1 e2 => ?_⟩
  by_cases hi : i ∈ vs
  · rw [wipeD_in hi s e1]; trivial
  · rw [wipeD_out hi] at e1
    rw [wipe_out hi] at e2
    exact c.sl i s ov e1 e2
theorem wipe_set {σ : L2.St} {i : Nat} {x : Option V} : ∀ {vs : List Nat}, i ∈ vs → wipe (σ.set i x) vs = wipe σ vs := by
  intro vs hi
  apply List.ext_getElem?
  intro j
  by_cases hj : j ∈ vs
  · have key : ∀ (τ : L2.St) (vs : List Nat), j ∈ vs → (L2.wipe τ vs)[j]? = if j < τ.length then some none else none := by
      intro τ vs
      induction vs with
      | nil => intro h; cases h
      | cons v vs ih =>
        intro h
        unfold L2.wipe
        by_cases hv : v = j
        · subst hv
          by_cases hl : v < τ.length
          · rw [List.getElem?_set_self (by rw [wipe_length]; exact hl), if_pos hl]
          · rw [List.getElem?_eq_none (by simp [wipe_length]; omega), if_neg hl]
        · rw [List.getElem?_set_ne hv]
          rcases List.mem_cons.mp h with h | h
          · exact absurd h.symm hv
          · exact ih h
    rw [key _ _ hj, key _ _ hj, List.length_set]
  · have hij : i ≠ j := fun z => hj (z ▸ hi)
    rw [wipe_out hj, wipe_out hj, List.getElem?_set_ne hij]
theorem wipe_setσ : ∀ {is : List Nat} {xs : List V} {σ : L2.St} {vs : List Nat}, (∀ i ∈ is, i ∈ vs) → wipe (setσ is xs σ) vs = wipe σ vs
  | [], xs, σ, vs, _ => by unfold setσ; rfl
  | i :: is, [], σ, vs, _ => by unfold setσ; rfl
  | i :: is, x :: xs, σ, vs, h => by
    unfold setσ
    rw [wipe_setσ fun j hj => h j (List.mem_cons_of_mem _ hj), wipe_set (h i List.mem_cons_self)]
theorem wipe_wipe (σ : L2.St) (vs : List Nat) : L2.wipe (L2.wipe σ vs) vs = L2.wipe σ vs := by
  have key : ∀ (τ : L2.St) (ws : List Nat), (∀ v ∈ ws, v ∈ vs) → L2.wipe (L2.wipe τ ws) vs = L2.wipe τ vs := by
    intro τ ws
    induction ws with
    | nil => intro _; rfl
    | cons w ws ih =>
      intro h
      show L2.wipe ((L2.wipe τ ws).set w none) vs = _
      rw [wipe_set (h w List.mem_cons_self)]
      exact ih fun v hv => h v (List.mem_cons_of_mem _ hv)
  exact key σ vs fun _ h => h
/-- the new list is guarded while the elements are worked out -/
def gd (P : Par) (D : Addr) (acc : List V) : Par := ⟨P.B, upd P.R D (.lst acc), fun a => P.N a ∨ a = D⟩
theorem SR.guard {D : Addr} {o : HO} {acc : List V} (s : SR g P σ H F st) (h : H D = none) : SR g (gd P D acc) σ (upd H D (.lst acc)) F st := by
  obtain ⟨O, c, o0, f0, r0, n0⟩ := s.newx (o := .lst acc) h
  refine ⟨O, c.le, fun b u e => ?_, fun b i e => ⟨(c.oo b i e).1, ?_, (c.oo b i e).2.2⟩, fun b n => ?_, c.len, fun i s ov e1 e2 => ?_⟩
  · have e : upd P.R D (.lst acc) b = some u := e
    by_cases hb : b = D
    · subst hb; rw [upd_same] at e; rw [← e]; exact upd_same
    · rw [upd_ne hb] at e; exact c.rr b u e
  · have hb : b ≠ D := fun z => by rw [z, o0] at e; cases e
    show upd P.R D (.lst acc) b = none
    rw [upd_ne hb]; exact (c.oo b i e).2.1
  · rcases n with n | rfl
    · exact c.no b n
    · exact ⟨f0, NT.of upd_same⟩
  · exact (c.sl i s ov e1 e2).move rfl (fun _ h => h) (Same.refl _) (fun _ _ _ h => h) fun b o n => fun z => Or.elim z n fun z => by rw [z, o0] at o; cases o
theorem SR.guard_at {D : Addr} {acc : List V} (s : SR g (gd P D acc) σ H F st) : H D = some (.lst acc) := by
  obtain ⟨O, c⟩ := s
  exact c.rr D _ upd_same
theorem SR.reguard {D : Addr} {acc acc' : List V} (s : SR g (gd P D acc) σ H F st) : SR g (gd P D acc') σ (upd H D (.lst acc')) F st := by
  obtain ⟨O, c⟩ := s
  have o0 : O D = none := by
    cases e : O D with
    | none => rfl
    | some i =>
      have := (c.oo D i e).2.1
      have z : upd P.R D (.lst acc) D = none := this
      rw [upd_same] at z; cases z
  have f0 := (c.no D (.inr rfl)).1
  refine ⟨O, fun b u e => ?_, fun b u e => ?_, fun b i e => ?_, fun b n => ?_, c.len, fun i s ov e1 e2 => ?_⟩
  · rw [upd_ne (fun z => by rw [z, f0] at e; cases e)]; exact c.le b u e
  · have e : upd P.R D (.lst acc') b = some u := e
    by_cases hb : b = D
    · subst hb; rw [upd_same] at e; rw [← e]; exact upd_same
    · rw [upd_ne hb] at e ⊢
      exact c.rr b u (by show upd P.R D (.lst acc) b = some u; rw [upd_ne hb]; exact e)
  · have hb : b ≠ D := fun z => by rw [z, o0] at e; cases e
    obtain ⟨h1, h2, h3⟩ := c.oo b i e
    have h2 : upd P.R D (.lst acc) b = none := h2
    rw [upd_ne hb] at h2
    exact ⟨h1, by show upd P.R D (.lst acc') b = none; rw [upd_ne hb]; exact h2, NT.upd hb h3⟩
  · refine ⟨(c.no b n).1, ?_⟩
    by_cases hb : b = D
    · subst hb; exact NT.of upd_same
    · exact NT.upd hb (c.no b n).2
  · exact (c.sl i s ov e1 e2).move rfl (fun _ h => h) (Same.refl _) (fun b o ho h => by rw [upd_ne (fun z => by rw [z, o0] at ho; cases ho)]; exact h) fun _ _ n => n
/-- behind the comprehension -/
theorem SR.unguard {D : Addr} {acc : List V} {H0 F0 : Hp} {st0 : DSt} {vs : List Nat} (s : SR g (gd P D acc) (L2.wipe σ vs) H F st) (s0 : SR g P σ H0 F0 st0) (h0 : H0 D = none) (le : Same F0 F) (hl : st.length = st0.length) (hp : vs.all (plainAt st0) = true) :
    SRx g P σ H F (backD st0 st vs) D := by
  obtain ⟨O, c⟩ := s
  have o0 : O D = none := by
    cases e : O D with
    | none => rfl
    | some i =>
      have z : upd P.R D (.lst acc) D = none := (c.oo D i e).2.1
      rw [upd_same] at z; cases z
  obtain ⟨_, _, _, _, r0, n0⟩ := s0.newx (o := .lst acc) h0
  refine ⟨O, ⟨c.le, fun b u e => ?_, fun b i e => ?_, fun b n => c.no b (.inl n), ?_, fun i sl ov e1 e2 => ?_⟩, o0, (c.no D (.inr rfl)).1, r0, n0⟩
  · have hb : b ≠ D := fun z => by rw [z, r0] at e; cases e
    exact c.rr b u (by show upd P.R D (.lst acc) b = some u; rw [upd_ne hb]; exact e)
  · have hb : b ≠ D := fun z => by rw [z, o0] at e; cases e
    obtain ⟨h1, h2, h3⟩ := c.oo b i e
    have h2 : upd P.R D (.lst acc) b = none := h2
    rw [upd_ne hb] at h2
    exact ⟨h1, h2, h3⟩
  · rw [backD_length]
    have := c.len
    rw [wipe_length] at this
    exact this
  · by_cases hi : i ∈ vs
    · have es := backD_in hi sl e1
      have hpl := List.all_eq_true.mp hp i hi
      unfold plainAt at hpl
      cases e0 : st0[i]? with
      | none => rw [e0] at es; subst es; trivial
      | some s0' =>
        rw [e0] at es hpl
        simp only [Option.getD_some] at es
        subst es
        cases sl with
        | no => trivial
        | sh d =>
          obtain ⟨O0, c0⟩ := s0
          obtain ⟨v, ev, r⟩ := c0.sl i _ ov e0 e2
          exact ⟨v, ev, r.mono le⟩
        | ow ds => cases hpl
        | rf k ds => cases hpl
        | oi k c ns ds => cases hpl
        | o2 dss => cases hpl
        | _ => cases hpl
    · rw [backD_out hi] at e1
      exact (c.sl i sl ov e1 (by rw [wipe_out hi]; exact e2)).move rfl (fun _ h => h) (Same.refl _) (fun _ _ _ h => h) fun _ _ n z => n (.inl z)
theorem comp_imp {vs : List Nat} {t : Tg} {fi : Den (List D)} {test : Den Bool} {elt : Den D} {Q : VK} (hv : ∀ i ∈ t.is, i ∈ vs) (q : tN g W (dComp vs t fi test elt) σ H Q) :
    tLc (tI g W fi) (tG g t) (tT g WN test) (tE g WN elt) vs σ H Q := by
  obtain ⟨P, F, st, s, o⟩ := q
  refine ⟨P, F, st, s, o.bind.imp fun ds st1 H1 F1 le1 s1 o1 J wk D hD => ?_⟩
  split at o1
  · rename_i hc
    obtain ⟨hbig, hpl⟩ := hc
    -- the rest of the walk, from the i-th turn on
    refine ⟨fun i m H => m = ds.length - i ∧ i ≤ ds.length ∧ ∃ F' st' accV acc, Same F1 F' ∧ SR g (gd P D accV) (L2.wipe σ vs) H F' st' ∧ Rl g F' accV acc ∧ acc.length ≤ i ∧ st'.length = st1.length ∧
      ∃ ys stE, compGo vs t test elt (ds.drop i) st' = .ok ys stE ∧ compGo vs t test elt ds (wipeD st1 vs) = .ok (acc ++ ys) stE, ?_, ?_⟩
    · split at o1
      · rename_i ys stE hgo
        exact ⟨ds.length, by simp, Nat.zero_le _, F1, wipeD st1 vs, [], [], Same.refl _, ((s1.wipe vs).guard (o := .lst []) hD), .nil, Nat.zero_le _, wipeD_length _ _, ys, stE, by simpa using hgo, by simpa using hgo⟩
      · exact o1.elim
    · rintro i m H2 ⟨rfl, hi, F', st', accV, acc, le, s', racc, hacc, hlen, ys, stE, hgo, hall⟩
      by_cases hlt : i < ds.length
      · obtain ⟨d0, hd0⟩ : ∃ d, ds[i]? = some d := ⟨ds[i], List.getElem?_eq_getElem hlt⟩
        have hdr : ds.drop i = d0 :: ds.drop (i + 1) := by
          rw [List.drop_eq_getElem_cons hlt]
          have := List.getElem?_eq_getElem hlt
          rw [hd0] at this; rw [← Option.some.inj this]
        rw [hdr] at hgo
        refine .inr ⟨wk.go i H2 (le.trans s'.le) hlt, fun H => ∃ F' st' accV acc, Same F1 F' ∧ SR g (gd P D accV) (L2.wipe σ vs) H F' st' ∧ Rl g F' accV acc ∧ acc.length ≤ i + 1 ∧ st'.length = st1.length ∧
          ∃ ys stE, compGo vs t test elt (ds.drop (i + 1)) st' = .ok ys stE ∧ compGo vs t test elt ds (wipeD st1 vs) = .ok (acc ++ ys) stE, fun H' nx => ⟨ds.length - (i + 1), by omega, rfl, hlt, nx⟩, fun x H' y => ?_⟩
        obtain ⟨d, hd, yy⟩ := wk.yld i H2 x H' (le.trans s'.le) hlt y
        obtain ⟨F', le2, s', rd⟩ := s'.yl le yy
        have le := le.trans le2
        have racc := racc.mono le2
        rw [hd0] at hd; cases hd
        unfold compGo at hgo
        cases hset : setT t d0 st' with
        | none => rw [hset] at hgo; cases hgo
        | some st2 =>
          rw [hset] at hgo
          refine ⟨gd P D accV, F', st', d0, s', rd, st2, hset, fun xs s2 => ⟨?_, ?_⟩⟩
          · rw [wipe_setσ hv, wipe_wipe]
          · refine ⟨gd P D accV, F', st2, s2, ?_⟩
            simp only at hgo
            have lenW : ∀ {σ' : L2.St} {H' F' : Hp} {st3 : DSt}, SR g (gd P D accV) (setσ t.is xs (L2.wipe σ vs)) H' F' st3 → (wipeD st3 vs).length = st1.length := fun {σ' H' F' st3} s3 => by
              rw [wipeD_length]
              have a1 := s3.len
              have a2 := s2.len
              have a3 := s'.len
              have a4 : st2.length = st'.length := by
                have : ∀ is ds (st st' : DSt), setAll is ds st = some st' → st'.length = st.length := by
                  intro is
                  induction is with
                  | nil => intro ds st st' e; cases ds with | nil => cases e; rfl | cons d ds => cases e
                  | cons i is ih =>
                    intro ds st st' e
                    cases ds with
                    | nil => cases e
                    | cons d ds =>
                      unfold setAll at e
                      split at e
                      · rename_i sti hsi
                        obtain ⟨_, rfl⟩ := slotSet_some hsi
                        rw [ih _ _ _ e, List.length_set]
                      · cases e
                unfold setT at hset
                cases t with
                | nm i => obtain ⟨_, rfl⟩ := slotSet_some hset; rw [List.length_set]
                | nms is =>
                  cases d0 with
                  | tup ds => exact this _ _ _ _ hset
                  | _ => cases hset
              omega
            have wp : ∀ {H' F' : Hp} {st3 : DSt}, SR g (gd P D accV) (setσ t.is xs (L2.wipe σ vs)) H' F' st3 → SR g (gd P D accV) (L2.wipe σ vs) H' F' (wipeD st3 vs) := fun {H' F' st3} s3 => by
              have := s3.wipe vs
              rw [wipe_setσ hv, wipe_wipe] at this
              exact this
            revert hgo
            cases test st2 with
            | ok b st3 =>
              intro hgo H3 F3 le3 s3
              cases b with
              | true =>
                rw [if_pos rfl]
                refine ⟨gd P D accV, F3, st3, s3, ?_⟩
                simp only at hgo
                revert hgo
                cases elt st3 with
                | ok y st4 =>
                  intro hgo H4 F4 le4 s4 v rv
                  simp only at hgo
                  have hD4 := s4.guard_at
                  have hb : big = sizeLine := big_eq
                  refine ⟨accV, hD4, by rw [racc.length, ← hb]; omega, F4, wipeD st4 vs, accV ++ [v], acc ++ [y], (le.trans le3).trans le4, (wp s4).reguard, (racc.mono (le3.trans le4)).append (.cons rv .nil), by simp; omega, lenW (σ' := σ) s4, ?_⟩
                  revert hgo
                  cases hr : compGo vs t test elt (ds.drop (i + 1)) (wipeD st4 vs) with
                  | ok ys' st5 =>
                    intro hgo
                    simp only at hgo
                    cases hgo
                    exact ⟨ys', _, rfl, by rw [List.append_assoc]; exact hall⟩
                  | exn c fs st5 => intro hgo; cases hgo
                  | stuck => intro hgo; cases hgo
                | exn c fs st4 => intro hgo; cases hgo
                | stuck => intro hgo; cases hgo
              | false =>
                rw [if_neg Bool.false_ne_true]
                exact ⟨F3, wipeD st3 vs, accV, acc, le.trans le3, wp s3, racc.mono le3, by omega, lenW (σ' := σ) s3, ys, stE, hgo, hall⟩
            | exn c fs st3 => intro hgo; cases hgo
            | stuck => intro hgo; cases hgo
      · have e : i = ds.length := by omega
        subst e
        rw [List.drop_length] at hgo
        cases hgo
        refine .inl ⟨wk.stop H2 (le.trans s'.le), ?_⟩
        rw [hall] at o1
        rw [List.append_nil] at o1
        exact o1 H2 F' D accV le (s'.unguard s1 hD le hlen hpl) s'.guard_at racc
  · exact o1.elim
theorem ev_comp {vs : List Nat} {t : Tg} {fi : Den (List D)} {test : Den Bool} {elt : Den D} (he : PE X e (tLc (tI g W fi) (tG g t) (tT g WN test) (tE g WN elt) vs)) (hv : ∀ i ∈ t.is, i ∈ vs := by decide) : PE X e (tN g W (dComp vs t fi test elt)) := he.imp fun _ _ _ q => comp_imp hv q
end
end DL
namespace DL
open PySem PySem.Spec PyProof.Rows L2
def tyName : D → Option String
  | .non => some "NoneType"
  | .bl _ => some "bool"
  | .int _ => some "int"
  | .str _ => some "str"
  | .lst _ => some "list"
  | .tup _ => some "tuple"
  | _ => none
/-- the built-in type T of a value; a truth value is an int -/
@[simp] def isTy (T : String) : D → Option Bool
  | .non => some (T == "NoneType")
  | .bl _ => some (T == "bool" || T == "int")
  | .int _ => some (T == "int")
  | .str _ => some (T == "str")
  | .lst _ => some (T == "list")
  | .tup _ => some (T == "tuple")
  | _ => none
@[simp] def opIsi (T : String) (d : D) : Option D := match isTy T d with | some b => some (.bl b) | none => none
@[simp] def opIsi2 (T U : String) (d : D) : Option D := match isTy T d, isTy U d with | some b, some c => some (.bl (b || c)) | _, _ => none
@[simp] def opIsC (c : Str) : D → Option D
  | .ins c' _ _ => if c' = c then some (.bl true) else none
  | d => match tyName d with | some _ => some (.bl false) | none => none
@[simp] def getN : List Str → List D → Str → Option D
  | n :: ns, d :: ds, f => if f == n then some d else getN ns ds f
  | _, _, _ => none
@[simp] def opFld (c f : Str) : D → Option D
  | .ins c' ns ds => if c' = c then getN ns ds f else none
  | _ => none
section
variable {X : Cx} {g : G} {W : WX} {P : Par} {σ : L2.St} {H F : Hp} {st : DSt} {e : Expr} {s : Stmt} {ss : List Stmt} {f h : Den D}
def tO (g : G) (W : WX) (fo : Den (Option Int)) : TO := fun σ H Q => ∃ P F st, SR g P σ H F st ∧ Out g W P σ F (fo st) fun o _ H' _ => Q o H'
@[simp] def asI : D → Option Int
  | .int i => some i
  | _ => none
@[simp] def dNoP : Den (Option Int) := retD none
@[simp] def dPart (f : Den D) : Den (Option Int) := bindD f fun d => liftO (match asI d with | some i => some (some i) | none => none)
theorem _root_.L2.PO.imp {X : Cx} {e : Option Expr} {t t' : TO} (h : PO X e t) (i : ∀ σ H Q, t' σ H Q → t σ H Q) : PO X e t' := ⟨fun pins s σ H Q I q => h.run pins s σ H Q I (i σ H Q q)⟩
theorem eo_none : PO X none (tO g W dNoP) := (po_none (X := X)).imp fun σ H Q ⟨P, F, st, s, o⟩ => o H F (Same.refl _) s
theorem eo_some {e : Expr} (he : PE X e (tE g W f)) : PO X (some e) (tO g W (dPart f)) := (po_some he).imp fun σ H Q ⟨P, F, st, s, o⟩ =>
  ⟨P, F, st, s, o.bind.imp fun x st1 H1 F1 le1 s1 o1 v rx => by
    obtain ⟨z, ez, q⟩ := o1.lift
    cases x with
    | int i => cases ez; cases rx; exact ⟨i, rfl, q H1 F1 (Same.refl _) s1⟩
    | _ => cases ez⟩
def cutD {α : Type} (xs : List α) (lo hi : Option Int) : List α := (xs.drop (HT.sIx xs.length 0 lo)).take (HT.sIx xs.length xs.length hi - HT.sIx xs.length 0 lo)
theorem cut_rl {vs : List V} {ds : List D} (lo hi : Option Int) (r : Rl g F vs ds) : Rl g F (cutV vs lo hi) (cutD ds lo hi) := by
  unfold cutV cutD
  rw [r.length]
  exact (r.drop _).take _
@[simp] def opSl (d : D) (lo hi : Option Int) : Option D := match d with
  | .lst xs => some (.lst (cutD xs lo hi))
  | .tup xs => some (.tup (cutD xs lo hi))
  | .scr ns => some (.lst (cutD (ns.map D.int) lo hi))
  | _ => none
def rSlD (K : PySem.W.Frag) : V → Option Int → Option Int → Hp → VK → Prop := fun x lo hi H Q => rSlL K x lo hi H Q ∨ rSlN K x lo hi H Q
theorem sl_D : SlR X (rSlD X.K) := sl_list.or sl_tupN
theorem fin_sl {v : V} {x : D} {lo hi : Option Int} {Q : VK} (s : SR g P σ H F st) (rx : Br g F H v x) (o : Out g W P σ F (liftO (opSl x lo hi) st) fun d _ H' F' => ∀ v, Rv g F' v d → Q v H') : rSlD g.K v lo hi H Q := by
  obtain ⟨z, ez, q⟩ := o.lift
  cases x with
  | lst xs =>
    cases ez
    obtain ⟨a, vs, rfl, h1, r1⟩ := rx.lst s.le
    exact .inl ⟨a, vs, rfl, sqL_of h1, fun p hp => q _ _ (Grow.new s.le hp).f (s.grow (Grow.new s.le hp)) _ (.lst upd_same ((cut_rl lo hi r1).mono (Grow.new s.le hp).f))⟩
  | tup xs =>
    cases ez
    obtain ⟨a, vs, rfl, h1, r1⟩ := rx.tup s.le
    refine .inr ⟨a, vs, rfl, h1, fun hw => ?_, fun _ => newT s.le (cut_rl lo hi r1) fun v' H' F' gr rv => q _ _ gr.f (s.grow gr) _ rv⟩
    rw [r1.length] at hw
    have e : cutD xs lo hi = xs := by
      unfold cutD
      rw [hw.1, hw.2]
      simp
    rw [e] at q
    rcases rx with rx | ⟨_, _, _, _, z, _⟩
    · exact q H F (Same.refl _) s _ rx
    · cases z
  | scr ns =>
    cases ez
    rcases rx with rx | ⟨_, _, _, _, z, _⟩
    · cases rx with
      | scr h1 =>
        exact .inl ⟨_, _, rfl, sqL_mono s.le h1, fun p hp => q _ _ (Grow.new s.le hp).f (s.grow (Grow.new s.le hp)) _ (.lst upd_same (cut_rl lo hi (Rl.of_ints ns)))⟩
    · cases z
  | _ => cases ez
@[simp] def dSl (a : Den D) (lo hi : Den (Option Int)) : Den D := bindD a fun x => bindD lo fun l => bindD hi fun u => liftO (opSl x l u)
@[simp] def dSln (i : Nat) (lo hi : Den (Option Int)) : Den D := bindD (dRd i) fun _ => bindD lo fun l => bindD hi fun u => bindD (dRd i) fun x => liftO (opSl x l u)
theorem ev_sln {i : Nat} {lo hi : Den (Option Int)} (he : PE X e (tSl (rSlD g.K) (tVar i) (tO g W lo) (tO g W hi))) : PE X e (tE g W (dSln i lo hi)) := he.imp fun σ H Q ⟨P, F, st, s, o⟩ => by
  obtain ⟨v, d, hv, _, o1⟩ := o.rd s
  refine ⟨v, hv, P, F, st, s, o1.bind.imp fun l st2 H2 F2 le2 s2 o2 => ⟨P, F2, st2, s2, o2.bind.imp fun u st3 H3 F3 le3 s3 o3 => ?_⟩⟩
  obtain ⟨v', d', hv', rx, o4⟩ := o3.rd s3
  rw [hv] at hv'; cases hv'
  exact fin_sl s3 rx o4
theorem rgV_rl (F : Hp) (a b : Int) : Rl g F (rgV a b) ((List.range (b - a).toNat).map fun k => D.int (a + (k : Nat))) := by
  unfold rgV
  generalize List.range (b - a).toNat = l
  induction l with
  | nil => exact .nil
  | cons x l ih => exact .cons (.int _) ih
@[simp] def dRg1 (f : Den D) : Den (Int × Int) := bindD f fun d => liftO (match asI d with | some n => if n.natAbs ≤ big then some (0, n) else none | none => none)
@[simp] def dRg2 (f h : Den D) : Den (Int × Int) := bindD f fun d => bindD h fun e => liftO (match asI d, asI e with | some m, some n => if 0 ≤ m ∧ m ≤ big ∧ 0 ≤ n ∧ n ≤ big then some (m, n) else none | _, _ => none)
def rgL (r : Int × Int) : List D := (List.range (r.2 - r.1).toNat).map fun k => D.int (r.1 + (k : Nat))
@[simp] def dLstRg (f : Den (Int × Int)) : Den (List D) := bindD f fun r => if r.2 ≤ big then retD (rgL r) else fun _ => .stuck
@[simp] def dTupRg (f : Den (Int × Int)) : Den D := bindD f fun r => if r.2 ≤ big then retD (.tup (rgL r)) else fun _ => .stuck
theorem rg_ok {r : Int × Int} (h0 : r.1 = 0 ∧ r.2.natAbs ≤ big ∨ 0 ≤ r.1 ∧ r.1 ≤ big ∧ 0 ≤ r.2 ∧ r.2 ≤ big) : RgOk r.1 r.2 := by
  have : big = 16777216 := rfl
  rcases h0 with ⟨h0, h1⟩ | ⟨h0, h1, h2, h3⟩
  · rw [h0]; exact ⟨by omega, by omega, by omega, by omega, by omega⟩
  · exact ⟨by omega, by omega, by omega, by omega, by omega⟩
def PRgImp (X : Cx) (e : Expr) (t t' : L2.St → Hp → (Int → Int → Hp → Prop) → Prop) (h : PRg X e t) (i : ∀ σ H Q, t' σ H Q → t σ H Q) : PRg X e t' := fun pins s σ H Q I q => h pins s σ H Q I (i σ H Q q)
/-- .. with what makes them good -/
def tRgK (g : G) (W : WX) (f : Den (Int × Int)) : L2.St → Hp → (Int → Int → Hp → Prop) → Prop := fun σ H Q => ∃ P F st, SR g P σ H F st ∧ Out g W P σ F (f st) fun r _ H' _ => RgOk r.1 r.2 → Q r.1 r.2 H'
theorem erg1 (he : PRg X e (tRg1 (tE g W f))) : PRg X e (tRgK g W (dRg1 f)) := PRgImp X e _ _ he fun σ H Q ⟨P, F, st, s, o⟩ =>
  ⟨P, F, st, s, o.bind.imp fun x st1 H1 F1 le1 s1 o1 v rx => by
    obtain ⟨z, ez, q⟩ := o1.lift
    cases x with
    | int n =>
      simp only [asI] at ez
      split at ez
      · rename_i hn
        cases ez; cases rx
        exact ⟨n, rfl, q H1 F1 (Same.refl _) s1 (rg_ok (.inl ⟨rfl, hn⟩))⟩
      · cases ez
    | _ => cases ez⟩
theorem evN_rg {fr : Den (Int × Int)} (he : PE X e (tLstRg (tRgK g W fr))) : PE X e (tN g W (dLstRg fr)) := he.imp fun σ H Q ⟨P, F, st, s, o⟩ =>
  ⟨P, F, st, s, o.bind.imp fun r st1 H1 F1 le1 s1 o1 ok => ⟨ok, fun p hp => by
    split at o1
    · exact o1 _ F1 p _ (Same.refl _) (s1.newx hp) upd_same (rgV_rl F1 r.1 r.2)
    · exact o1.elim⟩⟩
@[simp] def dMeth (c : Str) (m : Str) (df : List D → M D) (a : Den D) (fa : Den (List D)) : Den D := bindD a fun x => match x with
  | .ins c' ns ds => if c' = c ∧ (getN ns ds m).isNone ∧ ns.length = ds.length then bindD fa fun ys => fun st => match df (x :: ys) with | .ok d => .ok d st | _ => .stuck else fun _ => .stuck
  | _ => fun _ => .stuck
end
section
variable {P : Program} {w : World} {K : PySem.W.Frag} {mg : Str → Option Value} {base : Heap} {x qual : Str} {params : Arguments} {body : List Stmt} {scope : Scope} {f : Addr} {fd : FuncData} {N ps : List Str} {k : Nat}
theorem fn_data {b : DS} (F : FunD K x qual params body scope [] [] f fd) (S : FnScope N ps scope) (hp : ps.length ≤ N.length)
    (hbody : ∀ (cdv : Value) (A : Around) (outer : List Env) (s : Shared) (H : Hp) (E : XK), Room k (A.deeper (envOfC qual scope s.heap.objs.size f cdv)) →
      Takes (cxOf (L2.CX P w) P w K mg base N qual scope f cdv A outer s H E) (fun cls dd _ H => E cls dd H) →
      PassesOwn (model P w) (cxOf (L2.CX P w) P w K mg base N qual scope f cdv A outer s H E).A (cxOf (L2.CX P w) P w K mg base N qual scope f cdv A outer s H E).env (cxOf (L2.CX P w) P w K mg base N qual scope f cdv A outer s H E).xe →
      PSs (cxOf (L2.CX P w) P w K mg base N qual scope f cdv A outer s H E) body (tS ⟨K, mg, none, tk⟩ (fun cls dd _ H => E cls dd H) b)) :
    FnOk P w K mg base (L2.CX P w) (k + 1) f fd ps (spD ⟨K, mg, none, tk⟩ (runF ps.length N.length b)) :=
  F.ok S (fun vs H Q E h => spD_len h) fun cdv A outer s H vs Q E hr h => ⟨_, hbody cdv A outer s H E hr (takes_of rfl rfl rfl rfl) (passes_of rfl), body_ok rfl hp (spD_len h) h⟩
theorem fn_dataR {y : Str} {b : DS} (F : FunD K x qual params body scope [] [] f fd) (S : FnScope (y :: N) ps scope) (hp : ps.length ≤ (y :: N).length)
    (hbody : ∀ (cdv : Value) (A : Around) (outer : List Env) (s : Shared) (H : Hp) (E : XK), Room k (A.deeper (envOfC qual scope s.heap.objs.size f cdv)) →
      Takes (cxOf (L2.CX P w) P w K mg base (y :: N) qual scope f cdv A outer s H E) (fun cls dd _ H => E cls dd H) →
      PassesOwn (model P w) (cxOf (L2.CX P w) P w K mg base (y :: N) qual scope f cdv A outer s H E).A (cxOf (L2.CX P w) P w K mg base (y :: N) qual scope f cdv A outer s H E).env (cxOf (L2.CX P w) P w K mg base (y :: N) qual scope f cdv A outer s H E).xe →
      PSs (cxOf (L2.CX P w) P w K mg base (y :: N) qual scope f cdv A outer s H E) body (tS ⟨K, mg, none, tk⟩ (fun cls dd _ H => E cls dd H) b)) :
    FnOk P w K mg base (L2.CX P w) (k + 1) f fd ps (spR ⟨K, mg, none, tk⟩ (runR ps.length (y :: N).length b)) :=
  F.ok S (fun vs H Q E h => spR_len h) fun cdv A outer s H vs Q E hr h => ⟨_, hbody cdv A outer s H E hr (takes_of rfl rfl rfl rfl) (passes_of rfl), body_okR rfl hp (spR_len h) h⟩
end
end DL
namespace DL
open PySem PySem.Spec PyProof.Rows L2
@[simp] def sSelf (i : Nat) (cn n : Str) (f : Den D) : DS := bindD f fun v => fun st => match st[i]? with
  | some (.oi k c ns ds) => if c ≠ cn ∨ n ∈ ns ∨ ns.length ≠ ds.length ∨ 100 ≤ ns.length then .stuck else .ok .nx (st.set i (.oi k c (ns ++ [n]) (ds ++ [v])))
  | _ => .stuck
@[simp] def makeM (c : Str) (df : List D → M (List Str × List D)) (ds : List D) : M D := match df ds with
  | .ok r => .ok (.ins c r.1 r.2)
  | .exn c fs => .exn c fs
  | .stuck => .stuck
section
variable {X : Cx} {g : G} {W : WX} {P : Par} {σ : L2.St} {H F : Hp} {st : DSt} {e : Expr} {s : Stmt} {ss : List Stmt} {f h : Den D}
theorem run_makeS {k : Nat} {f C : Addr} {fd : FuncData} {ps : List Str} {sp : Sp} {E : L2.St → XK} {pins : List (Addr × Obj)} {σ : L2.St} {H : Hp} {s : Shared} {Q : VK} {us : List Value} {vs : List V} (M : Mk X.K C f) (F : FnOk X.prog X.w X.K X.mg X.base (L2.CX X.prog X.w) k f fd ps sp) (hr : Room (k + 1) X.A) (hb : Binds X.K fd ps [])
    (hx : PassesAt (L2.CX X.prog X.w) X σ (E σ)) (I : Inv X pins σ H s) (r : Vals vs us)
    (h : ∀ x dx, H x = none → H dx = none → dx ≠ x → sp (.ref x :: vs) (upd (upd H dx (.own x)) x (.ins C dx [])) (fun v H2 => v = .non ∧ Q (.ref x) H2) (E σ)) :
    wpAny (model X.prog X.w) X.A (call (.ref C) us) (EP X pins σ Q) X.xe s := by
  have hq := h (s.heap.objs.size + 1) s.heap.objs.size (I.hok.fresh (Nat.le_succ _)) (I.hok.fresh (Nat.le_refl _)) (Nat.ne_of_lt (Nat.lt_succ_self _))
  have I2 := Inv.made (C := C) I
  have r2 : Vals (V.ref (s.heap.objs.size + 1) :: vs) (Value.ref (s.heap.objs.size + 1) :: us) := .cons rfl r
  have hl : (Value.ref (s.heap.objs.size + 1) :: us).length = ps.length := by
    have e := r2.length
    rw [F.len _ _ _ _ hq] at e
    exact e.symm
  have b := hb _ (Value.ref (s.heap.objs.size + 1) :: us) I2.kIn (by rw [List.append_nil]; exact hl)
  rw [List.append_nil] at b
  refine wpAny_call (make_map (f := f) I.kIn M.makes M.init (beq_iff_eq.mp M.fn) (codeAny_mono (F.run _ X.stack _ _ ⟨Value.ref (s.heap.objs.size + 1) :: us, []⟩ (Value.ref (s.heap.objs.size + 1) :: us) _ _ (E σ) (hr.make C us [])
    (I2.env0.make C us []) b r2 hq) fun r s' hq' => ?_))
  cases r with
  | error e => exact hx pins _ _ e s' I2 hq'
  | ok fl =>
    cases fl with
    | ret u =>
      obtain ⟨v, H', I3, rv, ev, q3⟩ := I2.after hq'
      subst ev
      exact ⟨rv, ⟨V.ref (s.heap.objs.size + 1), H', I3, rfl, q3⟩⟩
    | next => exact False.elim hq'
    | brk => exact False.elim hq'
    | cont => exact False.elim hq'
def tMakeS (C : Addr) (sp : Sp) (E : L2.St → XK) (t : TA) : TE := fun σ H Q => t σ H fun vs H1 => ∀ x dx, H1 x = none → H1 dx = none → dx ≠ x →
  sp (.ref x :: vs) (upd (upd H1 dx (.own x)) x (.ins C dx [])) (fun v H2 => v = .non ∧ Q (.ref x) H2) (E σ)
theorem pe_makeS {k : Nat} {f C : Addr} {fd : FuncData} {ps : List Str} {sp : Sp} {E : L2.St → XK} {x : Str} {p pos : Pos} {e : Expr} {es : List Expr} {t : TA} (M : Mk X.K C f) (F : FnOk X.prog X.w X.K X.mg X.base (L2.CX X.prog X.w) k f fd ps sp) (hr : Room (k + 1) X.A) (hg : Gl X x) (hm : X.mg x = some (.ref C)) (hb : Binds X.K fd ps []) (hx : ∀ σ, PassesAt (L2.CX X.prog X.w) X σ (E σ))
    (ha : PA X (e :: es) t) (hdb : (x == ("__debug__" : Str)) = false := by decide) (he : starEach (e :: es) X.env = (false, eval e X.env) :: starEach es X.env := by rfl) (hpl : (backTo pos (starEach es X.env)).any (·.1) = false := by rfl) :
    PE X (.Call (.Name x p) (e :: es) [] pos) (tMakeS C sp E t) := by
  refine ⟨fun pins s σ H Q I h => ?_⟩
  refine wpAny_Call_Name_kw (ld_glob I hg hm ?_ hdb)
  refine PySem.W.callWith_K (h₀ := X.base) I.ok.mod.kin M.kp (thn (ha.run pos pins s σ H _ I h) fun us s1 ⟨vs, H1, I1, r, q⟩ => ⟨I1.kIn, ?_⟩) he hpl
  exact run_makeS M F hr hb (hx σ) I1 r q
@[simp] def sAsg (t : Tg) (f : Den D) : DS := bindD f fun d => fun st => match setT t d st with
  | some st' => .ok .nx st'
  | none => .stuck
@[simp] def sPar (i j : Nat) (f h : Den D) : DS := bindD f fun x => bindD h fun y => fun st => match slotSet i (.sh x) st with
  | some st1 => match slotSet j (.sh y) st1 with
    | some st2 => .ok .nx st2
    | none => .stuck
  | none => .stuck
theorem es_par {i j : Nat} (he : PS X s (tPar i j (tCons (tE g W f) (tCons (tE g W h) tNil)))) : PS X s (tS g W (sPar i j f h)) := he.imp fun D σ H ⟨P, F, st, s, o⟩ =>
  ⟨P, F, st, s, OutS.bind o |>.imp fun x st1 H1 F1 le1 s1 o1 v rv => ⟨P, F1, st1, s1, OutS.bind o1 |>.imp fun y st2 H2 F2 le2 s2 o2 u ru => ⟨v, u, rfl, by
    cases hs : slotSet i (.sh x) st2 with
    | none => rw [hs] at o2; exact o2.elim
    | some st3 =>
      rw [hs] at o2
      simp only at o2
      cases hs2 : slotSet j (.sh y) st3 with
      | none => rw [hs2] at o2; exact o2.elim
      | some st4 =>
        rw [hs2] at o2
        obtain ⟨hi, rfl⟩ := slotSet_some hs
        obtain ⟨hj, rfl⟩ := slotSet_some hs2
        exact o2 _ H2 F2 (Same.refl _) ((s2.put (rv.mono le2) hi).put ru hj)⟩⟩⟩
@[simp] def sPar3 (i j l : Nat) (f h k : Den D) : DS := bindD f fun x => bindD h fun y => bindD k fun z => fun st => match slotSet i (.sh x) st with
  | some st1 => match slotSet j (.sh y) st1 with
    | some st2 => match slotSet l (.sh z) st2 with
      | some st3 => .ok .nx st3
      | none => .stuck
    | none => .stuck
  | none => .stuck
end
end DL
namespace DL
open PySem PySem.Spec PyProof.Rows L2
def tSO (g : G) (W : WX) (a : DS) (fn : Den (List D)) : TS := fun E σ H => ∃ P F st, SR g P σ H F st ∧ match a st with
  | .ok .nx st' => (match fn st' with
    | .ok ds st2 => ∀ σ' H' F' p vs, Same F F' → SRx g P σ' H' F' st2 p → H' p = some (.lst vs) → Rl g F' vs ds → E.rt (.ref p) H'
    | _ => False)
  | _ => False
def runO (m n : Nat) (a : DS) (fn : Den (List D)) (ds : List D) : Option (List D) := if ds.length = m then match a (ds.map Slot.sh ++ List.replicate (n - ds.length) .no) with
  | .ok .nx st' => (match fn st' with
    | .ok zs _ => some zs
    | _ => none)
  | _ => none
  else none
def spO (g : G) (df : List D → Option (List D)) : Sp := fun vs H Q _ => ∃ F ds zs, Same F H ∧ Rl g F vs ds ∧ df ds = some zs ∧ ∀ p vs' H' F', Grow H F H' F' → H p = none → H' p = some (.lst vs') → F' p = none → Rl g F' vs' zs → Q (.ref p) H'
@[simp] def dCallO (df : List D → Option (List D)) (fa : Den (List D)) : Den (List D) := bindD fa fun ds => liftO (df ds)
section
variable {X : Cx} {g : G} {W : WX} {P : Par} {σ : L2.St} {H F : Hp} {st : DSt} {e : Expr} {s : Stmt} {ss : List Stmt} {f h : Den D} {a b : DS} {fn : Den (List D)}
theorem essO_one (he : PS X s (tRet (tN g W fn))) : PSs X [s] (tSO g W sPass fn) := (pss_one he).imp fun E σ H ⟨P, F, st, s, o⟩ => by
  refine ⟨P, F, st, s, ?_⟩
  have o : (match fn st with
    | .ok ds st2 => ∀ σ' H' F' p vs, Same F F' → SRx g P σ' H' F' st2 p → H' p = some (.lst vs) → Rl g F' vs ds → E.rt (.ref p) H'
    | _ => False) := o
  revert o
  unfold OutN
  cases fn st with
  | ok ds st2 => exact fun o H' F' p vs => o σ H' F' p vs
  | exn c fs st2 => exact fun o => o.elim
  | stuck => exact fun o => o.elim
theorem essO_cons (h1 : PS X s (tS g W a)) (h2 : PSs X ss (tSO g W b fn)) : PSs X (s :: ss) (tSO g W (sSeq a b) fn) := (pss_cons h1 h2).imp fun E σ H ⟨P, F, st, s, o⟩ => by
  refine ⟨P, F, st, s, ?_⟩
  unfold sSeq at o
  revert o
  cases a st with
  | ok fl st1 =>
    cases fl with
    | nx =>
      intro o σ1 H1 F1 le1 s1
      refine ⟨P, F1, st1, s1, ?_⟩
      simp only at o
      revert o
      cases b st1 with
      | ok fl st2 =>
        cases fl with
        | nx =>
          simp only
          cases fn st2 with
          | ok ds st3 => exact fun o σ' H' F' p vs le => o σ' H' F' p vs (le1.trans le)
          | exn c fs st3 => exact fun o => o
          | stuck => exact fun o => o
        | _ => exact fun o => o
      | _ => exact fun o => o
    | _ => exact fun o => o.elim
  | _ => exact fun o => o.elim
theorem body_okO {N ps : List Str} {n : Nat} {vs : List V} {Q : VK} {E : XK} (hn : n = N.length) (hp : ps.length ≤ N.length) (hl : vs.length = ps.length) (h : spO g (runO ps.length n a fn) vs H Q E) :
    tSO g (fun cls dd _ H => E cls dd H) a fn { nx := fun _ H' => Q .non H', rt := Q } (L2.start N vs) H := by
  obtain ⟨F, ds, zs, le, r, h, k⟩ := h
  refine ⟨⟨[], H, fun a => NT H a ∧ F a = none⟩, F, ds.map Slot.sh ++ List.replicate (n - ds.length) .no, ⟨fun _ => none, le, Same.refl _, (fun _ _ e => nomatch e), fun a h => ⟨h.2, h.1⟩, ?_, init_sl r _⟩, ?_⟩
  · have := r.length
    unfold L2.start
    simp only [List.length_append, List.length_map, List.length_replicate]
    omega
  · unfold runO at h
    rw [if_pos (by rw [← r.length]; exact hl)] at h
    revert h
    cases a (ds.map Slot.sh ++ List.replicate (n - ds.length) .no) with
    | ok fl st' =>
      cases fl with
      | nx =>
        simp only
        cases fn st' with
        | ok zs' st2 =>
          intro h σ' H' F' p vs' le s hp rr
          cases h
          obtain ⟨O, c, o0, f0, r0, n0⟩ := s
          exact k p vs' H' F' ⟨c.rr, le, c.le, fun a h1 h2 => (c.no a ⟨h1, h2⟩).1⟩ r0 hp f0 rr
        | exn c fs st2 => exact fun h => nomatch h
        | stuck => exact fun h => nomatch h
      | _ => exact fun h => nomatch h
    | exn c fs st2 => exact fun h => nomatch h
    | stuck => exact fun h => nomatch h
theorem ev_callO {df : List D → Option (List D)} {E : L2.St → XK} {fa : Den (List D)} (he : PE X e (tCallS (spO g df) E (tA g W fa))) : PE X e (tN g W (dCallO df fa)) := he.imp fun σ H Q ⟨P, F, st, s, o⟩ =>
  ⟨P, F, st, s, o.bind.imp fun ds st1 H1 F1 le1 s1 o1 vs rs => by
    cases hz : df ds with
    | none => rw [hz] at o1; exact o1.elim
    | some zs =>
      rw [hz] at o1
      refine ⟨F1, ds, zs, s1.le, rs, hz, fun p vs' H' F' gr hp hp' fp rr => o1 H' F' p vs' gr.f ?_ hp' rr⟩
      obtain ⟨O, c⟩ := s1
      refine ⟨O, c.grow gr, ?_, fp, ?_, fun n => (c.no p n).2.1 hp⟩
      · cases e : O p with
        | none => rfl
        | some i => exact absurd hp (c.oo p i e).2.2.1
      · cases e : P.R p with
        | none => rfl
        | some u => rw [c.rr _ _ e] at hp; cases hp⟩
theorem spO_len {m n : Nat} {vs : List V} {Q : VK} {E : XK} (h : spO g (runO m n a fn) vs H Q E) : vs.length = m := by
  obtain ⟨F, ds, zs, le, r, h, k⟩ := h
  rw [r.length]
  by_cases hm : ds.length = m
  · exact hm
  · unfold runO at h
    rw [if_neg hm] at h
    cases h
end
section
variable {P : Program} {w : World} {K : PySem.W.Frag} {mg : Str → Option Value} {base : Heap} {x qual : Str} {params : Arguments} {body : List Stmt} {scope : Scope} {f : Addr} {fd : FuncData} {N ps : List Str} {k : Nat}
theorem fn_own {b : DS} {fn : Den (List D)} (F : FunD K x qual params body scope [] [] f fd) (S : FnScope N ps scope) (hp : ps.length ≤ N.length)
    (hbody : ∀ (cdv : Value) (A : Around) (outer : List Env) (s : Shared) (H : Hp) (E : XK), Room k (A.deeper (envOfC qual scope s.heap.objs.size f cdv)) →
      Takes (cxOf (L2.CX P w) P w K mg base N qual scope f cdv A outer s H E) (fun cls dd _ H => E cls dd H) →
      PassesOwn (model P w) (cxOf (L2.CX P w) P w K mg base N qual scope f cdv A outer s H E).A (cxOf (L2.CX P w) P w K mg base N qual scope f cdv A outer s H E).env (cxOf (L2.CX P w) P w K mg base N qual scope f cdv A outer s H E).xe →
      PSs (cxOf (L2.CX P w) P w K mg base N qual scope f cdv A outer s H E) body (tSO ⟨K, mg, none, tk⟩ (fun cls dd _ H => E cls dd H) b fn)) :
    FnOk P w K mg base (L2.CX P w) (k + 1) f fd ps (spO ⟨K, mg, none, tk⟩ (runO ps.length N.length b fn)) :=
  F.ok S (fun vs H Q E h => spO_len h) fun cdv A outer s H vs Q E hr h => ⟨_, hbody cdv A outer s H E hr (takes_of rfl rfl rfl rfl) (passes_of rfl), body_okO rfl hp (spO_len h) h⟩
/-- the law: called with the script -/
theorem law_sp {f : DS} {n : Nat} {H : Hp} {a : Addr} {ns : List Int} (hS : SqL K H a (ns.map V.int)) (h : runF 1 n f [.scr ns] = .ok (.bl true)) (E : XK) : spD ⟨K, mg, none, tk⟩ (runF 1 n f) [.ref a] H (fun v _ => v = .bl true) E := by
  refine ⟨H, [.scr ns], Same.refl _, .cons (.scr hS) .nil, ?_⟩
  rw [h]
  intro v H' F' gr rv
  cases rv
  rfl
theorem cx_no {w : World} {H : Hp} {s : Shared} {e : Value} {s' : Shared} (h : L2.CX P w [] H s (fun _ _ _ => False) e s') : False := by
  obtain ⟨_, _, _, _, _, _, _, _, _, _, _, _, z⟩ := h
  exact z
end
end DL
namespace DL
open PySem PySem.Spec PyProof.Rows L2
abbrev AlB : Type := Bool × List He.FnW × List He.FnW
/-- a def without what it closes over -/
def clW (K : PySem.W.Frag) (p : Str × Option Str) : He.FnW := match K.lookup (He.fAd K p) with
  | some ⟨_, _, .func fd, _⟩ => some (fd.name, fd.qualname, fd.params, fd.body, fd.scope, fd.globals, [], fd.builtins)
  | _ => none
def obsB (fa : List He.Fa) (fn xn : List He.DefD) (ex : PySem.W.Frag → Bool) (K : PySem.W.Frag) : AlB := ((fa.all fun f => f.ok K) && ((fn.all fun d => d.ok K) && ex K), fn.map (fun d => He.fnW K d.at_), xn.map fun d => clW K d.at_)
def valB (fn xn : List He.DefD) : AlB := (true, fn.map He.DefD.val, xn.map He.DefD.val)
structure Says (fa : List He.Fa) (fn xn : List He.DefD) (ex : PySem.W.Frag → Bool) (K : PySem.W.Frag) : Prop where
  eq : obsB fa fn xn ex K = valB fn xn
def obsBG (n : Nat) (fa : List He.Fa) (fn xn : List He.DefD) (ex : PySem.W.Frag → Bool) (g : Addr → Option Obj) : AlB := obsB fa fn xn ex (He.frG g (cStatics :: He.asD g n))
def hookB (n : Nat) (fa : List He.Fa) (fn xn : List He.DefD) (ex : PySem.W.Frag → Bool) : PySem.W.Hook where
  α := AlB
  obs := fun s => obsBG n fa fn xn ex s.heap.get?
  val := fun _ => valB fn xn
  says := fun _ h => ∃ K : PySem.W.Frag, K.In h ∧ Says fa fn xn ex K
  of := fun _ _ e => ⟨_, He.frG_in, ⟨e⟩⟩
  keeps := fun _ _ _ ⟨K, hK, c⟩ k => ⟨K, PySem.W.Frag.In.keeps hK k, c⟩
theorem obsBG_eq {n : Nat} {fa : List He.Fa} {fn xn : List He.DefD} {ex : PySem.W.Frag → Bool} {g : Addr → Option Obj} {s : Shared} (h : ∀ a, g a = s.heap.get? a) : obsBG n fa fn xn ex g = (hookB n fa fn xn ex).obs s := by
  have e : g = s.heap.get? := funext h
  rw [e] <;> rfl
section
variable {fa : List He.Fa} {fn xn : List He.DefD} {ex : PySem.W.Frag → Bool} {K : PySem.W.Frag}
theorem Says.fact (c : Says fa fn xn ex K) (i : Nat) {f : He.Fa} (h : fa[i]? = some f := by rfl) : f.ok K = true := by
  have c1 := (He.ba (show ((fa.all fun f => f.ok K) && ((fn.all fun d => d.ok K) && ex K)) = true from congrArg (fun z : AlB => z.1) c.eq)).1
  exact List.all_eq_true.mp c1 f (List.mem_of_getElem? h)
theorem Says.def_ (c : Says fa fn xn ex K) (i : Nat) {d : He.DefD} (h : fn[i]? = some d := by rfl) : ∃ fd, FunD K d.name d.qual d.params d.body d.scope (d.dvs K) (d.kws K) (He.fAd K d.at_) fd := by
  have c2 := (He.ba (He.ba (show ((fa.all fun f => f.ok K) && ((fn.all fun d => d.ok K) && ex K)) = true from congrArg (fun z : AlB => z.1) c.eq)).2).1
  have e : fn.map (fun d => He.fnW K d.at_) = fn.map He.DefD.val := congrArg (fun z : AlB => z.2.1) c.eq
  have e2 : (fn.map fun d => He.fnW K d.at_)[i]? = (fn.map He.DefD.val)[i]? := by rw [e]
  rw [List.getElem?_map, List.getElem?_map, h] at e2
  exact He.DefD.funD (Option.some.inj e2) (List.all_eq_true.mp c2 d (List.mem_of_getElem? h))
end
structure Fk (P : Program) (w : World) (K : PySem.W.Frag) (mg : Str → Option Value) (base : Heap) (x : Str) (lvl : Nat) (f : Addr) (ps : List Str) (sp : Sp) : Prop where
  ok : ∃ fd, FnOk P w K mg base (L2.CX P w) lvl f fd ps sp ∧ Binds K fd ps []
  gm : mg x = some (.ref f)
  kp : PySem.W.keepIn K (.ref f) = true
section
variable {X : Cx} {x : Str} {lvl : Nat} {f : Addr} {ps : List Str} {sp : Sp} {W : WX} {e : Expr} {es : List Expr} {t : TA} {p pos : Pos}
theorem Fk.pe (F : Fk X.prog X.w X.K X.mg X.base x lvl f ps sp) (hr : Room lvl X.A) (hg : Gl X x) (tk : Takes X W) (ha : PA X (e :: es) t)
    (hdb : (x == ("__debug__" : Str)) = false := by decide) (he : starEach (e :: es) X.env = (false, eval e X.env) :: starEach es X.env := by rfl) (hpl : (backTo pos (starEach es X.env)).any (·.1) = false := by rfl) :
    PE X (.Call (.Name x p) (e :: es) [] pos) (tCallS sp (WE W) t) := by
  obtain ⟨fd, G, b⟩ := F.ok
  exact pe_callS G hr hg F.gm F.kp b (fun σ => passAt tk σ) ha hdb he hpl
theorem run_fnS0 {k : Nat} {fd : FuncData} {E : L2.St → XK} (F : FnOk X.prog X.w X.K X.mg X.base (L2.CX X.prog X.w) k f fd ps sp) (hr : Room k X.A) (hg : Gl X x) (hm : X.mg x = some (.ref f)) (hk : PySem.W.keepIn X.K (.ref f) = true) (hb : Binds X.K fd ps []) (hx : ∀ σ, PassesAt (L2.CX X.prog X.w) X σ (E σ))
    (hdb : (x == ("__debug__" : Str)) = false := by decide) : PE X (.Call (.Name x p) [] [] pos) (tCallS sp E tNil) := by
  refine ⟨fun pins s σ H Q I h => ?_⟩
  refine wpAny_Call_Name_kw (ld_glob I hg hm ?_ hdb)
  exact PySem.W.callWith_K0 I.kIn hk (run_fnS (us := []) F hr hb (hx σ) I .nil h)
theorem Fk.pe0 (F : Fk X.prog X.w X.K X.mg X.base x lvl f ps sp) (hr : Room lvl X.A) (hg : Gl X x) (tk : Takes X W) (hdb : (x == ("__debug__" : Str)) = false := by decide) : PE X (.Call (.Name x p) [] [] pos) (tCallS sp (WE W) tNil) := by
  obtain ⟨fd, G, b⟩ := F.ok
  exact run_fnS0 G hr hg F.gm F.kp b (fun σ => passAt tk σ) hdb
theorem ev_call0 {g : G} {e : Expr} {df : List D → M D} (he : PE X e (tCallS (spD g df) (WE W) tNil)) : PE X e (tE g W (dCall df dNil)) := he.imp fun σ H Q ⟨P, F, st, s, o⟩ =>
  call_fin s .nil (fun _ _ _ h => h) (o.bind H F (Same.refl _) s)
/-- a method of data -/
structure Mf (P : Program) (w : World) (K : PySem.W.Frag) (mg : Str → Option Value) (base : Heap) (C : Addr) (m : Str) (lvl : Nat) (f : Addr) (ps : List Str) (sp : Sp) : Prop where
  ok : ∃ fd, FnOk P w K mg base (L2.CX P w) lvl f fd ps sp ∧ Binds K fd ps []
  me : Meth K C m f
variable {C : Addr} {m : Str} {o : Expr} {ta : TE} {apos : Pos}
theorem Mf.pe {pl : Sem Bool} (F : Mf X.prog X.w X.K X.mg X.base C m lvl f ps sp) (hr : Room lvl X.A) (c : Cls X.K C) (he : PE X o ta) (ha : PA X (e :: es) t)
    (hst : starEach (e :: es) X.env = (false, eval e X.env) :: starEach es X.env := by rfl) (hpl : (backTo pos (starEach es X.env)).any (·.1) = false := by rfl)
    (ht : eval (.Call (.Attribute o m apos) (e :: es) [] pos) X.env = (do
      let ov ← eval o X.env
      standAt apos.atName
      let (f, first) ← holding [ov] (getMethod ov m pl)
      callWith pos f first (backTo pos (starEach (e :: es) X.env)) (backToKw pos (keywordEach [] X.env))) := by rfl) :
    PE X (.Call (.Attribute o m apos) (e :: es) [] pos) (tMeth C m sp [] E0 ta t) := by
  obtain ⟨fd, G, b⟩ := F.ok
  exact pe_meth he c F.me G hr b .nil passL ha hst hpl ht
theorem Mf.pe0 {pl : Sem Bool} (F : Mf X.prog X.w X.K X.mg X.base C m lvl f ps sp) (hr : Room lvl X.A) (c : Cls X.K C) (he : PE X o ta)
    (ht : eval (.Call (.Attribute o m apos) [] [] pos) X.env = (do
      let ov ← eval o X.env
      standAt apos.atName
      let (f, first) ← holding [ov] (getMethod ov m pl)
      callWith pos f first (backTo pos (starEach [] X.env)) (backToKw pos (keywordEach [] X.env))) := by rfl) :
    PE X (.Call (.Attribute o m apos) [] [] pos) (tMeth C m sp [] E0 ta tNil) := by
  obtain ⟨fd, G, b⟩ := F.ok
  exact pe_meth0 he c F.me G hr b .nil passL ht
/-- the calls of a class -/
structure Kf (P : Program) (w : World) (K : PySem.W.Frag) (mg : Str → Option Value) (base : Heap) (c : Str) (lvl : Nat) (C f : Addr) (ps : List Str) (sp : Sp) : Prop where
  ok : ∃ fd, FnOk P w K mg base (L2.CX P w) lvl f fd ps sp ∧ Binds K fd ps []
  mkr : Mk K C f
  gm : mg c = some (.ref C)
theorem Kf.pe {c : Str} (F : Kf X.prog X.w X.K X.mg X.base c lvl C f ps sp) (hr : Room (lvl + 1) X.A) (hg : Gl X c) (tk : Takes X W) (ha : PA X (e :: es) t)
    (hdb : (c == ("__debug__" : Str)) = false := by decide) (he : starEach (e :: es) X.env = (false, eval e X.env) :: starEach es X.env := by rfl) (hpl : (backTo pos (starEach es X.env)).any (·.1) = false := by rfl) :
    PE X (.Call (.Name c p) (e :: es) [] pos) (tMakeS C sp (WE W) t) := by
  obtain ⟨fd, G, b⟩ := F.ok
  exact pe_makeS F.mkr G hr hg F.gm b (fun σ => passAt tk σ) ha hdb he hpl
theorem room_u {k : Nat} {A : Around} (r : Room k A) : A.units + 65 < cLine := by have := r.un; omega
theorem room_u4 {k : Nat} {A : Around} (r : Room k A) : A.units + 64 < cLine := by have := r.un; omega
/-- a comprehension stored under a name -/
theorem es_ownLc {g : G} {s : Stmt} {i : Nat} {vs : List Nat} {t : Tg} {fi : Den (List D)} {test : Den Bool} {elt : Den D} (he : PS X s (tAsg (tLc (tI g W fi) (tG g t) (tT g WN test) (tE g WN elt) vs) (gName i))) (hv : ∀ i ∈ t.is, i ∈ vs := by decide) : PS X s (tS g W (sOwn i (dComp vs t fi test elt))) :=
  es_own (he.imp fun D σ H q => comp_imp hv q)
theorem ets_nil {g : G} : PTs X [] (tT g W dYes) := ⟨fun pins s σ H Q I ⟨P, F, st, s0, o⟩ => pts_nil.run pins s σ H Q I (o H F (Same.refl _) s0)⟩
end
end DL
namespace DL
open PySem PySem.Spec PyProof.Rows L2
/-- the end of a law: its def's promise, over the facts of the head -/
theorem law_end {l : PySem.W.OpenLaw} {k n : Nat} {q : Program} {loose : List Str} {XP : (Str → Option Value) → Heap → Prop} {d : PySem.DefRec} {fa : List He.Fa} {fn xn : List He.DefD} {ex : PySem.W.Frag → Bool} {f : DS} {H : Nat}
    (hn : l.most = some 63) (hdf : d.params.defaults = []) (hr : Room k callerA) (hname : d.name = ("law" : Str))
    (F : ∀ (w : World) (K : PySem.W.Frag) (mg : Str → Option Value) (h : Heap), K.In h → h.Ns mainGlobals mg → Says fa fn xn ex K → mg ("law" : Str) = some (.ref (He.fAd K (("law" : Str), none))) ∧
      ∃ fd : FuncData, (∀ (s : Shared) (u : Value), BindsTo s fd ⟨[u], []⟩ [(("_law_script" : Str), u)]) ∧ ∀ base : Heap, FnOk l.prog w K mg base (L2.CX l.prog w) k (He.fAd K (("law" : Str), none)) fd [("_law_script" : Str)] (spD ⟨K, mg, none, tk⟩ (runF 1 n f)))
    (math : ∀ ns : List Int, runF 1 n f [.scr ns] = .ok (.bl true)) :
    PySem.W.WalkO q loose XP (hookB H fa fn xn ex).says l.row.toRowW d [] (fun f vs => PySem.call f vs) := by
  refine Att.attach_call hn hdf fun w s₀ s₁ mg mb fa' o pm cd doc a vs ns G Y ho hd hcd hmg hobj hints hlen hg => ?_
  obtain ⟨K, KX, c⟩ := Y
  rw [hname] at hmg
  obtain ⟨g1, fd, hb, hF⟩ := F w K mg _ KX G.T.g c
  rw [hmg] at g1
  cases g1
  exact law_call KX G.T.g G.T.b G.T.builtins G.T.nolimit hg hobj hints (Nat.le_trans hlen (by decide)) hr (fun base _ _ => hF base) hb (fun H hO hS => law_sp hS (math ns) _) fun H e s' h => cx_no h
section
variable {X : Cx} {g : G} {W : WX} {P : Par} {σ : L2.St} {H F : Hp} {st : DSt} {e : Expr} {s : Stmt} {ss : List Stmt} {f h : Den D}
/-- sorted of ints -/
def insI (x : Int) : List Int → List Int
  | [] => [x]
  | y :: r => if x ≤ y then x :: y :: r else y :: insI x r
def sortI : List Int → List Int
  | [] => []
  | x :: r => insI x (sortI r)
theorem insI_perm (x : Int) : ∀ l, (insI x l).Perm (x :: l)
  | [] => .refl _
  | y :: r => by
    unfold insI
    split
    · exact .refl _
    · exact ((insI_perm x r).cons y).trans (.swap x y r)
theorem sortI_perm : ∀ l, (sortI l).Perm l
  | [] => .refl _
  | x :: r => (insI_perm x _).trans ((sortI_perm r).cons x)
theorem insI_sorted (x : Int) : ∀ l : List Int, l.Pairwise (· ≤ ·) → (insI x l).Pairwise (· ≤ ·)
  | [], _ => by simp [insI]
  | y :: r, h => by
    unfold insI
    split
    · rename_i hx
      refine List.pairwise_cons.mpr ⟨fun z hz => ?_, h⟩
      rcases List.mem_cons.mp hz with rfl | hz
      · exact hx
      · exact Int.le_trans hx ((List.pairwise_cons.mp h).1 z hz)
    · rename_i hx
      obtain ⟨h1, h2⟩ := List.pairwise_cons.mp h
      refine List.pairwise_cons.mpr ⟨fun z hz => ?_, insI_sorted x r h2⟩
      rcases List.mem_cons.mp ((insI_perm x r).mem_iff.mp hz) with rfl | hz
      · omega
      · exact h1 z hz
theorem sortI_sorted : ∀ l, (sortI l).Pairwise (· ≤ ·)
  | [] => .nil
  | x :: r => insI_sorted x _ (sortI_sorted r)
theorem sorted_unique : ∀ {l m : List Int}, l.Perm m → l.Pairwise (· ≤ ·) → m.Pairwise (· ≤ ·) → l = m
  | [], m, p, _, _ => (List.nil_perm.mp p).symm
  | x :: l, m, p, h1, h2 => by
    cases m with
    | nil => exact absurd p.symm (by simp)
    | cons y m =>
      obtain ⟨a1, a2⟩ := List.pairwise_cons.mp h1
      obtain ⟨b1, b2⟩ := List.pairwise_cons.mp h2
      have hxy : x = y := by
        have hx : x ∈ y :: m := p.mem_iff.mp List.mem_cons_self
        have hy : y ∈ x :: l := p.mem_iff.mpr List.mem_cons_self
        rcases List.mem_cons.mp hx with e | hx
        · exact e
        · rcases List.mem_cons.mp hy with e | hy
          · exact e.symm
          · exact Int.le_antisymm (a1 y hy) (b1 x hx)
      subst hxy
      rw [sorted_unique (List.Perm.cons_inv p) a2 b2]
def nSorted : D → Option (List D)
  | .lst ds => match intsOf ds with | some is => some ((sortI is).map D.int) | none => none
  | .tup _ => none
  | _ => none
end
end DL
namespace DL
open PySem PySem.Spec PyProof.Rows L2
def compGo2 (vs : List Nat) (t : Tg) (elt : Den (List D)) : List D → Den (List (List D))
  | [] => retD []
  | d :: ds => fun st => match setT t d st with
    | none => .stuck
    | some st1 => match elt st1 with
      | .ok y st3 => match compGo2 vs t elt ds (wipeD st3 vs) with
        | .ok ys st4 => .ok (y :: ys) st4
        | _ => .stuck
      | _ => .stuck
def dComp2 (vs : List Nat) (t : Tg) (fi : Den (List D)) (elt : Den (List D)) : Den (List (List D)) := bindD fi fun ds => fun st =>
  if ds.length ≤ big ∧ vs.all (plainAt st) = true then
    match compGo2 vs t elt ds (wipeD st vs) with
    | .ok ys st' => .ok ys (backD st st' vs)
    | _ => .stuck
  else .stuck
abbrev BL := List (Addr × List V)
def refs (bl : BL) : List V := bl.map fun q => V.ref q.1
/-- guarded: the new list D and the lists in it -/
def gd2 (P : Par) (D : Addr) (bl : BL) : Par := ⟨P.B, fun x => if x = D then some (.lst (refs bl)) else match bl.lookup x with
  | some vs => some (.lst vs)
  | none => P.R x, fun x => P.N x ∨ x = D ∨ x ∈ bl.map (·.1)⟩
structure RL2 (g : G) (F : Hp) (bl : BL) (dss : List (List D)) : Prop where
  len : bl.length = dss.length
  at_ : ∀ (j : Nat) (q : Addr × List V) (ds : List D), bl[j]? = some q → dss[j]? = some ds → Rl g F q.2 ds
theorem RL2.mono {g : G} {F F' : Hp} {bl : BL} {dss : List (List D)} (e : Same F F') (h : RL2 g F bl dss) : RL2 g F' bl dss := ⟨h.len, fun j q ds e1 e2 => (h.at_ j q ds e1 e2).mono e⟩
theorem RL2.snoc {g : G} {F : Hp} {bl : BL} {dss : List (List D)} {p : Addr} {vs : List V} {ds : List D} (h : RL2 g F bl dss) (r : Rl g F vs ds) : RL2 g F (bl ++ [(p, vs)]) (dss ++ [ds]) := by
  refine ⟨by simp [h.len], fun j q es e1 e2 => ?_⟩
  rcases Nat.lt_or_ge j bl.length with hj | hj
  · rw [List.getElem?_append_left hj] at e1
    rw [List.getElem?_append_left (by rw [← h.len]; exact hj)] at e2
    exact h.at_ j q es e1 e2
  · rw [List.getElem?_append_right hj] at e1
    rw [List.getElem?_append_right (by rw [← h.len]; exact hj)] at e2
    have : j - bl.length = 0 := by
      have := (List.getElem?_eq_some_iff.mp e1).1
      simp at this; omega
    rw [this] at e1
    rw [← h.len, this] at e2
    simp at e1 e2
    subst e1; subst e2
    exact r
theorem lookup_some {bl : BL} {x : Addr} {vs : List V} : bl.lookup x = some vs → (x, vs) ∈ bl := by
  induction bl with
  | nil => intro h; cases h
  | cons q bl ih =>
    obtain ⟨y, ws⟩ := q
    intro h
    rw [List.lookup_cons] at h
    cases hx : x == y with
    | true => rw [hx] at h; cases h; rw [beq_iff_eq.mp hx]; exact List.mem_cons_self
    | false => rw [hx] at h; exact List.mem_cons_of_mem _ (ih h)
theorem lookup_mem {bl : BL} {x : Addr} {vs : List V} (nd : (bl.map (·.1)).Nodup) : (x, vs) ∈ bl → bl.lookup x = some vs := by
  induction bl with
  | nil => intro h; cases h
  | cons q bl ih =>
    obtain ⟨y, ws⟩ := q
    intro h
    rw [List.map_cons, List.nodup_cons] at nd
    rw [List.lookup_cons]
    rcases List.mem_cons.mp h with e | h
    · cases e; simp
    · have hx : (x == y) = false := by
        rw [beq_eq_false_iff_ne]
        intro z
        exact nd.1 (z ▸ List.mem_map.mpr ⟨_, h, rfl⟩)
      rw [hx]; exact ih nd.2 h
theorem lookup_none {bl : BL} {x : Addr} (h : x ∉ bl.map (·.1)) : bl.lookup x = none := by
  cases e : bl.lookup x with
  | none => rfl
  | some vs => exact absurd (List.mem_map.mpr ⟨_, lookup_some e, rfl⟩) h
section
variable {X : Cx} {g : G} {W : WX} {P : Par} {σ : L2.St} {H F : Hp} {st : DSt} {e : Expr} {s : Stmt}
/-- p and the lists in it belong to nobody -/
structure SR2 (g : G) (P : Par) (σ : L2.St) (H F : Hp) (st : DSt) (p : Addr) (bl : BL) : Prop where
  ex : ∃ O, SRc g P O σ H F st ∧ (O p = none ∧ F p = none ∧ P.R p = none ∧ ¬ P.N p) ∧ ∀ b ∈ bl.map (·.1), O b = none ∧ F b = none ∧ P.R b = none ∧ ¬ P.N b
  at_ : H p = some (.lst (refs bl))
  nd : (bl.map (·.1)).Nodup
  np : p ∉ bl.map (·.1)
  it : ∀ q ∈ bl, H q.1 = some (.lst q.2)
def OutN2 (g : G) (W : WX) (P : Par) (σ : L2.St) (F : Hp) (r : Res (List (List D))) (Q : VK) : Prop := match r with
  | .ok dss st' => ∀ H' F' p bl, Same F F' → SR2 g P σ H' F' st' p bl → RL2 g F' bl dss → Q (.ref p) H'
  | .exn c fs st' => ∀ cls dd H' F', Same F F' → SR g P σ H' F' st' → RepX g F' H' c fs cls dd → W cls dd σ H'
  | .stuck => False
def tN2 (g : G) (W : WX) (f : Den (List (List D))) : TE := fun σ H Q => ∃ P F st, SR g P σ H F st ∧ OutN2 g W P σ F (f st) Q
theorem OutN2.weak {r : Res (List (List D))} {Q : VK} {F' : Hp} (e : Same F F') (h : OutN2 g W P σ F r Q) : OutN2 g W P σ F' r Q := by
  cases r with
  | ok a st' => exact fun H' F2 p bl e2 s => h H' F2 p bl (e.trans e2) s
  | exn c fs st' => exact fun cls dd H' F2 e2 s => h cls dd H' F2 (e.trans e2) s
  | stuck => exact h
theorem OutN2.bind {α : Type} {a : Den α} {ff : α → Den (List (List D))} {Q : VK} (h : OutN2 g W P σ F (bindD a ff st) Q) : Out g W P σ F (a st) (fun x st1 _ F1 => OutN2 g W P σ F1 (ff x st1) Q) := by
  unfold bindD at h
  revert h
  cases a st with
  | ok x st' => exact fun h H' F' e s => OutN2.weak e h
  | exn c fs st' => exact fun h => h
  | stuck => exact fun h => h
/-- the guard holds what it guards -/
theorem gd2_at {D : Addr} {bl : BL} (s : SR g (gd2 P D bl) σ H F st) (nd : (bl.map (·.1)).Nodup) (np : D ∉ bl.map (·.1)) : H D = some (.lst (refs bl)) ∧ ∀ q ∈ bl, H q.1 = some (.lst q.2) := by
  obtain ⟨O, c⟩ := s
  refine ⟨c.rr D _ (by show (if D = D then _ else _) = _; rw [if_pos rfl]), fun q hq => c.rr q.1 _ ?_⟩
  have hne : q.1 ≠ D := fun z => np (z ▸ List.mem_map.mpr ⟨_, hq, rfl⟩)
  show (if q.1 = D then _ else _) = _
  rw [if_neg hne, lookup_mem (x := q.1) (vs := q.2) nd hq]
theorem gd2_own {D : Addr} {bl : BL} {O : Addr → Option Nat} (c : SRc g (gd2 P D bl) O σ H F st) {b : Addr} {i : Nat} (h : O b = some i) : b ≠ D ∧ b ∉ bl.map (·.1) ∧ P.R b = none := by
  have q := (c.oo b i h).2.1
  have q : (if b = D then some (HO.lst (refs bl)) else match bl.lookup b with
    | some vs => some (.lst vs)
    | none => P.R b) = none := q
  by_cases hb : b = D
  · rw [if_pos hb] at q; cases q
  · rw [if_neg hb] at q
    refine ⟨hb, fun hm => ?_, ?_⟩
    · cases e : bl.lookup b with
      | some vs => rw [e] at q; cases q
      | none =>
        obtain ⟨⟨b', vs⟩, hq, rfl⟩ := List.mem_map.mp hm
        have : ∀ bl : BL, (b', vs) ∈ bl → bl.lookup b' ≠ none := by
          intro bl
          induction bl with
          | nil => intro h; cases h
          | cons q bl ih =>
            obtain ⟨y, ws⟩ := q
            intro h
            rw [List.lookup_cons]
            cases hx : b' == y with
            | true => simp
            | false =>
              rcases List.mem_cons.mp h with e | h
              · cases e; simp at hx
              · exact ih h
        exact this bl hq e
    · cases e : bl.lookup b with
      | some vs => rw [e] at q; cases q
      | none => rw [e] at q; exact q
theorem gd2_start {D : Addr} (s : SR g P σ H F st) (h : H D = none) : SR g (gd2 P D []) σ (upd H D (.lst [])) F st := by
  obtain ⟨O, c, o0, f0, r0, n0⟩ := s.newx (o := .lst []) h
  refine ⟨O, c.le, fun b u e => ?_, fun b i e => ⟨(c.oo b i e).1, ?_, (c.oo b i e).2.2⟩, fun b n => ?_, c.len, fun i s ov e1 e2 => ?_⟩
  · have e : (if b = D then some (HO.lst (refs [])) else P.R b) = some u := e
    by_cases hb : b = D
    · subst hb; rw [if_pos rfl] at e; rw [← e]; exact upd_same
    · rw [if_neg hb] at e; exact c.rr b u e
  · have hb : b ≠ D := fun z => by rw [z, o0] at e; cases e
    show (if b = D then some (HO.lst (refs [])) else P.R b) = none
    rw [if_neg hb]; exact (c.oo b i e).2.1
  · rcases n with n | rfl | n
    · exact c.no b n
    · exact ⟨f0, NT.of upd_same⟩
    · cases n
  · exact (c.sl i s ov e1 e2).move rfl (fun _ h => h) (Same.refl _) (fun _ _ _ h => h) fun b o n z => by
      rcases z with z | z | z
      · exact n z
      · rw [z, o0] at o; cases o
      · cases z
theorem gd2_step {D p : Addr} {bl : BL} {vs : List V} (s : SRx g (gd2 P D bl) σ H F st p) (hp : H p = some (.lst vs)) (nd : (bl.map (·.1)).Nodup) (np : D ∉ bl.map (·.1)) :
    SR g (gd2 P D (bl ++ [(p, vs)])) σ (upd H D (.lst (refs bl ++ [.ref p]))) F st ∧ ((bl ++ [(p, vs)]).map (·.1)).Nodup ∧ D ∉ (bl ++ [(p, vs)]).map (·.1) := by
  obtain ⟨O, c, o0, f0, r0, n0⟩ := s
  have hpD : p ≠ D := fun z => n0 (.inr (.inl z))
  have hpb : p ∉ bl.map (·.1) := fun z => n0 (.inr (.inr z))
  have fD := (c.no D (.inr (.inl rfl))).1
  have e1 : refs (bl ++ [(p, vs)]) = refs bl ++ [.ref p] := by simp [refs]
  refine ⟨⟨O, fun b u e => ?_, fun b u e => ?_, fun b i e => ?_, fun b n => ?_, c.len, fun i s ov e1 e2 => ?_⟩, ?_, ?_⟩
  · rw [upd_ne (fun z => by rw [z, fD] at e; cases e)]; exact c.le b u e
  · have e : (if b = D then some (HO.lst (refs (bl ++ [(p, vs)]))) else match (bl ++ [(p, vs)]).lookup b with
      | some vs => some (.lst vs)
      | none => P.R b) = some u := e
    by_cases hb : b = D
    · subst hb; rw [if_pos rfl, e1] at e; rw [← e]; exact upd_same
    · rw [if_neg hb] at e
      rw [upd_ne hb]
      by_cases hbp : b = p
      · subst hbp
        have : (bl ++ [(b, vs)]).lookup b = some vs := by
          rw [List.lookup_append, lookup_none hpb]
          simp
        rw [this] at e
        rw [hp]; exact e
      · have : (bl ++ [(p, vs)]).lookup b = bl.lookup b := by
          rw [List.lookup_append]
          have : List.lookup b [(p, vs)] = none := by
            rw [List.lookup_cons]
            have : (b == p) = false := by rw [beq_eq_false_iff_ne]; exact hbp
            rw [this]; rfl
          rw [this]
          cases bl.lookup b <;> rfl
        rw [this] at e
        exact c.rr b u (by show (if b = D then _ else _) = _; rw [if_neg hb]; exact e)
  · obtain ⟨h1, h2, h3⟩ := gd2_own c e
    have hbp : b ≠ p := fun z => by rw [z, o0] at e; cases e
    refine ⟨(c.oo b i e).1, ?_, NT.upd h1 (c.oo b i e).2.2⟩
    show (if b = D then _ else _) = _
    rw [if_neg h1, lookup_none (by simp [h2, hbp])]
    exact h3
  · refine ⟨?_, ?_⟩
    · rcases n with n | n | n
      · exact (c.no b (.inl n)).1
      · exact (c.no b (.inr (.inl n))).1
      · rw [List.map_append, List.mem_append] at n
        rcases n with n | n
        · exact (c.no b (.inr (.inr n))).1
        · have : b = p := by simpa using n
          rw [this]; exact f0
    · by_cases hb : b = D
      · subst hb; exact NT.of upd_same
      · refine NT.upd hb ?_
        rcases n with n | n | n
        · exact (c.no b (.inl n)).2
        · exact absurd n hb
        · rw [List.map_append, List.mem_append] at n
          rcases n with n | n
          · exact (c.no b (.inr (.inr n))).2
          · have : b = p := by simpa using n
            rw [this]; exact NT.of hp
  · exact (c.sl i s ov e1 e2).move rfl (fun _ h => h) (Same.refl _) (fun b o ho h => by rw [upd_ne (gd2_own c ho).1]; exact h) fun b o n z => by
      rcases z with z | z | z
      · exact n (.inl z)
      · exact n (.inr (.inl z))
      · rw [List.map_append, List.mem_append] at z
        rcases z with z | z
        · exact n (.inr (.inr z))
        · have : b = p := by simpa using z
          rw [this, o0] at o; cases o
  · rw [List.map_append, List.nodup_append]
    refine ⟨nd, by simp, fun a ha b hb => ?_⟩
    have : b = p := by simpa using hb
    rw [this]; intro z; exact hpb (z ▸ ha)
  · rw [List.map_append, List.mem_append]
    intro z
    rcases z with z | z
    · exact np z
    · have : D = p := by simpa using z
      exact hpD this.symm
theorem gd2_end {D : Addr} {bl : BL} {H0 F0 : Hp} {st0 : DSt} {vs : List Nat} (s : SR g (gd2 P D bl) (L2.wipe σ vs) H F st) (s0 : SR g P σ H0 F0 st0) (h0 : H0 D = none) (hb0 : ∀ b ∈ bl.map (·.1), P.R b = none ∧ ¬ P.N b) (le : Same F0 F) (hl : st.length = st0.length) (hp : vs.all (plainAt st0) = true)
    (nd : (bl.map (·.1)).Nodup) (np : D ∉ bl.map (·.1)) : SR2 g P σ H F (backD st0 st vs) D bl := by
  obtain ⟨a1, a2⟩ := gd2_at s nd np
  obtain ⟨O, c⟩ := s
  have fresh : ∀ b, H0 b = none → P.R b = none ∧ ¬ P.N b := fun b h => by
    obtain ⟨_, _, _, _, r0, n0⟩ := s0.newx (o := .lst []) h
    exact ⟨r0, n0⟩
  have on : ∀ b, (b = D ∨ b ∈ bl.map (·.1)) → O b = none := fun b hb => by
    cases e : O b with
    | none => rfl
    | some i =>
      obtain ⟨h1, h2, _⟩ := gd2_own c e
      rcases hb with hb | hb
      · exact absurd hb h1
      · exact absurd hb h2
  refine ⟨⟨O, ⟨c.le, fun b u e => ?_, fun b i e => ⟨(c.oo b i e).1, (gd2_own c e).2.2, (c.oo b i e).2.2⟩, fun b n => c.no b (.inl n), ?_, fun i sl ov e1 e2 => ?_⟩, ⟨on D (.inl rfl), (c.no D (.inr (.inl rfl))).1, (fresh D h0).1, (fresh D h0).2⟩,
    fun b hb => ⟨on b (.inr hb), (c.no b (.inr (.inr hb))).1, (hb0 b hb).1, (hb0 b hb).2⟩⟩, a1, nd, np, a2⟩
  · have hb : b ≠ D := fun z => by rw [z, (fresh D h0).1] at e; cases e
    have hbl : b ∉ bl.map (·.1) := fun z => by rw [(hb0 b z).1] at e; cases e
    refine c.rr b u ?_
    show (if b = D then _ else _) = _
    rw [if_neg hb, lookup_none hbl]
    exact e
  · rw [backD_length]
    have := c.len
    rw [wipe_length] at this
    exact this
  · by_cases hi : i ∈ vs
    · have es := backD_in hi sl e1
      have hpl := List.all_eq_true.mp hp i hi
      unfold plainAt at hpl
      cases e0 : st0[i]? with
      | none => rw [e0] at es; subst es; trivial
      | some s0' =>
        rw [e0] at es hpl
        simp only [Option.getD_some] at es
        subst es
        cases sl with
        | no => trivial
        | sh d =>
          obtain ⟨O0, c0⟩ := s0
          obtain ⟨v, ev, r⟩ := c0.sl i _ ov e0 e2
          exact ⟨v, ev, r.mono le⟩
        | _ => cases hpl
    · rw [backD_out hi] at e1
      exact (c.sl i sl ov e1 (by rw [wipe_out hi]; exact e2)).move rfl (fun _ h => h) (Same.refl _) (fun _ _ _ h => h) fun _ _ n z => n (.inl z)
theorem setT_length {t : Tg} {d : D} {st st' : DSt} (h : setT t d st = some st') : st'.length = st.length := by
  have key : ∀ is ds (st st' : DSt), setAll is ds st = some st' → st'.length = st.length := by
    intro is
    induction is with
    | nil => intro ds st st' e; cases ds with | nil => cases e; rfl | cons d ds => cases e
    | cons i is ih =>
      intro ds st st' e
      cases ds with
      | nil => cases e
      | cons d ds =>
        unfold setAll at e
        split at e
        · rename_i sti hsi
          obtain ⟨_, rfl⟩ := slotSet_some hsi
          rw [ih _ _ _ e, List.length_set]
        · cases e
  unfold setT at h
  cases t with
  | nm i => obtain ⟨_, rfl⟩ := slotSet_some h; rw [List.length_set]
  | nms is =>
    cases d with
    | tup ds => exact key _ _ _ _ h
    | _ => cases h
theorem comp2_imp {vs : List Nat} {t : Tg} {fi : Den (List D)} {elt : Den (List D)} {Q : VK} (hv : ∀ i ∈ t.is, i ∈ vs) (q : tN2 g W (dComp2 vs t fi elt) σ H Q) :
    tLc (tI g W fi) (tG g t) (tT g WN dYes) (tN g WN elt) vs σ H Q := by
  obtain ⟨P, F, st, s, o⟩ := q
  refine ⟨P, F, st, s, OutN2.bind o |>.imp fun ds st1 H1 F1 le1 s1 o1 J wk D hD => ?_⟩
  split at o1
  · rename_i hc
    obtain ⟨hbig, hpl⟩ := hc
    refine ⟨fun i m H => m = ds.length - i ∧ i ≤ ds.length ∧ ∃ F' st' bl acc, Same F1 F' ∧ SR g (gd2 P D bl) (L2.wipe σ vs) H F' st' ∧ RL2 g F' bl acc ∧ acc.length ≤ i ∧ st'.length = st1.length ∧ (bl.map (·.1)).Nodup ∧ D ∉ bl.map (·.1) ∧ (∀ b ∈ bl.map (·.1), P.R b = none ∧ ¬ P.N b) ∧
      ∃ ys stE, compGo2 vs t elt (ds.drop i) st' = .ok ys stE ∧ compGo2 vs t elt ds (wipeD st1 vs) = .ok (acc ++ ys) stE, ?_, ?_⟩
    · split at o1
      · rename_i ys stE hgo
        exact ⟨ds.length, by simp, Nat.zero_le _, F1, wipeD st1 vs, [], [], Same.refl _, gd2_start (s1.wipe vs) hD, ⟨rfl, fun j q es e1 _ => by simp at e1⟩, Nat.zero_le _, wipeD_length _ _, .nil, by simp, by simp, ys, stE, by simpa using hgo, by simpa using hgo⟩
      · exact o1.elim
    · rintro i m H2 ⟨rfl, hi, F', st', bl, acc, le, s', racc, hacc, hlen, nd, np, hR, ys, stE, hgo, hall⟩
      by_cases hlt : i < ds.length
      · obtain ⟨d0, hd0⟩ : ∃ d, ds[i]? = some d := ⟨ds[i], List.getElem?_eq_getElem hlt⟩
        have hdr : ds.drop i = d0 :: ds.drop (i + 1) := by
          rw [List.drop_eq_getElem_cons hlt]
          have := List.getElem?_eq_getElem hlt
          rw [hd0] at this; rw [← Option.some.inj this]
        rw [hdr] at hgo
        refine .inr ⟨wk.go i H2 (le.trans s'.le) hlt, fun H => ∃ F' st' bl acc, Same F1 F' ∧ SR g (gd2 P D bl) (L2.wipe σ vs) H F' st' ∧ RL2 g F' bl acc ∧ acc.length ≤ i + 1 ∧ st'.length = st1.length ∧ (bl.map (·.1)).Nodup ∧ D ∉ bl.map (·.1) ∧ (∀ b ∈ bl.map (·.1), P.R b = none ∧ ¬ P.N b) ∧
          ∃ ys stE, compGo2 vs t elt (ds.drop (i + 1)) st' = .ok ys stE ∧ compGo2 vs t elt ds (wipeD st1 vs) = .ok (acc ++ ys) stE, fun H' nx => ⟨ds.length - (i + 1), by omega, rfl, hlt, nx⟩, fun x H' y => ?_⟩
        obtain ⟨d, hd, yy⟩ := wk.yld i H2 x H' (le.trans s'.le) hlt y
        obtain ⟨F', le2, s', rd⟩ := s'.yl le yy
        have le := le.trans le2
        have racc := racc.mono le2
        rw [hd0] at hd; cases hd
        unfold compGo2 at hgo
        cases hset : setT t d0 st' with
        | none => rw [hset] at hgo; cases hgo
        | some st2 =>
          rw [hset] at hgo
          refine ⟨gd2 P D bl, F', st', d0, s', rd, st2, hset, fun xs s2 => ⟨?_, ?_⟩⟩
          · rw [wipe_setσ hv, wipe_wipe]
          · refine ⟨gd2 P D bl, F', st2, s2, fun H3 F3 le3 s3 => ?_⟩
            show (if true = true then _ else _)
            rw [if_pos rfl]
            refine ⟨gd2 P D bl, F3, st2, s3, ?_⟩
            simp only at hgo
            revert hgo
            cases elt st2 with
            | ok y st4 =>
              intro hgo H4 F4 p vs4 le4 s4 hp4 rv
              simp only at hgo
              have hD4 := (gd2_at s4.sr nd np).1
              have hb : big = sizeLine := big_eq
              have hlb : (refs bl).length = acc.length := by simp [refs, racc.len]
              have hfresh : P.R p = none ∧ ¬ P.N p := by
                obtain ⟨O, c, o0, f0, r0, n0⟩ := s4
                have hpD : p ≠ D := fun z => n0 (.inr (.inl z))
                have hpb : p ∉ bl.map (·.1) := fun z => n0 (.inr (.inr z))
                have r1 : (if p = D then some (HO.lst (refs bl)) else match bl.lookup p with
                  | some vs => some (.lst vs)
                  | none => P.R p) = none := r0
                rw [if_neg hpD, lookup_none hpb] at r1
                exact ⟨r1, fun z => n0 (.inl z)⟩
              have s5 : SRx g (gd2 P D bl) (L2.wipe σ vs) H4 F4 (wipeD st4 vs) p := by
                obtain ⟨O, c, rest⟩ := s4
                obtain ⟨O2, c2⟩ : ∃ O2, SRc g (gd2 P D bl) O2 (L2.wipe (setσ t.is xs (L2.wipe σ vs)) vs) H4 F4 (wipeD st4 vs) ∧ O2 = O := by
                  refine ⟨O, ⟨c.le, c.rr, c.oo, c.no, by rw [wipe_length, wipeD_length]; exact c.len, fun i s ov e1 e2 => ?_⟩, rfl⟩
                  by_cases hi : i ∈ vs
                  · rw [wipeD_in hi s e1]; trivial
                  · rw [wipeD_out hi] at e1
                    rw [wipe_out hi] at e2
                    exact c.sl i s ov e1 e2
                obtain ⟨c2, rfl⟩ := c2
                rw [wipe_setσ hv, wipe_wipe] at c2
                exact ⟨_, c2, rest⟩
              obtain ⟨g1, g2, g3⟩ := gd2_step s5 hp4 nd np
              refine ⟨refs bl, hD4, by rw [hlb, ← hb]; omega, F4, wipeD st4 vs, bl ++ [(p, vs4)], acc ++ [y], (le.trans le3).trans le4, g1, (racc.mono (le3.trans le4)).snoc rv, by simp; omega, ?_, g2, g3, fun b hb => ?_, ?_⟩
              · rw [wipeD_length]
                have a1 := s4.sr.len
                have a2 := s2.len
                have a4 := setT_length hset
                omega
              · rw [List.map_append, List.mem_append] at hb
                rcases hb with hb | hb
                · exact hR b hb
                · have : b = p := by simpa using hb
                  rw [this]; exact hfresh
              · revert hgo
                cases hr : compGo2 vs t elt (ds.drop (i + 1)) (wipeD st4 vs) with
                | ok ys' st5 =>
                  intro hgo
                  simp only at hgo
                  cases hgo
                  exact ⟨ys', _, rfl, by rw [List.append_assoc]; exact hall⟩
                | exn c fs st5 => intro hgo; cases hgo
                | stuck => intro hgo; cases hgo
            | exn c fs st4 => intro hgo; cases hgo
            | stuck => intro hgo; cases hgo
      · have e : i = ds.length := by omega
        subst e
        rw [List.drop_length] at hgo
        cases hgo
        refine .inl ⟨wk.stop H2 (le.trans s'.le), ?_⟩
        rw [hall] at o1
        rw [List.append_nil] at o1
        exact o1 H2 F' D bl le (gd2_end s' s1 hD hR le hlen hpl nd np) racc
  · exact o1.elim
def putD2 (i : Nat) (dss : List (List D)) : DS := fun st => match slotSet i (.o2 dss) st with
  | some st' => .ok .nx st'
  | none => .stuck
@[simp] def sOwn2 (i : Nat) (f : Den (List (List D))) : DS := bindD f fun dss => putD2 i dss
theorem SR2.own {p : Addr} {i : Nat} {bl : BL} {dss : List (List D)} (s : SR2 g P σ H F st p bl) (r : RL2 g F bl dss) (hi : i < st.length) : SR g P (σ.set i (some (.ref p))) H F (st.set i (.o2 dss)) := by
  obtain ⟨⟨O, c, ⟨o0, f0, r0, n0⟩, hb⟩, hp, nd, np, it⟩ := s
  refine ⟨fun b => if b = p ∨ b ∈ bl.map (·.1) then some i else if O b = some i then none else O b, c.le, c.rr, fun b j e => ?_, c.no, by rw [List.length_set, List.length_set]; exact c.len, fun j s ov e1 e2 => ?_⟩
  · by_cases hq : b = p ∨ b ∈ bl.map (·.1)
    · rcases hq with rfl | hq
      · exact ⟨f0, r0, NT.of hp⟩
      · obtain ⟨q, hq1, rfl⟩ := List.mem_map.mp hq
        exact ⟨(hb _ hq).2.1, (hb _ hq).2.2.1, NT.of (it q hq1)⟩
    · simp only [if_neg hq] at e
      by_cases ho : O b = some i
      · simp [ho] at e
      · simp only [if_neg ho] at e; exact c.oo b j e
  · by_cases hj : j = i
    · subst hj
      rw [List.getElem?_set_self hi] at e1
      rw [List.getElem?_set_self (by rw [c.len]; exact hi)] at e2
      cases e1; cases e2
      refine ⟨p, bl.map (·.1), rfl, by simp, n0, by rw [hp]; simp [refs], nd, np, by simp [r.len], fun k b ds e1 e2 => ?_⟩
      rw [List.getElem?_map] at e1
      cases hk : bl[k]? with
      | none => rw [hk] at e1; cases e1
      | some q =>
        rw [hk] at e1
        have e1 : q.1 = b := Option.some.inj e1
        have hm : q ∈ bl := List.mem_of_getElem? hk
        have hm2 : b ∈ bl.map (·.1) := e1 ▸ List.mem_map.mpr ⟨q, hm, rfl⟩
        refine ⟨by simp only [if_pos (Or.inr hm2)], (hb b hm2).2.2.2, q.2, by rw [← e1]; exact it q hm, r.at_ k q ds hk e2⟩
    · rw [List.getElem?_set_ne (Ne.symm hj)] at e1 e2
      exact (c.sl j s ov e1 e2).move rfl (fun b o => by
        have h1 : ¬ (b = p ∨ b ∈ bl.map (·.1)) := fun z => by
          rcases z with rfl | z
          · rw [o0] at o; cases o
          · rw [(hb b z).1] at o; cases o
        simp only [if_neg h1]
        rw [if_neg (by rw [o]; intro z; exact hj (Option.some.inj z))]; exact o) (Same.refl _) (fun _ _ _ h => h) fun _ _ h => h
theorem es_own2 {i : Nat} {vs : List Nat} {t : Tg} {fi : Den (List D)} {elt : Den (List D)} (he : PS X s (tAsg (tLc (tI g W fi) (tG g t) (tT g WN dYes) (tN g WN elt) vs) (gName i))) (hv : ∀ i ∈ t.is, i ∈ vs := by decide) : PS X s (tS g W (sOwn2 i (dComp2 vs t fi elt))) :=
  (he.imp fun E σ H q => comp2_imp (Q := fun x H1 => gName i x σ H1 E.nx) hv q).imp fun E σ H ⟨P, F, st, s, o⟩ => by
    refine ⟨P, F, st, s, ?_⟩
    unfold sOwn2 at o
    have o : OutS g W P F (bindD (dComp2 vs t fi elt) (fun dss => putD2 i dss) st) E := o
    unfold bindD at o
    revert o
    cases dComp2 vs t fi elt st with
    | ok dss st' =>
      intro o H' F' p bl le s2 r
      have o : OutS g W P F (putD2 i dss st') E := o
      unfold putD2 at o
      split at o
      · rename_i st2 h
        obtain ⟨hi, rfl⟩ := slotSet_some h
        exact o _ H' F' le (s2.own r hi)
      · exact o.elim
    | exn c fs st' => exact fun o cls dd H' F' e s => o cls dd σ H' F' e s
    | stuck => exact fun o => o
end
end DL
namespace DL
open PySem PySem.Spec PyProof.Rows L2
theorem nodup_inj {α : Type} {l : List α} (nd : l.Nodup) {i j : Nat} (hi : i < l.length) (hj : j < l.length) (h : l[i] = l[j]) : i = j := by
  have p := List.pairwise_iff_getElem.mp nd
  rcases Nat.lt_trichotomy i j with q | q | q
  · exact absurd h (p i j hi hj q)
  · exact q
  · exact absurd h.symm (p j i hj hi q)
/-- no exception leaves -/
@[simp] def noX {α : Type} (a : Den α) : Den α := fun st => match a st with
  | .exn _ _ _ => .stuck
  | r => r
/-- the lists of a slot out of sight, guarded -/
def P2 (P : Par) (H : Hp) (a : Addr) (bs : List Addr) : Par := ⟨P.B, fun x => if x = a ∨ x ∈ bs then H x else P.R x, fun x => P.N x ∨ x = a ∨ x ∈ bs⟩
section
variable {X : Cx} {g : G} {W : WX} {P : Par} {σ : L2.St} {H F : Hp} {st : DSt} {e : Expr} {s : Stmt} {f h k : Den D}
theorem SR.hide {i : Nat} {dss : List (List D)} (s : SR g P σ H F st) (h : st[i]? = some (.o2 dss)) : ∃ a bs, σ[i]? = some (some (.ref a)) ∧ H a = some (.lst (bs.map V.ref)) ∧ bs.length = dss.length ∧
    (∀ (j : Nat) (b : Addr) (ds : List D), bs[j]? = some b → dss[j]? = some ds → ∃ vs, H b = some (.lst vs) ∧ Rl g F vs ds) ∧ SR g (P2 P H a bs) σ H F (st.set i .no) ∧
    ∀ (H' F' : Hp) (st' : DSt), Same F F' → SR g (P2 P H a bs) σ H' F' st' → st'[i]? = some .no → (∀ x, (x = a ∨ x ∈ bs) → H' x = H x) ∧ SR g P σ H' F' (st'.set i (.o2 dss)) ∧
      ∀ (j : Nat) (b : Addr) (ds' : List D) (vs' : List V), bs[j]? = some b → Rl g F' vs' ds' → SR g P σ (upd H' b (.lst vs')) F' (st'.set i (.o2 (dss.set j ds'))) := by
  obtain ⟨ov, hov⟩ := SRc.nth s h
  obtain ⟨O, c⟩ := s
  obtain ⟨a, bs, rfl, ho, hn, ha, nd, na, hl, hr⟩ := c.sl i _ _ h hov
  have own : ∀ x, (x = a ∨ x ∈ bs) → O x = some i ∧ ¬ P.N x := fun x hx => by
    rcases hx with rfl | hx
    · exact ⟨ho, hn⟩
    · obtain ⟨j, hj, e⟩ := List.getElem_of_mem hx
      have e1 : bs[j]? = some x := by rw [List.getElem?_eq_getElem hj, e]
      obtain ⟨o, n, _⟩ := hr j x _ e1 (List.getElem?_eq_getElem (by rw [← hl]; exact hj))
      exact ⟨o, n⟩
  refine ⟨a, bs, hov, ha, hl, fun j b ds e1 e2 => (hr j b ds e1 e2).2.2, ?_, ?_⟩
  · refine ⟨fun x => if x = a ∨ x ∈ bs then none else O x, c.le, fun x o e => ?_, fun x j e => ?_, fun x n => ?_, by rw [List.length_set]; exact c.len, fun j s ov e1 e2 => ?_⟩
    · have e : (if x = a ∨ x ∈ bs then H x else P.R x) = some o := e
      by_cases hx : x = a ∨ x ∈ bs
      · rw [if_pos hx] at e; exact e
      · rw [if_neg hx] at e; exact c.rr x o e
    · by_cases hx : x = a ∨ x ∈ bs
      · simp [hx] at e
      · simp only [if_neg hx] at e
        refine ⟨(c.oo x j e).1, ?_, (c.oo x j e).2.2⟩
        show (if x = a ∨ x ∈ bs then H x else P.R x) = none
        rw [if_neg hx]; exact (c.oo x j e).2.1
    · rcases n with n | n
      · exact c.no x n
      · exact ⟨(c.oo x i (own x n).1).1, (c.oo x i (own x n).1).2.2⟩
    · by_cases hj : j = i
      · subst hj
        rw [List.getElem?_set_self (lt_of_get h)] at e1
        cases e1; trivial
      · rw [List.getElem?_set_ne (Ne.symm hj)] at e1
        have hx : ∀ x, O x = some j → ¬ (x = a ∨ x ∈ bs) := fun x o hx => hj (by rw [(own x hx).1] at o; exact (Option.some.inj o).symm)
        exact (c.sl j s ov e1 e2).move rfl (fun x o => by simp only [if_neg (hx x o)]; exact o) (Same.refl _) (fun _ _ _ h => h) fun x o n z => by
          rcases z with z | z
          · exact n z
          · exact hx x o z
  · rintro H' F' st' le ⟨O', c'⟩ hno
    have hR : ∀ x, (x = a ∨ x ∈ bs) → (P2 P H a bs).R x = H x := fun x hx => if_pos hx
    have hH : ∀ x, (x = a ∨ x ∈ bs) → H' x = H x := fun x hx => by
      obtain ⟨o, ho⟩ := (c.oo x i (own x hx).1).2.2.get
      rw [ho]
      exact c'.rr x o (by rw [hR x hx]; exact ho)
    have o0 : ∀ x, (x = a ∨ x ∈ bs) → O' x = none := fun x hx => by
      cases e : O' x with
      | none => rfl
      | some j =>
        have := (c'.oo x j e).2.1
        rw [hR x hx] at this
        exact absurd this (c.oo x i (own x hx).1).2.2.1
    have f0 : ∀ x, (x = a ∨ x ∈ bs) → F' x = none := fun x hx => (c'.no x (.inr hx)).1
    have r0 : ∀ x, (x = a ∨ x ∈ bs) → P.R x = none := fun x hx => (c.oo x i (own x hx).1).2.1
    have rr' : ∀ x o, P.R x = some o → (¬ (x = a ∨ x ∈ bs)) ∧ H' x = some o := fun x o e => by
      have hx : ¬ (x = a ∨ x ∈ bs) := fun hx => by rw [r0 x hx] at e; cases e
      exact ⟨hx, c'.rr x o (by show (if x = a ∨ x ∈ bs then H x else P.R x) = some o; rw [if_neg hx]; exact e)⟩
    -- the new owner map
    have key : ∀ (H2 : Hp) (dss2 : List (List D)), (∀ x, ¬ (x ∈ bs) → H2 x = H' x) → (∀ x, NT H' x → NT H2 x) → bs.length = dss2.length → (∀ (j : Nat) (b : Addr) (ds : List D), bs[j]? = some b → dss2[j]? = some ds → ∃ vs, H2 b = some (.lst vs) ∧ Rl g F' vs ds) →
        SR g P σ H2 F' (st'.set i (.o2 dss2)) := by
      intro H2 dss2 hout hne hl2 hrow
      have hxF : ∀ x o, F' x = some o → ¬ (x = a ∨ x ∈ bs) := fun x o e hx => by rw [f0 x hx] at e; cases e
      refine ⟨fun x => if x = a ∨ x ∈ bs then some i else if O' x = some i then none else O' x, fun x o e => ?_, fun x o e => ?_, fun x j e => ?_, fun x n => ?_, by rw [List.length_set]; exact c'.len, fun j s ov e1 e2 => ?_⟩
      · rw [hout x fun z => hxF x o e (.inr z)]; exact c'.le x o e
      · rw [hout x fun z => (rr' x o e).1 (.inr z)]; exact (rr' x o e).2
      · by_cases hx : x = a ∨ x ∈ bs
        · exact ⟨f0 x hx, r0 x hx, hne x (NT.move (c.oo x i (own x hx).1).2.2 fun u hu => by rw [hH x hx]; exact hu)⟩
        · simp only [if_neg hx] at e
          by_cases ho : O' x = some i
          · simp [ho] at e
          · simp only [if_neg ho] at e
            refine ⟨(c'.oo x j e).1, ?_, hne x (c'.oo x j e).2.2⟩
            have := (c'.oo x j e).2.1
            have : (if x = a ∨ x ∈ bs then H x else P.R x) = none := this
            rw [if_neg hx] at this; exact this
      · have := c'.no x (.inl n)
        exact ⟨this.1, hne x this.2⟩
      · by_cases hj : j = i
        · subst hj
          rw [List.getElem?_set_self (lt_of_get hno)] at e1
          cases e1
          rw [hov] at e2; cases e2
          refine ⟨a, bs, rfl, by simp, hn, by rw [hout a na, hH a (.inl rfl)]; exact ha, nd, na, hl2, fun j b ds e1 e2 => ?_⟩
          have hb := List.mem_of_getElem? e1
          exact ⟨by simp only [if_pos (Or.inr hb)], (own b (.inr hb)).2, hrow j b ds e1 e2⟩
        · rw [List.getElem?_set_ne (Ne.symm hj)] at e1
          have hx : ∀ x, O' x = some j → ¬ (x = a ∨ x ∈ bs) := fun x o hx => by rw [o0 x hx] at o; cases o
          exact (c'.sl j s ov e1 e2).move rfl (fun x o => by
            simp only [if_neg (hx x o)]
            rw [if_neg (by rw [o]; intro z; exact hj (Option.some.inj z))]; exact o) (Same.refl _) (fun x u o h => by rw [hout x fun z => hx x o (.inr z)]; exact h) fun _ _ n z => n (.inl z)
    refine ⟨hH, key H' dss (fun _ _ => rfl) (fun _ h => h) hl fun j b ds e1 e2 => ?_, fun j b ds' vs' hb rr => ?_⟩
    · obtain ⟨_, _, vs, h1, r1⟩ := hr j b ds e1 e2
      exact ⟨vs, by rw [hH b (.inr (List.mem_of_getElem? e1))]; exact h1, r1.mono le⟩
    · have hbm := List.mem_of_getElem? hb
      refine key _ _ (fun x hx => upd_ne fun z => hx (z ▸ hbm)) (fun x hx => ?_) (by rw [List.length_set]; exact hl) fun j2 b2 ds2 e1 e2 => ?_
      · by_cases hz : x = b
        · subst hz; exact NT.of upd_same
        · exact NT.upd hz hx
      · by_cases hjj : j2 = j
        · subst hjj
          rw [hb] at e1
          cases e1
          rw [List.getElem?_set_self (by rw [← hl]; exact lt_of_get hb)] at e2
          cases e2
          exact ⟨vs', upd_same, rr⟩
        · rw [List.getElem?_set_ne (Ne.symm hjj)] at e2
          obtain ⟨_, _, vs, h1, r1⟩ := hr j2 b2 ds2 e1 e2
          have hbb : b2 ≠ b := fun z => by
            subst z
            have h1 := (List.getElem?_eq_some_iff.mp e1)
            have h2 := (List.getElem?_eq_some_iff.mp hb)
            obtain ⟨l1, q1⟩ := h1
            obtain ⟨l2, q2⟩ := h2
            exact hjj (nodup_inj nd l1 l2 (q1.trans q2.symm))
          exact ⟨vs, by rw [upd_ne hbb, hH b2 (.inr (List.mem_of_getElem? e1))]; exact h1, r1.mono le⟩
@[simp] def dO2 (i : Nat) : Den (List (List D)) := fun st => match st[i]? with
  | some (.o2 dss) => .ok dss st
  | _ => .stuck
@[simp] def hideD (i : Nat) : Den Unit := fun st => .ok () (st.set i .no)
@[simp] def backO (i : Nat) (dss : List (List D)) : Den Unit := fun st => match st[i]? with
  | some .no => .ok () (st.set i (.o2 dss))
  | _ => .stuck
@[simp] def rowAt {α : Type} (dss : List α) (k : D) : Option (Nat × α) := match k with
  | .int k => match ixN dss.length k with
    | some j => match dss[j]? with
      | some ds => some (j, ds)
      | none => none
    | none => none
  | _ => none
@[simp] def dIx2 (i : Nat) (e1 e2 : Den D) : Den D := bindD (dO2 i) fun _ => bindD e1 fun k1 => bindD (dO2 i) fun dss => bindD (liftO (rowAt dss k1)) fun r => bindD (hideD i) fun _ => bindD (noX e2) fun k2 => bindD (backO i dss) fun _ => liftO (match rowAt r.2 k2 with | some q => some q.2 | none => none)
@[simp] def sStore2 (i : Nat) (e1 e2 e : Den D) : DS := bindD e fun v => bindD (dO2 i) fun _ => bindD e1 fun k1 => bindD (dO2 i) fun dss => bindD (liftO (rowAt dss k1)) fun r => bindD (hideD i) fun _ => bindD (noX e2) fun k2 =>
  bindD (liftO (rowAt r.2 k2)) fun q => bindD (backO i (dss.set r.1 (r.2.set q.1 v))) fun _ => retD .nx
theorem dO2_ok {i : Nat} {α : Type} {kk : List (List D) → Den α} {K : α → DSt → Hp → Hp → Prop} (o : Out g W P σ F (bindD (dO2 i) kk st) K) : ∃ dss, st[i]? = some (.o2 dss) ∧ Out g W P σ F (kk dss st) K := by
  unfold bindD dO2 at o
  cases e : st[i]? with
  | none => rw [e] at o; exact o.elim
  | some sl =>
    rw [e] at o
    cases sl with
    | o2 dss => exact ⟨dss, rfl, o⟩
    | _ => exact o.elim
theorem rowAt_some {α : Type} {dss : List α} {k : D} {r : Nat × α} (h : rowAt dss k = some r) : ∃ z, k = .int z ∧ ixN dss.length z = some r.1 ∧ dss[r.1]? = some r.2 := by
  unfold rowAt at h
  split at h
  · rename_i z
    split at h
    · rename_i j hj
      split at h
      · rename_i ds hd
        cases h
        exact ⟨z, rfl, hj, hd⟩
      · cases h
    · cases h
  · cases h
theorem atI_of {α : Type} {xs : List α} {z : Int} {j : Nat} {v : α} (h : ixN xs.length z = some j) (hv : xs[j]? = some v) : atI xs z = some v := by
  unfold atI
  rw [h]; exact hv
/-- the first index of two: the row -/
theorem row2 {i : Nat} {α : Type} {a0 : Addr} {k1 : D} {v1 : V} (s : SR g P σ H F st) (hv0 : σ[i]? = some (some (.ref a0))) (rv1 : Rv g F v1 k1) {kk : List (List D) → Nat × List D → Den α} {K : α → DSt → Hp → Hp → Prop}
    (o : Out g W P σ F (bindD (dO2 i) (fun dss => bindD (liftO (rowAt dss k1)) fun r => kk dss r) st) K) :
    ∃ (dss : List (List D)) (bs : List Addr) (b : Addr) (vs : List V) (r : Nat × List D) (z1 : Int), st[i]? = some (.o2 dss) ∧ v1 = .int z1 ∧ dss[r.1]? = some r.2 ∧ bs[r.1]? = some b ∧ H b = some (.lst vs) ∧ Rl g F vs r.2 ∧ SqL g.K H a0 (bs.map V.ref) ∧ atI (bs.map V.ref) z1 = some (.ref b) ∧
      SR g (P2 P H a0 bs) σ H F (st.set i .no) ∧ Out g W P σ F (kk dss r st) K ∧ ∀ (H' F' : Hp) (st' : DSt), Same F F' → SR g (P2 P H a0 bs) σ H' F' st' → st'[i]? = some .no → H' b = H b ∧ SR g P σ H' F' (st'.set i (.o2 dss)) ∧
        ∀ (ds' : List D) (vs' : List V), Rl g F' vs' ds' → SR g P σ (upd H' b (.lst vs')) F' (st'.set i (.o2 (dss.set r.1 ds'))) := by
  obtain ⟨dss, hst, o2⟩ := dO2_ok o
  obtain ⟨a, bs, hv, ha, hl, hrow, s2, back⟩ := s.hide hst
  rw [hv0] at hv; cases hv
  cases er : rowAt dss k1 with
  | none => simp only [er, bindD, liftO] at o2; exact o2.elim
  | some r =>
    simp only [er, bindD, liftO] at o2
    obtain ⟨z1, rfl, hj, hd⟩ := rowAt_some er
    cases rv1
    obtain ⟨b, hb⟩ : ∃ b, bs[r.1]? = some b := ⟨bs[r.1]'(by rw [hl]; exact lt_of_get hd), List.getElem?_eq_getElem _⟩
    obtain ⟨vs, hbv, rvs⟩ := hrow r.1 b r.2 hb hd
    refine ⟨dss, bs, b, vs, r, z1, hst, rfl, hd, hb, hbv, rvs, sqL_of ha, atI_of (by rw [List.length_map, hl]; exact hj) (by rw [List.getElem?_map, hb]; rfl), s2, o2, fun H' F' st' le s' hno => ?_⟩
    obtain ⟨h1, h2, h3⟩ := back H' F' st' le s' hno
    exact ⟨h1 b (.inr (List.mem_of_getElem? hb)), h2, fun ds' vs' rr => h3 r.1 b ds' vs' hb rr⟩
theorem es_store2 {i : Nat} (he : PS X s (tAsg (tE g W k) (gSub (tOp (rIx g.K) (tVar i) (tE g W f)) (tE g W h) rSetL))) : PS X s (tS g W (sStore2 i f h k)) := he.imp fun D σ H ⟨P, F, st, s, o⟩ =>
  ⟨P, F, st, s, o.bind.imp fun x st0 H0 F0 le0 s0 o0 v rx => by
    have o0 : Out g W P σ F0 (bindD (dO2 i) (fun _ => bindD f fun k1 => bindD (dO2 i) fun dss => bindD (liftO (rowAt dss k1)) fun r => bindD (hideD i) fun _ => bindD (noX h) fun k2 =>
      bindD (liftO (rowAt r.2 k2)) fun q => bindD (backO i (dss.set r.1 (r.2.set q.1 x))) fun _ => retD ()) st0) fun _ st' H' F' => D.nx σ H' := by
      revert o0
      simp only [bindD]
      cases dO2 i st0 with
      | ok a st1 =>
        simp only
        cases f st1 with
        | ok k1 st2 =>
          simp only
          cases dO2 i st2 with
          | ok dss st3 =>
            simp only
            cases (liftO (rowAt dss k1) : Den _) st3 with
            | ok r st4 =>
              simp only [hideD]
              cases noX h (st4.set i .no) with
              | ok k2 st5 =>
                simp only
                cases (liftO (rowAt r.2 k2) : Den _) st5 with
                | ok q st6 =>
                  simp only
                  cases backO i (dss.set r.1 (r.2.set q.1 x)) st6 with
                  | ok u st7 => exact fun o H' F' le s' => o σ H' F' le s'
                  | exn c fs st7 => exact fun o cls dd H' F' le s' rx => o cls dd σ H' F' le s' rx
                  | stuck => exact fun o => o
                | exn c fs st7 => exact fun o cls dd H' F' le s' rx => o cls dd σ H' F' le s' rx
                | stuck => exact fun o => o
              | exn c fs st7 => exact fun o cls dd H' F' le s' rx => o cls dd σ H' F' le s' rx
              | stuck => exact fun o => o
            | exn c fs st7 => exact fun o cls dd H' F' le s' rx => o cls dd σ H' F' le s' rx
            | stuck => exact fun o => o
          | exn c fs st7 => exact fun o cls dd H' F' le s' rx => o cls dd σ H' F' le s' rx
          | stuck => exact fun o => o
        | exn c fs st7 => exact fun o cls dd H' F' le s' rx => o cls dd σ H' F' le s' rx
        | stuck => exact fun o => o
      | exn c fs st7 => exact fun o cls dd H' F' le s' rx => o cls dd σ H' F' le s' rx
      | stuck => exact fun o => o
    obtain ⟨dss0, hst0, o1⟩ := dO2_ok o0
    obtain ⟨a0, bs0, hv0, _⟩ := s0.hide hst0
    refine ⟨_, hv0, P, F0, st0, s0, o1.bind.imp fun k1 st1 H1 F1 le1 s1 o1 v1 rv1 => ?_⟩
    obtain ⟨dss, bs, b, vs, r, z1, hst, rfl, hd, hb, hbv, rvs, hsq, hat, s2, o2, back⟩ := row2 s1 hv0 rv1 o1
    refine .inl ⟨a0, bs.map V.ref, z1, .ref b, rfl, rfl, hsq, hat, ?_⟩
    refine ⟨P2 P H1 a0 bs, F1, st1.set i .no, s2, ?_⟩
    revert o2
    simp only [bindD, hideD, noX]
    cases h (st1.set i .no) with
    | ok k2 st2 =>
      intro o5 H2 F2 le2 s3 v2 rv2
      simp only [liftO] at o5
      cases hq : rowAt r.2 k2 with
      | none => rw [hq] at o5; exact o5.elim
      | some q =>
        rw [hq] at o5
        simp only [backO] at o5
        cases hno : st2[i]? with
        | none => rw [hno] at o5; exact o5.elim
        | some sl =>
          rw [hno] at o5
          cases sl with
          | no =>
            obtain ⟨hH, _, put⟩ := back H2 F2 st2 le2 s3 hno
            obtain ⟨z2, rfl, hj2, hd2⟩ := rowAt_some hq
            cases rv2
            refine ⟨b, vs, z2, q.1, rfl, rfl, by rw [hH]; exact hbv, by rw [rvs.length]; exact hj2, ?_⟩
            exact o5 _ F2 le2 (put (r.2.set q.1 x) (vs.set q.1 v) ((rvs.mono le2).set ((rx.mono le1).mono le2) q.1))
          | _ => exact o5.elim
    | exn c fs st2 => exact fun o5 => o5.elim
    | stuck => exact fun o5 => o5.elim⟩
end
end DL
namespace PySem
end PySem
namespace L2
open PySem PySem.Spec PyProof.Rows
end L2
namespace DL
open PySem PySem.Spec PyProof.Rows L2
@[simp] def sRaise0 (c : Str) : DS := fun st => .exn c [] st
@[simp] def sRaise1 (c f : Str) (h : Den D) : DS := bindD h fun d => fun st => .exn c [(f, d)] st
section
variable {X : Cx} {g : G} {W : WX} {P : Par} {σ : L2.St} {H F : Hp} {st : DSt} {e : Expr} {s : Stmt} {ss : List Stmt} {f h : Den D} {t : Den Bool} {a b : DS}
/-- a field of the exception that the suite holds -/
@[simp] def dXf (i : Nat) (c f : Str) : Den D := fun st => match st[i]? with
  | some (.xc c' nm x) => if c' = c ∧ nm = f then .ok x st else .stuck
  | _ => .stuck
end
end DL
namespace DL
open PySem PySem.Spec PyProof.Rows L2
end DL
namespace DL
open PySem PySem.Spec PyProof.Rows L2
end DL
namespace DL
open PySem PySem.Spec PyProof.Rows L2
def ixF (p : D → Bool) : Nat → List D → Option Nat
  | _, [] => none
  | i, d :: ds => if p d then some i else ixF p (i + 1) ds
def ixP (p : PyData → Bool) : Nat → List PyData → Option Nat
  | _, [] => none
  | i, d :: ds => if p d then some i else ixP p (i + 1) ds
@[simp] def opIndex (x y : D) : Option D := match x with
  | .lst ds => if flatD y && ds.all flatD then (match ixF (fun z => eqF z y) 0 ds with | some j => some (.int (j : Nat)) | none => none) else
      match toPy y, toPys ds with
      | some p, some qs => if SeqAt.shaped p && SeqAt.shaped (.list qs) then (match ixP (fun z => PyData.eqv z p) 0 qs with | some j => some (.int (j : Nat)) | none => none) else none
      | _, _ => none
  | _ => none
theorem ixF_some {p : D → Bool} : ∀ {ds : List D} {i j : Nat}, ixF p i ds = some j → ∃ k z, j = i + k ∧ ds[k]? = some z ∧ p z = true ∧ ∀ m z', m < k → ds[m]? = some z' → p z' = false
  | d :: ds, i, j, h => by
    unfold ixF at h
    split at h
    · rename_i hp
      cases h
      exact ⟨0, d, rfl, rfl, hp, fun m z' hm => absurd hm (Nat.not_lt_zero _)⟩
    · rename_i hp
      obtain ⟨k, z, e, h1, h2, h3⟩ := ixF_some h
      refine ⟨k + 1, z, by omega, by simpa using h1, h2, fun m z' hm hz => ?_⟩
      cases m with
      | zero => simp at hz; subst hz; simpa using hp
      | succ m => exact h3 m z' (by omega) (by simpa using hz)
  | [], _, _, h => by cases h
theorem ixP_some {p : PyData → Bool} : ∀ {ds : List PyData} {i j : Nat}, ixP p i ds = some j → ∃ k z, j = i + k ∧ ds[k]? = some z ∧ p z = true ∧ ∀ m z', m < k → ds[m]? = some z' → p z' = false
  | d :: ds, i, j, h => by
    unfold ixP at h
    split at h
    · rename_i hp
      cases h
      exact ⟨0, d, rfl, rfl, hp, fun m z' hm => absurd hm (Nat.not_lt_zero _)⟩
    · rename_i hp
      obtain ⟨k, z, e, h1, h2, h3⟩ := ixP_some h
      refine ⟨k + 1, z, by omega, by simpa using h1, h2, fun m z' hm hz => ?_⟩
      cases m with
      | zero => simp at hz; subst hz; simpa using hp
      | succ m => exact h3 m z' (by omega) (by simpa using hz)
  | [], _, _, h => by cases h
def rIndexA (K : PySem.W.Frag) : V → List V → Hp → VK → Prop := fun x xs H Q => rIndex K x xs H Q ∨ rIndexD K x xs H Q
theorem mt_indexA {X : Cx} (hu : X.A.units + 65 < cLine) : MtR X "list.index" (rIndexA X.K) := by
  intro pins s σ H x xs v us Q I rx rxs h
  rcases h with h | h
  · exact mt_index pins s σ H x xs v us Q I rx rxs h
  · exact mt_indexD hu pins s σ H x xs v us Q I rx rxs h
section
variable {X : Cx} {g : G} {W : WX} {P : Par} {σ : L2.St} {H F : Hp} {st : DSt} {e : Expr} {f h : Den D}
theorem flat_hits {y : V} {e : D} (ry : Rv g F y e) (fe : flatD e = true) {vs : List V} {ds : List D} (r : Rl g F vs ds) (hf : ds.all flatD = true) {k : Nat} {z : D} (hz : ds[k]? = some z) (hp : eqF z e = true) (hno : ∀ m z', m < k → ds[m]? = some z' → eqF z' e = false) :
    ∃ w, vs[k]? = some w ∧ eqV w y = true ∧ ∀ (m : Nat) (w' : V), m < k → vs[m]? = some w' → eqV w' y = false := by
  obtain ⟨w, hw, rw'⟩ := r.get hz
  have fz : ∀ {m : Nat} {z' : D}, ds[m]? = some z' → flatD z' = true := fun hm => List.all_eq_true.mp hf _ (List.mem_of_getElem? hm)
  refine ⟨w, hw, by rw [eqF_rv rw' ry (fz hz) fe]; exact hp, fun m w' hm hw' => ?_⟩
  obtain ⟨z', hz', rz'⟩ := r.get' hw'
  rw [eqF_rv rz' ry (fz hz') fe]
  exact hno m z' hm hz'
theorem opIndex_ok {v u : V} {x y z : D} {Q : VK} (le : Same F H) (rx : Br g F H v x) (ry : Rv g F u y) (hz : opIndex x y = some z) (q : ∀ v, Rv g F v z → Q v H) : ∃ a vs, v = .ref a ∧ SqL g.K H a vs ∧ rIndexA g.K v [u] H Q := by
  unfold opIndex at hz
  split at hz
  · rename_i ds
    obtain ⟨a, vs, rfl, h1, r1⟩ := rx.lst le
    refine ⟨a, vs, rfl, sqL_of h1, ?_⟩
    split at hz
    · rename_i hf
      obtain ⟨f1, f2⟩ := Bool.and_eq_true_iff.mp hf
      split at hz
      · rename_i j hj
        cases hz
        obtain ⟨k, z, rfl, e1, e2, e3⟩ := ixF_some hj
        obtain ⟨w, hw, hh, hn⟩ := flat_hits ry f1 r1 f2 e1 e2 e3
        rw [Nat.zero_add] at q
        exact .inl ⟨a, vs, u, k, w, rfl, rfl, sqL_of h1, flat_rv ry f1, all_flat r1 f2, hw, hh, hn, q _ (.int _)⟩
      · cases hz
    · split at hz
      · rename_i p qs e1 e2
        split at hz
        · rename_i hs
          obtain ⟨s1, s2⟩ := Bool.and_eq_true_iff.mp hs
          split at hz
          · rename_i j hj
            cases hz
            obtain ⟨k, z, rfl, g1, g2, g3⟩ := ixP_some hj
            rw [Nat.zero_add] at q
            exact .inr ⟨a, u, p, qs, k, z, rfl, rfl, rx.dp le (by unfold toPy; rw [e2]), ry.dp le e1, s2, s1, g1, g2, g3, q _ (.int _)⟩
          · cases hz
        · cases hz
      · cases hz
  · cases hz
/-- what a receiver must be, before its argument is read -/
@[simp] def isL : D → Option Unit
  | .lst _ => some ()
  | _ => none
@[simp] def isT : D → Option Unit
  | .tup _ => some ()
  | _ => none
@[simp] def dIndex (f h : Den D) : Den D := bindD f fun x => bindD (liftO (isL x)) fun _ => bindD h fun y => liftO (opIndex x y)
@[simp] def dIndexN (i : Nat) (h : Den D) : Den D := bindD (dRd i) fun x => bindD (liftO (isL x)) fun _ => bindD h fun y => bindD (dRd i) fun x => liftO (opIndex x y)
theorem vn_sorted : VN1 g (fun v => rSortedI g.K [v]) nSorted := by
  intro H F v d zs le rd hz Q q
  unfold nSorted at hz
  split at hz
  · rename_i ds
    split at hz
    · rename_i is hi
      cases hz
      have := intsOf_eq hi
      subst this
      obtain ⟨a, vs, rfl, h1, r1⟩ := rd.lst le
      have := r1.ints
      subst this
      refine ⟨a, is, rfl, sqL_of h1, fun ns' p hp hs hn => ?_⟩
      have e : ns' = sortI is := sorted_unique (hp.trans (sortI_perm is).symm) hs (sortI_sorted is)
      subst e
      exact q p _ hn (Rl.of_ints _)
    · cases hz
  · cases hz
  · cases hz
end
end DL
namespace DL
open PySem PySem.Spec PyProof.Rows L2
@[simp] theorem ixN_nat (n j : Nat) : ixN n (j : Int) = if j < n then some j else none := by
  unfold ixN
  by_cases h : j < n
  · rw [if_pos (by omega), if_pos (by omega), if_pos h]; simp
  · rw [if_pos (by omega), if_neg (by omega), if_neg h]
@[simp] theorem atI_nat {α : Type} (xs : List α) (j : Nat) : atI xs (j : Int) = xs[j]? := by
  unfold atI
  rw [ixN_nat]
  by_cases h : j < xs.length
  · rw [if_pos h]; rfl
  · rw [if_neg h, List.getElem?_eq_none (by omega)]; rfl
@[simp] theorem big_val : big = 16777216 := rfl
end DL
namespace PySem
end PySem
namespace L2
open PySem PySem.Spec PyProof.Rows
end L2
namespace DL
open PySem PySem.Spec PyProof.Rows L2
section
variable {g : G}
@[simp] def onIntsT {α : Type} (f : List Int → Option α) : D → Option α
  | .lst ds => match intsOf ds with | some is => f is | none => none
  | .tup ds => match intsOf ds with | some is => f is | none => none
  | _ => none
@[simp] def opMinA : D → Option D := onIntsT fun is => if is.isEmpty then none else some (.int (minL is))
@[simp] def opMaxA : D → Option D := onIntsT fun is => if is.isEmpty then none else some (.int (maxL is))
end
end DL
namespace DL
open PySem PySem.Spec PyProof.Rows L2
mutual
def nol : D → Bool
  | .lst _ => false
  | .scr _ => false
  | .tup xs => nols xs
  | .ins _ _ xs => nols xs
  | _ => true
def nols : List D → Bool
  | [] => true
  | x :: xs => nol x && nols xs
end
def frzS : Slot → Slot
  | .ow ds => .sh (.lst ds)
  | .rf _ ds => .sh (.lst ds)
  | .o2 dss => .sh (.lst (dss.map .lst))
  | .oi _ _ _ _ => .no
  | .dk _ => .no
  | .dt _ => .no
  | s => s
@[simp] def dPeek (f : Den D) : Den D := fun st => match f (st.map frzS) with
  | .ok d _ => if nol d then .ok d st else .stuck
  | _ => .stuck
end DL
namespace DL
open PySem PySem.Spec PyProof.Rows L2
def goB (vs vs1 : List Nat) (t : Tg) (test : Den Bool) (t1 : Tg) (fi1 : Den (List D)) (test1 : Den Bool) (elt : Den D) : List D → Den (List D)
  | [] => retD []
  | d :: ds => fun st => match setT t d st with
    | none => .stuck
    | some st1 => match test st1 with
      | .ok true st2 => match fi1 st2 with
        | .ok ds1 st3 => match compGo vs1 t1 test1 elt ds1 (wipeD st3 vs1) with
          | .ok ys st4 => match goB vs vs1 t test t1 fi1 test1 elt ds (wipeD st4 vs) with
            | .ok zs st5 => .ok (ys ++ zs) st5
            | _ => .stuck
          | _ => .stuck
        | _ => .stuck
      | .ok false st2 => goB vs vs1 t test t1 fi1 test1 elt ds (wipeD st2 vs)
      | _ => .stuck
def dCompB (vs vs1 : List Nat) (t : Tg) (fi : Den (List D)) (test : Den Bool) (t1 : Tg) (fi1 : Den (List D)) (test1 : Den Bool) (elt : Den D) : Den (List D) := bindD fi fun ds => fun st =>
  if vs.all (plainAt st) = true then
    match goB vs vs1 t test t1 fi1 test1 elt ds (wipeD st vs) with
    | .ok ys st' => if ys.length ≤ big then .ok ys (backD st st' vs) else .stuck
    | _ => .stuck
  else .stuck
section
variable {X : Cx} {g : G} {W : WX} {P : Par} {σ : L2.St} {H F : Hp} {st : DSt} {e : Expr}
theorem wipe_len (σ : L2.St) (vs : List Nat) : (L2.wipe σ vs).length = σ.length := by rw [L2.wipe_length]
theorem wipe_in {σ : L2.St} {i : Nat} : ∀ {vs : List Nat}, i ∈ vs → (L2.wipe σ vs)[i]? = (σ[i]?).map fun _ => none
  | v :: vs, h => by
    by_cases hi : i ∈ vs
    · by_cases hv : i = v
      · subst hv
        rw [← wipe_set (x := none) (σ := σ) (vs := i :: vs) (i := i) List.mem_cons_self]
        have e : ∀ (σ' : L2.St), (L2.wipe σ' (i :: vs)) = (L2.wipe σ' vs).set i none := fun σ' => by simp [L2.wipe]
        rw [e]
        by_cases hl : i < σ.length
        · rw [List.getElem?_set_self (by rw [wipe_len, List.length_set]; exact hl), List.getElem?_eq_getElem hl]; rfl
        · rw [List.getElem?_eq_none (by rw [List.length_set, wipe_len, List.length_set]; omega), List.getElem?_eq_none (by omega)]; rfl
      · have e : (L2.wipe σ (v :: vs)) = (L2.wipe σ vs).set v none := by simp [L2.wipe]
        rw [e, List.getElem?_set_ne (Ne.symm hv), wipe_in hi]
    · have hv : i = v := by rcases List.mem_cons.mp h with e | e; exact e; exact absurd e hi
      subst hv
      have e : (L2.wipe σ (i :: vs)) = (L2.wipe σ vs).set i none := by simp [L2.wipe]
      rw [e]
      by_cases hl : i < σ.length
      · rw [List.getElem?_set_self (by rw [wipe_len]; exact hl), List.getElem?_eq_getElem hl]; rfl
      · rw [List.getElem?_eq_none (by rw [List.length_set, wipe_len]; omega), List.getElem?_eq_none (by omega)]; rfl
  | [], h => by cases h
theorem wipe_sub {σ : L2.St} {vs vs1 : List Nat} (h : ∀ i ∈ vs1, i ∈ vs) : L2.wipe (L2.wipe σ vs1) vs = L2.wipe σ vs := by
  refine List.ext_getElem? fun i => ?_
  by_cases hi : i ∈ vs
  · rw [wipe_in hi, wipe_in hi]
    by_cases hj : i ∈ vs1
    · rw [wipe_in hj]; cases σ[i]? <;> rfl
    · rw [wipe_out hj]
  · rw [wipe_out hi, wipe_out hi, wipe_out fun hj => hi (h i hj)]
theorem compB_imp {vs vs1 : List Nat} {t t1 : Tg} {fi fi1 : Den (List D)} {test test1 : Den Bool} {elt : Den D} {Q : VK} (hv : ∀ i ∈ t.is, i ∈ vs) (hv1 : ∀ i ∈ t1.is, i ∈ vs1) (hsub : ∀ i ∈ vs1, i ∈ vs)
    (q : tN g W (dCompB vs vs1 t fi test t1 fi1 test1 elt) σ H Q) : tLc2 (tI g W fi) (tG g t) (tT g WN test) (tI g WN fi1) (tG g t1) (tT g WN test1) (tE g WN elt) vs vs1 σ H Q := by
  obtain ⟨P, F, st, s, o⟩ := q
  refine ⟨P, F, st, s, o.bind.imp fun ds st1 H1 F1 le1 s1 o1 J wk D hD => ?_⟩
  split at o1
  · rename_i hpl
    revert o1
    cases hall : goB vs vs1 t test t1 fi1 test1 elt ds (wipeD st1 vs) with
    | exn c fs stE => exact fun o1 => o1.elim
    | stuck => exact fun o1 => o1.elim
    | ok tot stE =>
      simp only
      split
      · rename_i hbig
        intro o1
        have lenOf : ∀ {P' : Par} {H' F' : Hp} {st' : DSt}, SR g P' (L2.wipe σ vs) H' F' st' → st'.length = st1.length := fun {P' H' F' st'} s' => by
          have a := s'.len
          have b := s1.len
          rw [wipe_len] at a
          omega
        -- what is left behind i turns
        let Nxt : Nat → Hp → Prop := fun i H => ∃ F' st' accV acc, Same F1 F' ∧ SR g (gd P D accV) (L2.wipe σ vs) H F' st' ∧ Rl g F' accV acc ∧ ∃ zs, goB vs vs1 t test t1 fi1 test1 elt (ds.drop i) st' = .ok zs stE ∧ acc ++ zs = tot
        refine ⟨fun i m H => m = ds.length - i ∧ i ≤ ds.length ∧ Nxt i H, ⟨ds.length, by simp, Nat.zero_le _, F1, wipeD st1 vs, [], [], Same.refl _, ((s1.wipe vs).guard (o := .lst []) hD), .nil, tot, by simpa using hall, rfl⟩, ?_⟩
        rintro i m H2 ⟨rfl, hi, F', st', accV, acc, le, s', racc, zs, hgo, htot⟩
        by_cases hlt : i < ds.length
        · obtain ⟨d0, hd0⟩ : ∃ d, ds[i]? = some d := ⟨ds[i], List.getElem?_eq_getElem hlt⟩
          have hdr : ds.drop i = d0 :: ds.drop (i + 1) := by
            rw [List.drop_eq_getElem_cons hlt]
            have := List.getElem?_eq_getElem hlt
            rw [hd0] at this; rw [← Option.some.inj this]
          rw [hdr] at hgo
          refine .inr ⟨wk.go i H2 (le.trans s'.le) hlt, Nxt (i + 1), fun H' nx => ⟨ds.length - (i + 1), by omega, rfl, hlt, nx⟩, fun x H' y => ?_⟩
          obtain ⟨d, hd, yy⟩ := wk.yld i H2 x H' (le.trans s'.le) hlt y
          obtain ⟨F', le2, s', rd⟩ := s'.yl le yy
          have le := le.trans le2
          have racc := racc.mono le2
          rw [hd0] at hd; cases hd
          unfold goB at hgo
          cases hset : setT t d0 st' with
          | none => rw [hset] at hgo; cases hgo
          | some st2 =>
            rw [hset] at hgo
            refine ⟨gd P D accV, F', st', d0, s', rd, st2, hset, fun xs s2 => ⟨by rw [wipe_setσ hv, wipe_wipe], ?_⟩⟩
            refine ⟨gd P D accV, F', st2, s2, ?_⟩
            simp only at hgo
            have wp : ∀ {P' : Par} {H' F' : Hp} {st3 : DSt}, SR g P' (setσ t.is xs (L2.wipe σ vs)) H' F' st3 → SR g P' (L2.wipe σ vs) H' F' (wipeD st3 vs) := fun {P' H' F' st3} s3 => by
              have := s3.wipe vs
              rw [wipe_setσ hv, wipe_wipe] at this
              exact this
            revert hgo
            cases test st2 with
            | exn c fs st3 => intro hgo; cases hgo
            | stuck => intro hgo; cases hgo
            | ok b st3 =>
              intro hgo H3 F3 le3 s3
              cases b with
              | false =>
                rw [if_neg Bool.false_ne_true]
                exact ⟨F3, wipeD st3 vs, accV, acc, le.trans le3, wp s3, racc.mono le3, zs, hgo, htot⟩
              | true =>
                rw [if_pos rfl]
                refine ⟨gd P D accV, F3, st3, s3, ?_⟩
                simp only at hgo
                revert hgo
                cases fi1 st3 with
                | exn c fs st4 => intro hgo; cases hgo
                | stuck => intro hgo; cases hgo
                | ok ds1 st4 =>
                  intro hgo H4 F4 le4 s4 J1 wk1
                  simp only at hgo
                  revert hgo
                  cases hin : compGo vs1 t1 test1 elt ds1 (wipeD st4 vs1) with
                  | exn c fs st5 => intro hgo; cases hgo
                  | stuck => intro hgo; cases hgo
                  | ok ys st5 =>
                    intro hgo
                    simp only at hgo
                    revert hgo
                    cases hrest : goB vs vs1 t test t1 fi1 test1 elt (ds.drop (i + 1)) (wipeD st5 vs) with
                    | exn c fs st6 => intro hgo; cases hgo
                    | stuck => intro hgo; cases hgo
                    | ok zs' st6 =>
                      intro hgo
                      simp only [Res.ok.injEq] at hgo
                      obtain ⟨rfl, rfl⟩ := hgo
                      have leA : Same F1 F4 := (le.trans le3).trans le4
                      let σ2 : L2.St := setσ t.is xs (L2.wipe σ vs)
                      have w2 : L2.wipe σ2 vs = L2.wipe σ vs := by show L2.wipe (setσ t.is xs (L2.wipe σ vs)) vs = _; rw [wipe_setσ hv, wipe_wipe]
                      let In : Nat → Hp → Prop := fun j H => ∃ F' st' accV acc, Same F4 F' ∧ SR g (gd P D accV) (L2.wipe σ2 vs1) H F' st' ∧ Rl g F' accV acc ∧ ∃ ys', compGo vs1 t1 test1 elt (ds1.drop j) st' = .ok ys' st5 ∧ acc ++ (ys' ++ zs') = tot
                      refine ⟨fun j k H => k = ds1.length - j ∧ j ≤ ds1.length ∧ In j H, ⟨ds1.length, by simp, Nat.zero_le _, F4, wipeD st4 vs1, accV, acc, Same.refl _, s4.wipe vs1, (racc.mono le3).mono le4, ys, by simpa using hin, htot⟩, ?_⟩
                      rintro j k H5 ⟨rfl, hj, F5, st7, accV5, acc5, le5, s5, racc5, ys', hgo5, htot5⟩
                      by_cases hlt1 : j < ds1.length
                      · obtain ⟨d1, hd1⟩ : ∃ d, ds1[j]? = some d := ⟨ds1[j], List.getElem?_eq_getElem hlt1⟩
                        have hdr1 : ds1.drop j = d1 :: ds1.drop (j + 1) := by
                          rw [List.drop_eq_getElem_cons hlt1]
                          have := List.getElem?_eq_getElem hlt1
                          rw [hd1] at this; rw [← Option.some.inj this]
                        rw [hdr1] at hgo5
                        refine .inr ⟨wk1.go j H5 (le5.trans s5.le) hlt1, In (j + 1), fun H' nx => ⟨ds1.length - (j + 1), by omega, rfl, hlt1, nx⟩, fun x1 H' y1 => ?_⟩
                        obtain ⟨d, hd, yy1⟩ := wk1.yld j H5 x1 H' (le5.trans s5.le) hlt1 y1
                        obtain ⟨F5, le6, s5, rd1⟩ := s5.yl le5 yy1
                        have le5 := le5.trans le6
                        have racc5 := racc5.mono le6
                        rw [hd1] at hd; cases hd
                        unfold compGo at hgo5
                        cases hset1 : setT t1 d1 st7 with
                        | none => rw [hset1] at hgo5; cases hgo5
                        | some st8 =>
                          rw [hset1] at hgo5
                          refine ⟨gd P D accV5, F5, st7, d1, s5, rd1, st8, hset1, fun xs1 s8 => ⟨by rw [wipe_setσ hv1, wipe_wipe], ?_⟩⟩
                          refine ⟨gd P D accV5, F5, st8, s8, ?_⟩
                          simp only at hgo5
                          have wp1 : ∀ {P' : Par} {H' F' : Hp} {st3 : DSt}, SR g P' (setσ t1.is xs1 (L2.wipe σ2 vs1)) H' F' st3 → SR g P' (L2.wipe σ2 vs1) H' F' (wipeD st3 vs1) := fun {P' H' F' st3} s3 => by
                            have := s3.wipe vs1
                            rw [wipe_setσ hv1, wipe_wipe] at this
                            exact this
                          revert hgo5
                          cases test1 st8 with
                          | exn c fs st9 => intro hgo; cases hgo
                          | stuck => intro hgo; cases hgo
                          | ok b1 st9 =>
                            intro hgo5 H9 F9 le9 s9
                            cases b1 with
                            | false =>
                              rw [if_neg Bool.false_ne_true]
                              exact ⟨F9, wipeD st9 vs1, accV5, acc5, le5.trans le9, wp1 s9, racc5.mono le9, ys', hgo5, htot5⟩
                            | true =>
                              rw [if_pos rfl]
                              refine ⟨gd P D accV5, F9, st9, s9, ?_⟩
                              simp only at hgo5
                              revert hgo5
                              cases elt st9 with
                              | exn c fs st10 => intro hgo; cases hgo
                              | stuck => intro hgo; cases hgo
                              | ok y st10 =>
                                intro hgo5 H10 F10 le10 s10 v rv
                                simp only at hgo5
                                revert hgo5
                                cases hr : compGo vs1 t1 test1 elt (ds1.drop (j + 1)) (wipeD st10 vs1) with
                                | exn c fs st11 => intro hgo; cases hgo
                                | stuck => intro hgo; cases hgo
                                | ok ys2 st11 =>
                                  intro hgo5
                                  simp only [Res.ok.injEq] at hgo5
                                  obtain ⟨rfl, rfl⟩ := hgo5
                                  have hD10 := s10.guard_at
                                  have hb : big = sizeLine := big_eq
                                  have hacc : acc5.length < big := by
                                    rw [← htot5] at hbig
                                    simp only [List.length_append, List.length_cons] at hbig
                                    omega
                                  refine ⟨accV5, hD10, by rw [racc5.length, ← hb]; exact hacc, F10, wipeD st10 vs1, accV5 ++ [v], acc5 ++ [y], (le5.trans le9).trans le10, (wp1 s10).reguard, (racc5.mono (le9.trans le10)).append (.cons rv .nil), ys2, hr, ?_⟩
                                  rw [← htot5]; simp
                      · have ej : j = ds1.length := by omega
                        subst ej
                        rw [List.drop_length] at hgo5
                        cases hgo5
                        refine .inl ⟨wk1.stop H5 (le5.trans s5.le), F5, wipeD st5 vs, accV5, acc5, leA.trans le5, ?_, racc5, zs', hrest, by simpa using htot5⟩
                        have := s5.wipe vs
                        rw [wipe_sub hsub, w2] at this
                        exact this
        · have ei : i = ds.length := by omega
          subst ei
          rw [List.drop_length] at hgo
          cases hgo
          refine .inl ⟨wk.stop H2 (le.trans s'.le), ?_⟩
          rw [List.append_nil] at htot
          subst htot
          exact o1 H2 F' D accV le (s'.unguard s1 hD le (lenOf s') hpl) s'.guard_at racc
      · exact fun o1 => o1.elim
  · exact o1.elim
theorem es_ownLc2 {s : Stmt} {i : Nat} {vs vs1 : List Nat} {t t1 : Tg} {fi fi1 : Den (List D)} {test test1 : Den Bool} {elt : Den D} (he : PS X s (tAsg (tLc2 (tI g W fi) (tG g t) (tT g WN test) (tI g WN fi1) (tG g t1) (tT g WN test1) (tE g WN elt) vs vs1) (gName i)))
    (hv : ∀ i ∈ t.is, i ∈ vs := by decide) (hv1 : ∀ i ∈ t1.is, i ∈ vs1 := by decide) (hs : ∀ i ∈ vs1, i ∈ vs := by decide) : PS X s (tS g W (sOwn i (dCompB vs vs1 t fi test t1 fi1 test1 elt))) :=
  es_own (he.imp fun D σ H q => compB_imp hv hv1 hs q)
end
end DL
namespace DL
open PySem PySem.Spec PyProof.Rows L2
@[simp] def dIxx (i : Nat) (e1 e2 : Den D) : Den D := fun st => match st[i]? with
  | some (.o2 _) => bindD (dO2 i) (fun _ => bindD e1 fun k1 => bindD (dO2 i) fun dss => bindD (liftO (rowAt dss k1)) fun r => bindD (dPeek e2) fun k2 => liftO (match rowAt r.2 k2 with | some q => some q.2 | none => none)) st
  | _ => dOp2 opIx (dOp2n opIx i e1) e2 st
end DL
namespace DL
open PySem L2
def M.bind {α β : Type} : M α → (α → M β) → M β
  | .ok a, k => k a
  | .exn c fs, _ => .exn c fs
  | .stuck, _ => .stuck
@[simp] theorem bind_ok {α β : Type} (a : α) (k : α → M β) : (M.ok a).bind k = k a := rfl
@[simp] theorem bind_exn {α β : Type} (c : Str) (fs : List (Str × D)) (k : α → M β) : (M.exn c fs : M α).bind k = .exn c fs := rfl
@[simp] theorem bind_stuck {α β : Type} (k : α → M β) : (M.stuck : M α).bind k = .stuck := rfl
theorem bind_bind {α β γ : Type} (a : M α) (f : α → M β) (g : β → M γ) : (a.bind f).bind g = a.bind fun x => (f x).bind g := by cases a <;> rfl
theorem bind_pure {α : Type} (a : M α) : (a.bind fun x => .ok x) = a := by cases a <;> rfl
def oM {α : Type} : Option α → M α
  | some a => .ok a
  | none => .stuck
@[simp] theorem oM_some {α : Type} (a : α) : oM (some a) = .ok a := rfl
@[simp] theorem oM_none {α : Type} : oM (none : Option α) = .stuck := rfl
@[reducible] def eD (d : D) : D := d
@[reducible] def eI (i : Int) : D := .int i
@[reducible] def eB (b : Bool) : D := .bl b
def eL {α : Type} (e : α → D) (xs : List α) : D := .lst (xs.map e)
def eT {α : Type} (e : α → D) (xs : List α) : D := .tup (xs.map e)
def eP2 {α β : Type} (a : α → D) (b : β → D) (x : α × β) : D := .tup [a x.1, b x.2]
def eP3 {α β γ : Type} (a : α → D) (b : β → D) (c : γ → D) (x : α × β × γ) : D := .tup [a x.1, b x.2.1, c x.2.2]
def eP4 {α β γ δ : Type} (a : α → D) (b : β → D) (c : γ → D) (d : δ → D) (x : α × β × γ × δ) : D := .tup [a x.1, b x.2.1, c x.2.2.1, d x.2.2.2]
def eO {α : Type} (e : α → D) : Option α → D
  | none => .non
  | some a => e a
/-- f's value at st is v of what o gives; then st' stands -/
def RE {α δ : Type} (f : Den δ) (st : DSt) (o : M α) (v : α → δ) (st' : DSt) : Prop := match o with
  | .ok c => f st = .ok (v c) st'
  | .exn c fs => ∃ s, f st = .exn c fs s
  | .stuck => True
def RV {δ : Type} (f : Den δ) (st : DSt) (x : δ) (st' : DSt) : Prop := f st = .ok x st'
def OP {α δ : Type} (x : Option δ) (o : M α) (v : α → δ) : Prop := match o with
  | .ok c => x = some (v c)
  | .exn _ _ => False
  | .stuck => True
def DM {α : Type} (m : M D) (o : M α) (v : α → D) : Prop := match o with
  | .ok c => m = .ok (v c)
  | .exn c fs => m = .exn c fs
  | .stuck => True
section
variable {α β δ ε : Type} {st st1 st2 st' : DSt} {v : α → δ} {w : β → ε}
theorem re_bindP {a : Den δ} {x : δ} {k : δ → Den ε} {o : M β} (h1 : RV a st x st1) (h2 : RE (k x) st1 o w st2) : RE (bindD a k) st o w st2 := by
  have e : bindD a k st = k x st1 := by unfold bindD; rw [h1]
  cases o with
  | ok c => rw [RE, e]; exact h2
  | exn c fs => obtain ⟨s, h⟩ := h2; exact ⟨s, by rw [e]; exact h⟩
  | stuck => trivial
theorem re_bindG {a : Den δ} {o : M α} {k : δ → Den ε} {o2 : α → M β} (h1 : RE a st o v st1) (h2 : ∀ c, RE (k (v c)) st1 (o2 c) w st2) : RE (bindD a k) st (o.bind o2) w st2 := by
  cases o with
  | ok c => exact re_bindP (show RV a st (v c) st1 from h1) (h2 c)
  | exn c fs => obtain ⟨s, h⟩ := h1; exact ⟨s, by unfold bindD; rw [h]⟩
  | stuck => trivial
theorem re_assoc {ζ : Type} {a : Den δ} {g : δ → Den ε} {k : ε → Den ζ} {o : M β} {w : β → ζ} (h : RE (bindD a fun x => bindD (g x) k) st o w st2) : RE (bindD (bindD a g) k) st o w st2 := by
  have e : bindD (bindD a g) k st = bindD a (fun x => bindD (g x) k) st := by unfold bindD; cases a st <;> rfl
  cases o with
  | ok c => rw [RE, e]; exact h
  | exn c fs => obtain ⟨s, h⟩ := h; exact ⟨s, by rw [e]; exact h⟩
  | stuck => trivial
theorem re_rv {f : Den ε} {c : β} (h : RV f st (w c) st2) : RE f st (.ok c) w st2 := h
theorem rv_bind {a : Den δ} {k : δ → Den ε} {x : δ} {y : ε} (h1 : RV a st x st1) (h2 : RV (k x) st1 y st2) : RV (bindD a k) st y st2 := by
  unfold RV bindD; rw [h1]; exact h2
theorem rv_assoc {ζ : Type} {a : Den δ} {g : δ → Den ε} {k : ε → Den ζ} {y : ζ} (h : RV (bindD a fun x => bindD (g x) k) st y st2) : RV (bindD (bindD a g) k) st y st2 := by
  have e : bindD (bindD a g) k st = bindD a (fun x => bindD (g x) k) st := by unfold bindD; cases a st <;> rfl
  rw [RV, e]; exact h
theorem rv_ret {x : δ} : RV (retD x) st x st := rfl
theorem rv_lift {x : Option δ} {y : δ} (h : x = some y) : RV (liftO x) st y st := by unfold RV liftO; rw [h]
theorem re_lift {x : Option δ} {o : M α} (h : OP x o v) : RE (liftO x) st o v st := by
  cases o with
  | ok c => exact rv_lift h
  | exn c fs => exact h.elim
  | stuck => trivial
theorem re_liftM {m : M D} {o : M α} {v : α → D} (h : DM m o v) : RE (liftM' m) st o v st := by
  cases o with
  | ok c => unfold RE liftM'; rw [show m = _ from h]
  | exn c fs => exact ⟨st, by unfold liftM'; rw [show m = _ from h]⟩
  | stuck => trivial
theorem rv_eq {f : Den δ} {x y : δ} (h : RV f st x st2) (e : x = y) : RV f st y st2 := e ▸ h
/-- a value that is there, or not -/
theorem re_get {f : Den D} {x : Option α} {e : α → D} (h : RV f st (eO e x) st2) : RE f st (oM x) e st2 := by
  cases x with
  | some a => exact h
  | none => trivial
theorem re_ite {a b : Den δ} {x : Bool} {o1 o2 : M α} (h1 : x = true → RE a st o1 v st2) (h2 : x = false → RE b st o2 v st2) : RE (if x = true then a else b) st (if x = true then o1 else o2) v st2 := by
  cases x with
  | true => exact h1 rfl
  | false => exact h2 rfl
theorem rv_and {b : Den Bool} {x y : Bool} (h : x = true → RV b st y st) : RV (if x = true then b else retD false) st (x && y) st := by
  cases x with
  | true => exact h rfl
  | false => rfl
theorem rv_or {b : Den Bool} {x y : Bool} (h : x = false → RV b st y st) : RV (if x = true then retD true else b) st (x || y) st := by
  cases x with
  | true => rfl
  | false => exact h rfl
end
section
variable {α : Type} {st : DSt} {e : α → D} {i : Nat}
theorem rv_var {d : D} (h : st[i]? = some (.sh d)) : RV (dVar i) st d st := by unfold RV dVar; rw [h]
theorem rv_frz {ds : List D} (h : st[i]? = some (.ow ds)) : RV (dVar i) st (.lst ds) (st.set i (.sh (.lst ds))) := by unfold RV dVar; rw [h]
theorem rv_frz2 {dss : List (List D)} (h : st[i]? = some (.o2 dss)) : RV (dVar i) st (.lst (dss.map .lst)) (st.set i (.sh (.lst (dss.map .lst)))) := by unfold RV dVar; rw [h]
theorem rv_frzL {xss : List (List α)} (h : st[i]? = some (.o2 (xss.map (List.map e)))) : RV (dVar i) st (eL (eL e) xss) (st.set i (.sh (eL (eL e) xss))) := by
  have q : eL (eL e) xss = .lst ((xss.map (List.map e)).map .lst) := by simp [eL, List.map_map, Function.comp_def]
  rw [q]; exact rv_frz2 h
theorem rv_rd {d : D} (h : st[i]? = some (.sh d)) : RV (dRd i) st d st := by unfold RV dRd; rw [h]
theorem rv_rdO {ds : List D} (h : st[i]? = some (.ow ds)) : RV (dRd i) st (.lst ds) st := by unfold RV dRd; rw [h]
theorem rv_rdR {ds : List D} {k : Nat} (h : st[i]? = some (.rf k ds)) : RV (dRd i) st (.lst ds) st := by unfold RV dRd; rw [h]
theorem rv_ow {ds : List D} (h : st[i]? = some (.ow ds)) : RV (dOw i) st ds st := by unfold RV dOw; rw [h]
theorem rv_owR {ds : List D} {k : Nat} (h : st[i]? = some (.rf k ds)) : RV (dOw i) st ds st := by unfold RV dOw; rw [h]
end
structure Py {α : Type} (e : α → D) (k : Nat) where
  py : α → PyData
  to : ∀ a, toPy (e a) = some (py a)
  lay : ∀ a, (py a).canLay0 = true
  dep : ∀ a, (py a).depth ≤ k
  eqv : ∀ a b, PyData.eqv (py a) (py b) = true ↔ a = b
def pyI : Py eI 0 := ⟨.int, fun _ => by simp [eI, toPy], fun _ => by simp [PyData.canLay0], fun _ => by simp [PyData.depth], fun a b => by simp [PyData.eqv]⟩
def pyB : Py eB 0 := ⟨.bool, fun _ => by simp [eB, toPy], fun _ => by simp [PyData.canLay0], fun _ => by simp [PyData.depth], fun a b => by simp [PyData.eqv]⟩
section
variable {α β γ δ : Type} {a : α → D} {b : β → D} {c : γ → D} {d : δ → D} {k l m n : Nat}
theorem toPys_map (p : Py a k) : ∀ xs : List α, toPys (xs.map a) = some (xs.map p.py)
  | [] => by simp [toPys]
  | x :: xs => by simp [toPys, p.to, toPys_map p xs]
theorem layAll_map (p : Py a k) : ∀ xs : List α, PyData.canLayAll0 (xs.map p.py) = true
  | [] => by simp [PyData.canLayAll0]
  | x :: xs => by simp [PyData.canLayAll0, p.lay, layAll_map p xs]
theorem depAll_map (p : Py a k) : ∀ xs : List α, PyData.depthAll (xs.map p.py) ≤ k
  | [] => by simp [PyData.depthAll]
  | x :: xs => by have := p.dep x; have := depAll_map p xs; simp [PyData.depthAll]; omega
theorem eqvAll_map (p : Py a k) : ∀ xs ys : List α, PyData.eqvAll (xs.map p.py) (ys.map p.py) = true ↔ xs = ys
  | [], [] => by simp [PyData.eqvAll]
  | [], y :: ys => by simp [PyData.eqvAll]
  | x :: xs, [] => by simp [PyData.eqvAll]
  | x :: xs, y :: ys => by simp [PyData.eqvAll, p.eqv, eqvAll_map p xs ys]
def pyL (p : Py a k) : Py (eL a) (k + 1) := ⟨fun xs => .list (xs.map p.py), fun xs => by simp [eL, toPy, toPys_map p], fun xs => by simp [PyData.canLay0, layAll_map p], fun xs => by have := depAll_map p xs; simp [PyData.depth]; omega, fun xs ys => by simp [PyData.eqv, eqvAll_map p]⟩
def pyT (p : Py a k) : Py (eT a) (k + 1) := ⟨fun xs => .tuple (xs.map p.py), fun xs => by simp [eT, toPy, toPys_map p], fun xs => by simp [PyData.canLay0, layAll_map p], fun xs => by have := depAll_map p xs; simp [PyData.depth]; omega, fun xs ys => by simp [PyData.eqv, eqvAll_map p]⟩
def pyP2 (p : Py a k) (q : Py b l) : Py (eP2 a b) (k + l + 1) := ⟨fun x => .tuple [p.py x.1, q.py x.2], fun x => by simp [eP2, toPy, toPys, p.to, q.to], fun x => by simp [PyData.canLay0, PyData.canLayAll0, p.lay, q.lay],
  fun x => by have := p.dep x.1; have := q.dep x.2; simp [PyData.depth, PyData.depthAll]; omega, fun x y => by obtain ⟨x1, x2⟩ := x; obtain ⟨y1, y2⟩ := y; simp [PyData.eqv, PyData.eqvAll, p.eqv, q.eqv]⟩
def pyP3 (p : Py a k) (q : Py b l) (r : Py c m) : Py (eP3 a b c) (k + l + m + 1) := ⟨fun x => .tuple [p.py x.1, q.py x.2.1, r.py x.2.2], fun x => by simp [eP3, toPy, toPys, p.to, q.to, r.to], fun x => by simp [PyData.canLay0, PyData.canLayAll0, p.lay, q.lay, r.lay],
  fun x => by have := p.dep x.1; have := q.dep x.2.1; have := r.dep x.2.2; simp [PyData.depth, PyData.depthAll]; omega, fun x y => by obtain ⟨x1, x2, x3⟩ := x; obtain ⟨y1, y2, y3⟩ := y; simp [PyData.eqv, PyData.eqvAll, p.eqv, q.eqv, r.eqv]⟩
def pyP4 (p : Py a k) (q : Py b l) (r : Py c m) (s : Py d n) : Py (eP4 a b c d) (k + l + m + n + 1) := ⟨fun x => .tuple [p.py x.1, q.py x.2.1, r.py x.2.2.1, s.py x.2.2.2], fun x => by simp [eP4, toPy, toPys, p.to, q.to, r.to, s.to], fun x => by simp [PyData.canLay0, PyData.canLayAll0, p.lay, q.lay, r.lay, s.lay],
  fun x => by have := p.dep x.1; have := q.dep x.2.1; have := r.dep x.2.2.1; have := s.dep x.2.2.2; simp [PyData.depth, PyData.depthAll]; omega, fun x y => by obtain ⟨x1, x2, x3, x4⟩ := x; obtain ⟨y1, y2, y3, y4⟩ := y; simp [PyData.eqv, PyData.eqvAll, p.eqv, q.eqv, r.eqv, s.eqv]⟩
/-- .. or None -/
def pyO (p : Py a k) (hn : ∀ x, PyData.eqv .none (p.py x) = false ∧ PyData.eqv (p.py x) .none = false) : Py (eO a) k := ⟨fun x => match x with | none => .none | some x => p.py x, fun x => by cases x <;> simp [eO, toPy, p.to], fun x => by cases x <;> simp [PyData.canLay0, p.lay],
  fun x => by cases x with | none => simp [PyData.depth] | some x => exact p.dep x, fun x y => by
    cases x with
    | none => cases y with
      | none => simp [PyData.eqv]
      | some y => simp only [(hn y).1]; simp
    | some x => cases y with
      | none => simp only [(hn x).2]; simp
      | some y => simp only [p.eqv, Option.some.injEq]⟩
theorem shaped_of (p : Py a k) (hk : k ≤ 64 := by decide) (x : α) : SeqAt.shaped (p.py x) = true := by have := p.dep x; simp [SeqAt.shaped, p.lay x]; omega
theorem eq_py (p : Py a k) [DecidableEq α] {x y : α} (hk : k ≤ 64 := by decide) : opEq (a x) (a y) = some (eB (decide (x = y))) := by
  have h : PyData.eqv (p.py x) (p.py y) = decide (x = y) := by
    by_cases e : x = y
    · subst e; simp [(p.eqv x x).mpr rfl]
    · simp only [e, decide_false]; exact Bool.eq_false_iff.mpr fun z => e ((p.eqv x y).mp z)
  simp [eqD, p.to, shaped_of p hk, h, eB]
theorem ne_py (p : Py a k) [DecidableEq α] {x y : α} (hk : k ≤ 64 := by decide) : opNe (a x) (a y) = some (eB (!decide (x = y))) := by
  have := eq_py p (x := x) (y := y) hk
  simp only [opEq] at this
  simp only [opNe]
  cases h : eqD (a x) (a y) with
  | none => rw [h] at this; cases this
  | some z => rw [h] at this; simp only [Option.some.injEq, D.bl.injEq, eB] at this; simp [this, eB]
/-- flat kinds: numbers, texts, truth values -/
structure Fl1 (e : α → D) : Prop where
  fl : ∀ x, flatD (e x) = true
  eq : ∀ x y, eqF (e x) (e y) = true ↔ x = y
theorem fl_I : Fl1 eI := ⟨fun _ => rfl, fun x y => by simp [eI, eqF]⟩
theorem anyF (p : Fl1 a) [DecidableEq α] (x : α) : ∀ xs : List α, ((xs.map a).any fun y => eqF y (a x)) = decide (x ∈ xs)
  | [] => by simp
  | y :: ys => by
    have ih := anyF p x ys
    have : eqF (a y) (a x) = decide (x = y) := by
      by_cases e : x = y
      · subst e; simp [(p.eq x x).mpr rfl]
      · simp only [e, decide_false]; exact Bool.eq_false_iff.mpr fun z => e ((p.eq y x).mp z).symm
    simp only [List.map_cons, List.any_cons, ih, this, List.mem_cons, Bool.decide_or]
theorem allF (p : Fl1 a) (xs : List α) : (xs.map a).all flatD = true := by simp [p.fl]
/-- is it there -/
def has [DecidableEq α] (x : α) (xs : List α) : Bool := decide (x ∈ xs)
@[simp] theorem has_iff [DecidableEq α] {x : α} {xs : List α} : has x xs = true ↔ x ∈ xs := by simp [has]
theorem in_fl (p : Fl1 a) [DecidableEq α] {x : α} {xs : List α} : inD (a x) (eL a xs) = some (has x xs) ∧ inD (a x) (eT a xs) = some (has x xs) := by
  constructor <;> simp only [inD, eL, eT, p.fl, allF p, Bool.and_self, if_true, anyF p, has]
theorem ninL_ {x y : D} {z : Bool} (h : inD x y = some z) : opNotIn x y = some (eB !z) := by simp [h]
/-- the first place -/
def pIndex [DecidableEq α] (xs : List α) (x : α) : M Int := if x ∈ xs then .ok (xs.idxOf x) else .stuck
theorem ixF_eq (p : Fl1 a) [DecidableEq α] (x : α) : ∀ (xs : List α) (i : Nat), ixF (fun z => eqF z (a x)) i (xs.map a) = if x ∈ xs then some (i + xs.idxOf x) else none
  | [], i => by simp [ixF]
  | y :: ys, i => by
    have ih := ixF_eq p x ys (i + 1)
    by_cases e : x = y
    · subst e; simp [ixF, (p.eq x x).mpr rfl]
    · have h1 : eqF (a y) (a x) = false := Bool.eq_false_iff.mpr fun z => e ((p.eq y x).mp z).symm
      have h2 : ¬ y = x := fun z => e z.symm
      simp only [List.map_cons, ixF, h1, ih, List.mem_cons, e, false_or, List.idxOf_cons]
      have h3 : (y == x) = false := by simp [h2]
      simp only [h3, cond_false]
      simp only [Bool.false_eq_true, if_false]
      by_cases hm : x ∈ ys
      · simp [hm, h2]; omega
      · simp [hm]
theorem index_fl (p : Fl1 a) [DecidableEq α] {x : α} {xs : List α} : OP (opIndex (eL a xs) (a x)) (pIndex xs x) eI := by
  unfold pIndex
  by_cases h : x ∈ xs
  · simp [h, OP, opIndex, eL, p.fl, allF p, ixF_eq p, eI]
  · simp [h, OP]
end
end DL
namespace DL
open PySem L2
theorem ixN_lt {n : Nat} {i : Int} {j : Nat} (h : ixN n i = some j) : j < n := by
  unfold ixN at h
  split at h
  · split at h
    · cases h; omega
    · cases h
  · split at h
    · cases h; omega
    · cases h
theorem atI_map {α β : Type} (e : α → β) (xs : List α) (i : Int) : atI (xs.map e) i = (atI xs i).map e := by
  unfold atI
  rw [List.length_map]
  cases h : ixN xs.length i with
  | none => rfl
  | some j => simp
def pAt {α : Type} (xs : List α) (i : Int) : M α := oM (atI xs i)
section
variable {α β γ δ : Type} {e : α → D}
theorem op_oM {x : Option D} {o : Option α} (h : x = o.map e) : OP x (oM o) e := by
  cases o with
  | none => trivial
  | some a => exact h
theorem op_D {x : Option D} : OP x (oM x) eD := by
  cases x with
  | none => trivial
  | some a => rfl
theorem op_atL {xs : List α} {i : Int} : OP (opIx (eL e xs) (eI i)) (pAt xs i) e := op_oM (atI_map e xs i)
theorem op_atT {xs : List α} {i : Int} : OP (opIx (eT e xs) (eI i)) (pAt xs i) e := op_oM (atI_map e xs i)
theorem op_lenL {xs : List α} : opLen (eL e xs) = some (eI (xs.length : Int)) := by simp [opLen, eL]
theorem op_lenT {xs : List α} : opLen (eT e xs) = some (eI (xs.length : Int)) := by simp [opLen, eT]
def pMul (a b : Int) : M Int := if smallI a || smallI b then .ok (a * b) else .stuck
theorem op_mul {a b : Int} : OP (opMul (eI a) (eI b)) (pMul a b) eI := by
  unfold pMul
  by_cases h : (smallI a || smallI b) = true
  · rw [if_pos h]; simp only [OP, opMul, h, if_true]
  · rw [if_neg h]; trivial
def pDiv (a b : Int) : M Int := if b ≠ 0 ∧ b.natAbs < 1073741824 then .ok (a.fdiv b) else .stuck
theorem op_div {a b : Int} : OP (opDiv (eI a) (eI b)) (pDiv a b) eI := by
  unfold pDiv
  by_cases h : b ≠ 0 ∧ b.natAbs < 1073741824
  · rw [if_pos h]; simp only [OP, opDiv, h]; simp [h]
  · rw [if_neg h]; trivial
def pMod (a b : Int) : M Int := if b ≠ 0 then .ok (a.fmod b) else .stuck
theorem op_mod {a b : Int} : OP (opMod (eI a) (eI b)) (pMod a b) eI := by
  unfold pMod
  by_cases h : b ≠ 0
  · rw [if_pos h]; simp only [OP, opMod, h]; simp [h]
  · rw [if_neg h]; trivial
def pCat (xs ys : List α) : M (List α) := if xs.length + ys.length ≤ big then .ok (xs ++ ys) else .stuck
theorem op_catT {xs ys : List α} : OP (opAdd (eT e xs) (eT e ys)) (pCat xs ys) (eT e) := by
  unfold pCat
  by_cases h : xs.length + ys.length ≤ big
  · rw [if_pos h]; simp only [OP, opAdd, eT, List.length_map, h, if_true, List.map_append]
  · rw [if_neg h]; trivial
theorem op_nCat {xs ys : List α} : OP (nAdd (eL e xs) (eL e ys)) (pCat xs ys) (List.map e) := by
  unfold pCat
  by_cases h : xs.length + ys.length ≤ big
  · rw [if_pos h]; simp only [OP, nAdd, eL, List.length_map, h, if_true, List.map_append]
  · rw [if_neg h]; trivial
theorem intsOf_map : ∀ xs : List Int, intsOf (xs.map eI) = some xs
  | [] => rfl
  | x :: xs => by simp [intsOf, intsOf_map xs]
theorem cutD_map {β : Type} (f : α → β) (xs : List α) (lo hi : Option Int) : cutD (xs.map f) lo hi = (cutD xs lo hi).map f := by
  unfold cutD; rw [List.length_map, List.map_take, List.map_drop]
def rng (n : Int) : List Int := (List.range n.toNat).map fun k : Nat => (k : Int)
def rng2 (m n : Int) : List Int := (List.range (n - m).toNat).map fun k : Nat => m + (k : Int)
def pRng (n : Int) : M (List Int) := if n.natAbs ≤ big then .ok (rng n) else .stuck
def pRng2 (m n : Int) : M (List Int) := if m.natAbs ≤ big ∧ n.natAbs ≤ big then .ok (rng2 m n) else .stuck
theorem op_rng {n : Int} : OP (rngD (eI n)) (pRng n) (List.map eI) := by
  unfold pRng
  by_cases h : n.natAbs ≤ big
  · rw [if_pos h]; simp only [OP, rngD, rangeL, h, if_true, rng, List.map_map, eI]; rfl
  · rw [if_neg h]; trivial
theorem op_rng2 {m n : Int} : OP (rngD2 (eI m) (eI n)) (pRng2 m n) (List.map eI) := by
  unfold pRng2
  by_cases h : m.natAbs ≤ big ∧ n.natAbs ≤ big
  · rw [if_pos h]; simp only [OP, rngD2, rangeL2, eI]; rw [if_pos h]; simp only [rng2, List.map_map]; rfl
  · rw [if_neg h]; trivial
theorem rgL_rng {n : Int} : rgL (0, n) = (rng n).map eI := by
  simp only [rgL, rng, List.map_map, Int.sub_zero]
  congr 1; funext k; simp
theorem big_eqI : (big : Int) = 16777216 := rfl
/-- list(range(n)), tuple(range(n)) -/
theorem re_lrg {n : Int} {st : DSt} : RE (fun st => dLstRg (dRg1 (dC (eI n))) st) st (pRng n) (List.map eI) st := by
  unfold pRng
  by_cases h : n.natAbs ≤ big
  · rw [if_pos h]
    have h2 : n ≤ (big : Int) := by have := big_eqI; have : big = 16777216 := rfl; omega
    show dLstRg (dRg1 (dC (eI n))) st = _
    simp only [dLstRg, dRg1, dC, bindD, retD, asI, h, if_true, liftO, h2, rgL_rng]
  · rw [if_neg h]; trivial
theorem re_lrgP {a : Den D} {n : Int} {st st1 : DSt} (h : RV a st (eI n) st1) : RE (dLstRg (dRg1 a)) st (pRng n) (List.map eI) st1 := by
  have e : dLstRg (dRg1 a) st = dLstRg (dRg1 (dC (eI n))) st1 := by simp only [dLstRg, dRg1, bindD, dC, retD]; rw [show a st = _ from h]
  have := re_lrg (n := n) (st := st1)
  revert this
  unfold RE
  cases pRng n with
  | ok c => intro q; rw [e]; exact q
  | exn c fs => intro ⟨s, q⟩; exact ⟨s, by rw [e]; exact q⟩
  | stuck => intro _; trivial
/-- the length of a display -/
theorem op_tup {ds : List D} {d : D} (hl : ds.length ≤ 64) (h : .tup ds = d) : (if ds.length ≤ big then some (D.tup ds) else none) = some d := by
  rw [if_pos (by have : big = 16777216 := rfl; omega), h]
theorem op_lst {ds : List D} {zs : List D} (hl : ds.length ≤ 64) (h : ds = zs) : (if ds.length ≤ big then some ds else none) = some zs := by
  rw [if_pos (by have : big = 16777216 := rfl; omega), h]
end
def mapGo {α β : Type} (f : α → M β) : List α → M (List β)
  | [] => .ok []
  | x :: xs => match f x with
    | .ok y => match mapGo f xs with
      | .ok ys => .ok (y :: ys)
      | _ => .stuck
    | _ => .stuck
def filGo {α β : Type} (p : α → M Bool) (f : α → M β) : List α → M (List β)
  | [] => .ok []
  | x :: xs => match p x with
    | .ok true => (match f x with
      | .ok y => (match filGo p f xs with
        | .ok ys => .ok (y :: ys)
        | _ => .stuck)
      | _ => .stuck)
    | .ok false => filGo p f xs
    | _ => .stuck
def pMap {α β : Type} (f : α → M β) (xs : List α) : M (List β) := if xs.length ≤ big then mapGo f xs else .stuck
def pFil {α β : Type} (p : α → M Bool) (f : α → M β) (xs : List α) : M (List β) := if xs.length ≤ big then filGo p f xs else .stuck
def goP {α β γ : Type} (p : α → M Bool) (g : α → M (List β)) (q : α → β → M Bool) (f : α → β → M γ) : List α → M (List γ)
  | [] => .ok []
  | x :: xs => match p x with
    | .ok true => (match g x with
      | .ok ys => (match filGo (q x) (f x) ys with
        | .ok zs => (match goP p g q f xs with
          | .ok ws => .ok (zs ++ ws)
          | _ => .stuck)
        | _ => .stuck)
      | _ => .stuck)
    | .ok false => goP p g q f xs
    | _ => .stuck
def pFilB {α β γ : Type} (p : α → M Bool) (g : α → M (List β)) (q : α → β → M Bool) (f : α → β → M γ) (xs : List α) : M (List γ) := match goP p g q f xs with
  | .ok zs => if zs.length ≤ big then .ok zs else .stuck
  | _ => .stuck
section
variable {α β γ : Type}
theorem mapGo_fil (f : α → M β) : ∀ xs : List α, mapGo f xs = filGo (fun _ => .ok true) f xs
  | [] => rfl
  | x :: xs => by simp only [mapGo, filGo, mapGo_fil f xs]
theorem mapGo_ok {f : α → M β} {g : α → β} : ∀ {xs : List α}, (∀ x ∈ xs, f x = .ok (g x)) → mapGo f xs = .ok (xs.map g)
  | [], _ => rfl
  | x :: xs, h => by
    have ih := mapGo_ok (f := f) (g := g) (xs := xs) fun x hx => h x (List.mem_cons_of_mem _ hx)
    simp only [mapGo, h x List.mem_cons_self, ih, List.map_cons]
theorem pMap_ok {f : α → M β} (g : α → β) {xs : List α} (hl : xs.length ≤ big) (h : ∀ x ∈ xs, f x = .ok (g x)) : pMap f xs = .ok (xs.map g) := by
  unfold pMap; rw [if_pos hl, mapGo_ok h]
variable {vs : List Nat} {t : Tg} {elt : Den D} {test : Den Bool} {e : α → D} {e2 : β → D} {st st0 : DSt}
theorem compGo_typed {f : α → M β} {p : α → M Bool} (hb : ∀ x, ∃ st1 st2 st3, setT t (e x) st0 = some st1 ∧ RE test st1 (p x) (fun b : Bool => b) st2 ∧ RE elt st2 (f x) e2 st3 ∧ wipeD st2 vs = st0 ∧ wipeD st3 vs = st0) :
    ∀ xs : List α, match filGo p f xs with | .ok ys => compGo vs t test elt (xs.map e) st0 = .ok (ys.map e2) st0 | _ => True
  | [] => rfl
  | x :: xs => by
    obtain ⟨st1, st2, st3, h1, ht, h2, h2', h3⟩ := hb x
    have ih := compGo_typed hb xs
    simp only [filGo]
    cases hp : p x with
    | ok c =>
      rw [hp] at ht
      cases c with
      | true =>
        cases hf : f x with
        | ok y =>
          rw [hf] at h2
          cases hr : filGo p f xs with
          | ok ys =>
            rw [hr] at ih
            simp only [] at ih ⊢
            simp only [List.map_cons, compGo, h1]
            rw [show test st1 = .ok true st2 from ht]
            simp only []
            rw [show elt st2 = _ from h2]
            simp only [h3, ih]
          | exn c fs => trivial
          | stuck => trivial
        | exn c fs => trivial
        | stuck => trivial
      | false =>
        simp only []
        cases hr : filGo p f xs with
        | ok ys =>
          rw [hr] at ih
          simp only [] at ih ⊢
          simp only [List.map_cons, compGo, h1]
          rw [show test st1 = .ok false st2 from ht]
          simp only [h2', ih]
        | exn c fs => trivial
        | stuck => trivial
    | exn c fs => trivial
    | stuck => trivial
theorem filGo_exn {p : α → M Bool} {f : α → M β} {c : Str} {fs : List (Str × D)} : ∀ xs : List α, filGo p f xs ≠ .exn c fs
  | [] => fun z => by cases z
  | x :: xs => fun z => by
    have ih := filGo_exn (p := p) (f := f) (c := c) (fs := fs) xs
    simp only [filGo] at z
    split at z
    · split at z
      · split at z
        · cases z
        · cases z
      · cases z
    · exact ih z
    · cases z
/-- the comprehension behind its list -/
def compK (vs : List Nat) (t : Tg) (test : Den Bool) (elt : Den D) (ds : List D) : Den (List D) := fun st =>
  if ds.length ≤ big ∧ vs.all (plainAt st) = true then
    match compGo vs t test elt ds (wipeD st vs) with
    | .ok ys st' => .ok ys (backD st st' vs)
    | _ => .stuck
  else .stuck
theorem re_compF {xs : List α} {f : α → M β} {p : α → M Bool} (st0 : DSt) (hw : wipeD st vs = st0) (hp : vs.all (plainAt st) = true) (hbk : backD st st0 vs = st)
    (hb : ∀ x, ∃ st1 st2 st3, setT t (e x) st0 = some st1 ∧ RE test st1 (p x) (fun b : Bool => b) st2 ∧ RE elt st2 (f x) e2 st3 ∧ wipeD st2 vs = st0 ∧ wipeD st3 vs = st0) : RE (compK vs t test elt (xs.map e)) st (pFil p f xs) (List.map e2) st := by
  unfold pFil
  by_cases hl : xs.length ≤ big
  · rw [if_pos hl]
    have h := compGo_typed hb xs
    cases hr : filGo p f xs with
    | ok ys =>
      rw [hr] at h
      simp only [] at h
      show compK vs t test elt (xs.map e) st = _
      unfold compK
      rw [if_pos ⟨by rw [List.length_map]; exact hl, hp⟩, hw, h]
      simp only [hbk]
    | exn c fs => exact absurd hr (filGo_exn xs)
    | stuck => trivial
  · rw [if_neg hl]; trivial
theorem re_compM {xs : List α} {f : α → M β} (st0 : DSt) (hw : wipeD st vs = st0) (hp : vs.all (plainAt st) = true) (hbk : backD st st0 vs = st)
    (hb : ∀ x, ∃ st1 st3, setT t (e x) st0 = some st1 ∧ RE elt st1 (f x) e2 st3 ∧ wipeD st1 vs = st0 ∧ wipeD st3 vs = st0) : RE (compK vs t dYes elt (xs.map e)) st (pMap f xs) (List.map e2) st := by
  have h := re_compF (xs := xs) (f := f) (p := fun _ => .ok true) (vs := vs) (t := t) (test := dYes) (elt := elt) (e := e) (e2 := e2) st0 hw hp hbk fun x => by
    obtain ⟨st1, st3, h1, h2, h3, h4⟩ := hb x
    exact ⟨st1, st1, st3, h1, rfl, h2, h3, h4⟩
  unfold pFil at h
  unfold pMap
  rw [mapGo_fil]
  exact h
end
end DL
namespace DL
open PySem L2
def RS {γ : Type} (X : Bool) (f : DS) (st : DSt) (o : M γ) (K : γ → Fl → DSt → Prop) : Prop := match o with
  | .ok c => ∃ fl st', f st = .ok fl st' ∧ K c fl st'
  | .exn c fs => X = true → ∃ s, f st = .exn c fs s
  | .stuck => True
/-- a statement that goes on -/
def RX {γ : Type} (f : DS) (st : DSt) (o : M γ) (S : γ → DSt) : Prop := match o with
  | .ok c => f st = .ok .nx (S c)
  | .exn c fs => ∃ s, f st = .exn c fs s
  | .stuck => True
inductive F (σ ρ : Type) where
  | nx (a : σ) | ret (r : ρ) | brk (a : σ) | cnt (a : σ)
def KN {σ : Type} (I : σ → DSt → Prop) (c : σ) (fl : Fl) (st : DSt) : Prop := fl = .nx ∧ I c st
def KF {σ ρ : Type} (I : σ → DSt → Prop) (R : ρ → Fl → DSt → Prop) (c : F σ ρ) (fl : Fl) (st : DSt) : Prop := match c with
  | .nx a => fl = .nx ∧ I a st
  | .ret r => R r fl st
  | .brk a => fl = .brk ∧ I a st
  | .cnt a => fl = .cnt ∧ I a st
def pfold {α σ : Type} (f : α → σ → M σ) : List α → σ → M σ
  | [], a => .ok a
  | x :: xs, a => (f x a).bind (pfold f xs)
def pfor {α σ ρ : Type} (f : α → σ → M (F σ ρ)) : List α → σ → M (σ ⊕ ρ)
  | [], a => .ok (.inl a)
  | x :: xs, a => (f x a).bind fun c => match c with
    | .nx a => pfor f xs a
    | .cnt a => pfor f xs a
    | .brk a => .ok (.inl a)
    | .ret r => .ok (.inr r)
def pwhile {σ : Type} (t : σ → M Bool) (f : σ → M σ) : Nat → σ → M σ
  | 0, _ => .stuck
  | n + 1, a => (t a).bind fun c => if c = true then (f a).bind (pwhile t f n) else .ok a
def pwhileF {σ ρ : Type} (t : σ → M Bool) (f : σ → M (F σ ρ)) : Nat → σ → M (σ ⊕ ρ)
  | 0, _ => .stuck
  | n + 1, a => (t a).bind fun c => if c = true then (f a).bind fun c => match c with
    | .nx a => pwhileF t f n a
    | .cnt a => pwhileF t f n a
    | .brk a => .ok (.inl a)
    | .ret r => .ok (.inr r) else .ok (.inl a)
def pK {σ ρ γ : Type} (r : σ ⊕ ρ) (k : σ → M γ) (h : ρ → γ) : M γ := match r with
  | .inl a => k a
  | .inr r => .ok (h r)
@[simp] theorem pK_inl {σ ρ γ : Type} (a : σ) (k : σ → M γ) (h : ρ → γ) : pK (.inl a) k h = k a := rfl
@[simp] theorem pK_inr {σ ρ γ : Type} (r : ρ) (k : σ → M γ) (h : ρ → γ) : pK (.inr r) k h = .ok (h r) := rfl
/-- a slot nobody looks at: empty, or with a value -/
def jk : Option D → Slot
  | none => .no
  | some d => .sh d
section
variable {γ δ α β σ ρ τ : Type} {X : Bool} {st st1 st2 : DSt} {K : γ → Fl → DSt → Prop} {o : M γ} {b : DS} {v : α → δ}
theorem rs_last {f : DS} (h : RS X (sSeq f sPass) st o K) : RS X f st o K := by
  have e : sSeq f sPass st = f st := by
    unfold sSeq
    cases hf : f st with
    | ok fl st' => cases fl <;> rfl
    | exn c fs s => rfl
    | stuck => rfl
  cases o with
  | ok c => obtain ⟨fl, st', h1, h2⟩ := h; exact ⟨fl, st', by rw [← e]; exact h1, h2⟩
  | exn c fs => intro hx; obtain ⟨s, h⟩ := h hx; exact ⟨s, by rw [← e]; exact h⟩
  | stuck => trivial
theorem rs_of_eq {f g : DS} {st1 : DSt} (e : f st = g st1) (h : RS X g st1 o K) : RS X f st o K := by
  cases o with
  | ok c => obtain ⟨fl, st', h1, h2⟩ := h; exact ⟨fl, st', by rw [e]; exact h1, h2⟩
  | exn c fs => intro hx; obtain ⟨s, h⟩ := h hx; exact ⟨s, by rw [e]; exact h⟩
  | stuck => trivial
theorem rs_bindP {a : Den δ} {k : δ → DS} {x : δ} (h1 : RV a st x st1) (h2 : RS X (sSeq (k x) b) st1 o K) : RS X (sSeq (bindD a k) b) st o K :=
  rs_of_eq (by unfold sSeq bindD; rw [show a st = _ from h1]) h2
theorem rs_bindG {a : Den δ} {k : δ → DS} {o1 : M α} {o2 : α → M γ} (h1 : RE a st o1 v st1) (h2 : ∀ c, RS X (sSeq (k (v c)) b) st1 (o2 c) K) : RS X (sSeq (bindD a k) b) st (o1.bind o2) K := by
  cases o1 with
  | ok c => exact rs_bindP (show RV a st (v c) st1 from h1) (h2 c)
  | exn c fs => intro _; obtain ⟨s, h⟩ := h1; exact ⟨s, by unfold sSeq bindD; rw [h]⟩
  | stuck => trivial
theorem rs_x {f : DS} {o1 : M α} {o2 : α → M γ} {S : α → DSt} (h1 : RX f st o1 S) (h2 : ∀ c, RS X b (S c) (o2 c) K) : RS X (sSeq f b) st (o1.bind o2) K := by
  cases o1 with
  | ok c => exact rs_of_eq (by unfold sSeq; rw [show f st = _ from h1]) (h2 c)
  | exn c fs => intro _; obtain ⟨s, h⟩ := h1; exact ⟨s, by unfold sSeq; rw [h]⟩
  | stuck => trivial
theorem rs_exec {f : DS} (h1 : f st = .ok .nx st1) (h2 : RS X b st1 o K) : RS X (sSeq f b) st o K := rs_of_eq (by unfold sSeq; rw [h1]) h2
theorem rs_ret {c : γ} {d : D} (h : K c (.ret d) st) : RS X (sSeq (retD (.ret d)) b) st (.ok c) K := ⟨_, _, rfl, h⟩
theorem rs_nx (h : RS X b st o K) : RS X (sSeq (retD .nx) b) st o K := h
theorem rs_end {c : γ} (h : K c .nx st) : RS X sPass st (.ok c) K := ⟨_, _, rfl, h⟩
theorem rs_seq {f g : DS} (h : RS X (sSeq f (sSeq g b)) st o K) : RS X (sSeq (sSeq f g) b) st o K := by
  refine rs_of_eq (g := sSeq f (sSeq g b)) (st1 := st) ?_ h
  unfold sSeq
  cases f st with
  | ok fl s => cases fl <;> rfl
  | exn c fs s => rfl
  | stuck => rfl
theorem rs_put {i : Nat} {s : Slot} (h1 : slotSet i s st = some st1) (h2 : RS X b st1 o K) : RS X (sSeq (putD i s) b) st o K := rs_exec (by unfold putD; rw [h1]) h2
theorem rs_put2 {i : Nat} {s : List (List D)} (h1 : slotSet i (.o2 s) st = some st1) (h2 : RS X b st1 o K) : RS X (sSeq (putD2 i s) b) st o K := rs_exec (by unfold putD2; rw [h1]) h2
theorem rs_ite {x : Bool} {f g : DS} {o1 o2 : M γ} (h1 : x = true → RS X (sSeq f b) st o1 K) (h2 : x = false → RS X (sSeq g b) st o2 K) : RS X (sSeq (if x = true then f else g) b) st (if x = true then o1 else o2) K := by
  cases x with
  | true => exact h1 rfl
  | false => exact h2 rfl
/-- goes on behind -/
theorem rs_join {f : DS} {o1 : M α} {o2 : α → M γ} {I : α → DSt → Prop} (h1 : RS X f st o1 (KN I)) (h2 : ∀ c st', I c st' → RS X b st' (o2 c) K) : RS X (sSeq f b) st (o1.bind o2) K := by
  cases o1 with
  | ok c =>
    obtain ⟨fl, st', e, rfl, hi⟩ := h1
    exact rs_of_eq (st1 := st') (by unfold sSeq; rw [e]) (h2 c st' hi)
  | exn c fs => intro hx; obtain ⟨s, h⟩ := h1 hx; exact ⟨s, by unfold sSeq; rw [h]⟩
  | stuck => trivial
def KS {σ ρ : Type} (I : σ → DSt → Prop) (R : ρ → Fl → DSt → Prop) (c : σ ⊕ ρ) (fl : Fl) (st : DSt) : Prop := match c with
  | .inl a => fl = .nx ∧ I a st
  | .inr r => R r fl st
def KR (K : γ → Fl → DSt → Prop) (h : ρ → γ) (r : ρ) (fl : Fl) (st : DSt) : Prop := (∃ d, fl = .ret d) ∧ K (h r) fl st
theorem rs_joinF {f : DS} {o1 : M (σ ⊕ ρ)} {o2 : σ → M γ} {h : ρ → γ} {I : σ → DSt → Prop} (h1 : RS X f st o1 (KS I (KR K h))) (h2 : ∀ c st', I c st' → RS X b st' (o2 c) K) : RS X (sSeq f b) st (o1.bind fun r => pK r o2 h) K := by
  cases o1 with
  | ok c =>
    obtain ⟨fl, st', e, hk⟩ := h1
    cases c with
    | inl a =>
      obtain ⟨rfl, hi⟩ := hk
      exact rs_of_eq (st1 := st') (by unfold sSeq; rw [e]) (h2 a st' hi)
    | inr r =>
      obtain ⟨⟨d, rfl⟩, hk⟩ := hk
      exact ⟨_, st', by unfold sSeq; rw [e], hk⟩
  | exn c fs => intro hx; obtain ⟨s, h⟩ := h1 hx; exact ⟨s, by unfold sSeq; rw [h]⟩
  | stuck => trivial
variable {t : Tg} {body : DS} {e : α → D} {I : σ → DSt → Prop} {R : ρ → Fl → DSt → Prop}
theorem rs_fold {f : α → σ → M σ} (hb : ∀ x a st, I a st → ∃ st1, setT t (e x) st = some st1 ∧ RS X body st1 (f x a) (KN I)) : ∀ (xs : List α) (a : σ) (st : DSt), I a st → RS X (loop t body (xs.map e)) st (pfold f xs a) (KN I)
  | [], a, st, h => ⟨_, _, rfl, rfl, h⟩
  | x :: xs, a, st, h => by
    obtain ⟨st1, h1, h2⟩ := hb x a st h
    have ih := rs_fold hb xs
    simp only [pfold]
    cases hf : f x a with
    | ok c =>
      rw [hf] at h2
      obtain ⟨fl, st', e1, rfl, hi⟩ := h2
      exact rs_of_eq (st1 := st') (by simp only [List.map_cons, loop, h1, e1]) (ih c st' hi)
    | exn c fs => rw [hf] at h2; intro hx; obtain ⟨s, h2⟩ := h2 hx; exact ⟨s, by simp only [List.map_cons, loop, h1, h2]⟩
    | stuck => trivial
theorem rs_for {f : α → σ → M (F σ ρ)} (hR : ∀ r fl st, R r fl st → ∃ d, fl = .ret d) (hb : ∀ x a st, I a st → ∃ st1, setT t (e x) st = some st1 ∧ RS X body st1 (f x a) (KF I R)) : ∀ (xs : List α) (a : σ) (st : DSt), I a st → RS X (loop t body (xs.map e)) st (pfor f xs a) (KS I R)
  | [], a, st, h => ⟨_, _, rfl, rfl, h⟩
  | x :: xs, a, st, h => by
    obtain ⟨st1, h1, h2⟩ := hb x a st h
    have ih := rs_for hR hb xs
    simp only [pfor]
    cases hf : f x a with
    | ok c =>
      rw [hf] at h2
      obtain ⟨fl, st', e1, hk⟩ := h2
      cases c with
      | nx a => obtain ⟨rfl, hi⟩ := hk; exact rs_of_eq (st1 := st') (by simp only [List.map_cons, loop, h1, e1]) (ih a st' hi)
      | cnt a => obtain ⟨rfl, hi⟩ := hk; exact rs_of_eq (st1 := st') (by simp only [List.map_cons, loop, h1, e1]) (ih a st' hi)
      | brk a => obtain ⟨rfl, hi⟩ := hk; exact ⟨_, st', by simp only [List.map_cons, loop, h1, e1], rfl, hi⟩
      | ret r => obtain ⟨d, rfl⟩ := hR _ _ _ hk; exact ⟨_, st', by simp only [List.map_cons, loop, h1, e1], hk⟩
    | exn c fs => rw [hf] at h2; intro hx; obtain ⟨s, h2⟩ := h2 hx; exact ⟨s, by simp only [List.map_cons, loop, h1, h2]⟩
    | stuck => trivial
theorem rs_while {test : Den Bool} {tp : σ → M Bool} {f : σ → M σ} (ht : ∀ a st, I a st → RE test st (tp a) (fun b : Bool => b) st) (hb : ∀ a st, I a st → RS X body st (f a) (KN I)) : ∀ (n : Nat) (a : σ) (st : DSt), I a st → RS X (sWhile test body n) st (pwhile tp f n a) (KN I)
  | 0, a, st, h => trivial
  | n + 1, a, st, h => by
    have h0 := ht a st h
    have ih := rs_while ht hb n
    simp only [pwhile]
    cases hp : tp a with
    | ok c =>
      rw [hp] at h0
      have h0 : test st = .ok c st := h0
      cases c with
      | false => exact ⟨_, st, by simp only [sWhile, h0], rfl, h⟩
      | true =>
        have h2 := hb a st h
        simp only [bind_ok, if_true]
        cases hf : f a with
        | ok c =>
          rw [hf] at h2
          obtain ⟨fl, st', e1, rfl, hi⟩ := h2
          exact rs_of_eq (st1 := st') (by simp only [sWhile, h0, e1]) (ih c st' hi)
        | exn c fs => rw [hf] at h2; intro hx; obtain ⟨s, h2⟩ := h2 hx; exact ⟨s, by simp only [sWhile, h0, h2]⟩
        | stuck => trivial
    | exn c fs => rw [hp] at h0; intro _; obtain ⟨s, h0⟩ := h0; exact ⟨s, by simp only [sWhile, h0]⟩
    | stuck => trivial
theorem rs_whileF {test : Den Bool} {tp : σ → M Bool} {f : σ → M (F σ ρ)} (hR : ∀ r fl st, R r fl st → ∃ d, fl = .ret d) (ht : ∀ a st, I a st → RE test st (tp a) (fun b : Bool => b) st) (hb : ∀ a st, I a st → RS X body st (f a) (KF I R)) : ∀ (n : Nat) (a : σ) (st : DSt), I a st → RS X (sWhile test body n) st (pwhileF tp f n a) (KS I R)
  | 0, a, st, h => trivial
  | n + 1, a, st, h => by
    have h0 := ht a st h
    have ih := rs_whileF hR ht hb n
    simp only [pwhileF]
    cases hp : tp a with
    | ok c =>
      rw [hp] at h0
      have h0 : test st = .ok c st := h0
      cases c with
      | false => exact ⟨_, st, by simp only [sWhile, h0], rfl, h⟩
      | true =>
        have h2 := hb a st h
        simp only [bind_ok, if_true]
        cases hf : f a with
        | ok c =>
          rw [hf] at h2
          obtain ⟨fl, st', e1, hk⟩ := h2
          cases c with
          | nx a => obtain ⟨rfl, hi⟩ := hk; exact rs_of_eq (st1 := st') (by simp only [sWhile, h0, e1]) (ih a st' hi)
          | cnt a => obtain ⟨rfl, hi⟩ := hk; exact rs_of_eq (st1 := st') (by simp only [sWhile, h0, e1]) (ih a st' hi)
          | brk a => obtain ⟨rfl, hi⟩ := hk; exact ⟨_, st', by simp only [sWhile, h0, e1], rfl, hi⟩
          | ret r => obtain ⟨d, rfl⟩ := hR _ _ _ hk; exact ⟨_, st', by simp only [sWhile, h0, e1], hk⟩
        | exn c fs => rw [hf] at h2; intro hx; obtain ⟨s, h2⟩ := h2 hx; exact ⟨s, by simp only [sWhile, h0, h2]⟩
        | stuck => trivial
    | exn c fs => rw [hp] at h0; intro _; obtain ⟨s, h0⟩ := h0; exact ⟨s, by simp only [sWhile, h0]⟩
    | stuck => trivial
theorem kr_ret {K : γ → Fl → DSt → Prop} {h : ρ → γ} (r : ρ) (fl : Fl) (st : DSt) (q : KR K h r fl st) : ∃ d, fl = .ret d := q.1
/-- a for statement and what stands behind it -/
theorem rs_for0 {xs : List α} {a : σ} {f : α → σ → M σ} {o2 : σ → M γ} (I : σ → DSt → Prop) (h0 : I a st) (hb : ∀ x a st, I a st → ∃ st1, setT t (e x) st = some st1 ∧ RS X body st1 (f x a) (KN I)) (hk : ∀ c st', I c st' → RS X b st' (o2 c) K) :
    RS X (sSeq (loop t body (xs.map e)) b) st ((pfold f xs a).bind o2) K := rs_join (rs_fold hb xs a st h0) hk
theorem rs_for1 {xs : List α} {a : σ} {f : α → σ → M (F σ ρ)} {o2 : σ → M γ} {h : ρ → γ} (I : σ → DSt → Prop) (h0 : I a st) (hb : ∀ x a st, I a st → ∃ st1, setT t (e x) st = some st1 ∧ RS X body st1 (f x a) (KF I (KR K h))) (hk : ∀ c st', I c st' → RS X b st' (o2 c) K) :
    RS X (sSeq (loop t body (xs.map e)) b) st ((pfor f xs a).bind fun r => pK r o2 h) K := rs_joinF (rs_for kr_ret hb xs a st h0) hk
theorem rs_while0 {n : Nat} {a : σ} {test : Den Bool} {tp : σ → M Bool} {f : σ → M σ} {o2 : σ → M γ} (I : σ → DSt → Prop) (h0 : I a st) (ht : ∀ a st, I a st → RE test st (tp a) (fun b : Bool => b) st) (hb : ∀ a st, I a st → RS X body st (f a) (KN I)) (hk : ∀ c st', I c st' → RS X b st' (o2 c) K) :
    RS X (sSeq (sWhile test body n) b) st ((pwhile tp f n a).bind o2) K := rs_join (rs_while ht hb n a st h0) hk
theorem rs_while1 {n : Nat} {a : σ} {test : Den Bool} {tp : σ → M Bool} {f : σ → M (F σ ρ)} {o2 : σ → M γ} {h : ρ → γ} (I : σ → DSt → Prop) (h0 : I a st) (ht : ∀ a st, I a st → RE test st (tp a) (fun b : Bool => b) st) (hb : ∀ a st, I a st → RS X body st (f a) (KF I (KR K h))) (hk : ∀ c st', I c st' → RS X b st' (o2 c) K) :
    RS X (sSeq (sWhile test body n) b) st ((pwhileF tp f n a).bind fun r => pK r o2 h) K := rs_joinF (rs_whileF kr_ret ht hb n a st h0) hk
/-- the end of a def -/
def Kfn {ρ : Type} (e : ρ → D) (r : ρ) (fl : Fl) (_ : DSt) : Prop := fl = .ret (e r) ∨ (fl = .nx ∧ e r = .non)
def Kby {ρ τ : Type} (e : ρ → D) (eτ : τ → D) (r : ρ × List τ) (fl : Fl) (st : DSt) : Prop := (fl = .ret (e r.1) ∨ (fl = .nx ∧ e r.1 = .non)) ∧ ∃ tl, st = .rf 0 (r.2.map eτ) :: tl
theorem fn_F {m n : Nat} {f : DS} {ds : List D} {o : M ρ} {e : ρ → D} (hl : ds.length = m) (h : RS true f (ds.map Slot.sh ++ List.replicate (n - ds.length) .no) o (Kfn e)) : DM (runF m n f ds) o e := by
  unfold runF
  rw [if_pos hl]
  cases o with
  | ok c =>
    obtain ⟨fl, st', e1, hk⟩ := h
    rw [e1]
    rcases hk with rfl | ⟨rfl, hk⟩
    · rfl
    · show M.ok D.non = .ok (e c); rw [hk]
  | exn c fs => obtain ⟨s, h⟩ := h rfl; rw [h]; rfl
  | stuck => trivial
def DR {ρ τ : Type} (m : M (D × List D)) (o : M (ρ × List τ)) (e : ρ → D) (eτ : τ → D) : Prop := match o with
  | .ok c => m = .ok (e c.1, c.2.map eτ)
  | _ => True
theorem fn_R {m n : Nat} {f : DS} {ds : List D} {xs : List τ} {eτ : τ → D} {o : M (ρ × List τ)} {e : ρ → D} (hl : ds.length + 1 = m) (h : RS false f (.rf 0 (xs.map eτ) :: (ds.map Slot.sh ++ List.replicate (n - ds.length - 1) .no)) o (Kby e eτ)) : DR (runR m n f (xs.map eτ) ds) o e eτ := by
  unfold runR
  rw [if_pos hl]
  cases o with
  | ok c =>
    obtain ⟨fl, st', e1, hk, tl, rfl⟩ := h
    rw [e1]
    rcases hk with rfl | ⟨rfl, hk⟩
    · rfl
    · show M.ok (D.non, _) = .ok (e c.1, _); rw [hk]
  | exn c fs => trivial
  | stuck => trivial
/-- .. of a def whose errors nobody asks for -/
def D0 {α : Type} (m : M D) (o : M α) (v : α → D) : Prop := match o with
  | .ok c => m = .ok (v c)
  | _ => True
theorem fn_F0 {m n : Nat} {f : DS} {ds : List D} {o : M ρ} {e : ρ → D} (hl : ds.length = m) (h : RS false f (ds.map Slot.sh ++ List.replicate (n - ds.length) .no) o (Kfn e)) : D0 (runF m n f ds) o e := by
  unfold runF
  rw [if_pos hl]
  cases o with
  | ok c =>
    obtain ⟨fl, st', e1, hk⟩ := h
    rw [e1]
    rcases hk with rfl | ⟨rfl, hk⟩
    · rfl
    · show M.ok D.non = .ok (e c); rw [hk]
  | exn c fs => trivial
  | stuck => trivial
end
end DL
namespace DL
open PySem L2
def pApp {α : Type} (xs : List α) (y : α) : M (List α) := if xs.length < big then .ok (xs ++ [y]) else .stuck
def pSet {α : Type} (xs : List α) (k : Int) (v : α) : M (List α) := match ixN xs.length k with
  | some j => .ok (xs.set j v)
  | none => .stuck
def pSet2 {α : Type} (xss : List (List α)) (k l : Int) (v : α) : M (List (List α)) := (pAt xss k).bind fun r => (pSet r l v).bind fun r => pSet xss k r
def pPopAt {α : Type} (xs : List α) (k : Int) : M (α × List α) := match seqIndex? k xs.length with
  | some j => match xs[j]? with
    | some y => if k.natAbs ≤ big then .ok (y, xs.eraseIdx j) else .stuck
    | none => .stuck
  | none => .stuck
section
variable {α β γ : Type} {e : α → D} {st st1 : DSt} {i : Nat} {xs : List α} {f : Den D}
theorem x_appP {y : α} (h : st[i]? = some (.ow (xs.map e))) (hf : RV f st (e y) st1) (h1 : st1[i]? = some (.ow (xs.map e))) : RX (sExpr (dAppend i f)) st (pApp xs y) (fun ys => st1.set i (.ow (ys.map e))) := by
  unfold pApp
  by_cases hl : xs.length < big
  · rw [if_pos hl]
    show sExpr (dAppend i f) st = _
    simp only [sExpr, dAppend, bindD, dOw, h, mutD, liftO, setOw, retD]
    rw [show f st = _ from hf]
    simp only [h1, List.length_map, hl, if_true, List.map_append, List.map_cons, List.map_nil]
  · rw [if_neg hl]; trivial
theorem x_appG {o : M α} (h : st[i]? = some (.ow (xs.map e))) (hf : RE f st o e st1) (h1 : st1[i]? = some (.ow (xs.map e))) : RX (sExpr (dAppend i f)) st (o.bind fun y => pApp xs y) (fun ys => st1.set i (.ow (ys.map e))) := by
  cases o with
  | ok y => exact x_appP h hf h1
  | exn c fs => obtain ⟨s, hf⟩ := hf; exact ⟨s, by simp only [sExpr, dAppend, bindD, dOw, h]; rw [hf]⟩
  | stuck => trivial
/-- xs[k] = v, behind value and index -/
def storeK (i : Nat) (v : D) (k : D) : DS := match k with
  | .int k => bindD (mutD i fun ds => match ixN ds.length k with | some j => some ((), ds.set j v) | none => none) fun _ => retD .nx
  | _ => fun _ => .stuck
theorem x_setKr {k : Int} {v : α} {n : Nat} (h : st[i]? = some (.rf n (xs.map e))) : RX (storeK i (e v) (eI k)) st (pSet xs k v) (fun ys => st.set i (.rf n (ys.map e))) := by
  unfold pSet
  cases hx : ixN xs.length k with
  | none => trivial
  | some j =>
    show storeK i (e v) (eI k) st = _
    simp only [storeK, bindD, mutD, dOw, h, liftO, List.length_map, hx, setOw, retD, List.map_set]
/-- xs[k][l] = v -/
theorem pAt_j {xs : List α} {k : Int} {r : α} (h : pAt xs k = .ok r) : ∃ j, ixN xs.length k = some j ∧ xs[j]? = some r := by
  unfold pAt oM atI at h
  cases hx : ixN xs.length k with
  | none => rw [hx] at h; cases h
  | some j =>
    rw [hx, Option.bind_some] at h
    cases hy : xs[j]? with
    | none => rw [hy] at h; cases h
    | some y => rw [hy] at h; cases h; exact ⟨j, rfl, hy⟩
theorem x_set2 {xss : List (List α)} {e1 e2 f : Den D} {k l : Int} {v : α} (h : st[i]? = some (.o2 (xss.map (List.map e)))) (hf : RV f st (e v) st) (h1 : RV e1 st (eI k) st) (h2 : RV e2 (st.set i .no) (eI l) (st.set i .no)) :
    RX (sStore2 i e1 e2 f) st (pSet2 xss k l v) (fun ys => st.set i (.o2 (ys.map (List.map e)))) := by
  unfold pSet2
  cases hr : pAt xss k with
  | exn c fs => unfold pAt oM at hr; split at hr <;> cases hr
  | stuck => trivial
  | ok r =>
    obtain ⟨j, hj, hr⟩ := pAt_j hr
    simp only [bind_ok]
    unfold pSet
    cases hl : ixN r.length l with
    | none => trivial
    | some q =>
      simp only [bind_ok, hj]
      have hq := ixN_lt hl
      have hil : i < st.length := by
        rcases Nat.lt_or_ge i st.length with z | z
        · exact z
        · rw [List.getElem?_eq_none z] at h; cases h
      have a1 : rowAt (xss.map (List.map e)) (eI k) = some (j, r.map e) := by simp [rowAt, hj, hr]
      have a2 : rowAt (r.map e) (eI l) = some (q, e (r[q]'hq)) := by simp [rowAt, hl, hq]
      have a3 : (st.set i .no)[i]? = some .no := by rw [List.getElem?_set_self hil]
      show sStore2 i e1 e2 f st = _
      simp only [sStore2, bindD]
      rw [show f st = _ from hf]
      simp only [dO2, h]
      rw [show e1 st = _ from h1]
      simp only [h, liftO, a1, hideD, noX]
      rw [show e2 (st.set i .no) = _ from h2]
      simp only [a2, backO, a3, retD, List.set_set]
      congr 1
      simp [List.map_set]
end
/-- f gives a value, and what the list is then -/
def RT {α τ δ : Type} (f : Den δ) (st : DSt) (o : M (α × τ)) (v : α → δ) (S : τ → DSt) : Prop := match o with
  | .ok p => f st = .ok (v p.1) (S p.2)
  | _ => True
section
variable {α β τ δ ε : Type} {st st1 : DSt} {S : τ → DSt} {v : α → δ} {w : β → ε}
theorem rt_bindP {a : Den δ} {x : δ} {k : δ → Den ε} {o : M (β × τ)} (h1 : RV a st x st1) (h2 : RT (k x) st1 o w S) : RT (bindD a k) st o w S := by
  have e : bindD a k st = k x st1 := by unfold bindD; rw [h1]
  cases o with
  | ok c => show bindD a k st = _; rw [e]; exact h2
  | exn c fs => trivial
  | stuck => trivial
theorem rt_bindS {a : Den δ} {o : M (α × τ)} {k : δ → Den ε} {o2 : α × τ → M (β × τ)} (h1 : RT a st o v S) (h2 : ∀ p, RT (k (v p.1)) (S p.2) (o2 p) w S) : RT (bindD a k) st (o.bind o2) w S := by
  cases o with
  | ok p => exact rt_bindP (show RV a st (v p.1) (S p.2) from h1) (h2 p)
  | exn c fs => trivial
  | stuck => trivial
theorem rt_assoc {ζ : Type} {a : Den δ} {g : δ → Den ε} {k : ε → Den ζ} {o : M (β × τ)} {w : β → ζ} (h : RT (bindD a fun x => bindD (g x) k) st o w S) : RT (bindD (bindD a g) k) st o w S := by
  have e : bindD (bindD a g) k st = bindD a (fun x => bindD (g x) k) st := by unfold bindD; cases a st <;> rfl
  cases o with
  | ok c => show _ = _; rw [e]; exact h
  | exn c fs => trivial
  | stuck => trivial
theorem rt_rv {f : Den δ} {c : α} {r : τ} (h : RV f st (v c) (S r)) : RT f st (.ok (c, r)) v S := h
theorem rt_re {f : Den δ} {o : M α} {r : τ} (h : RE f st o v (S r)) : RT f st (o.bind fun c => .ok (c, r)) v S := by
  cases o with
  | ok c => exact h
  | exn c fs => trivial
  | stuck => trivial
/-- a call, behind its arguments -/
def callK (df : List D → List D → M (D × List D)) (i : Nat) (ds : List D) : Den D := bindD (dOw i) fun ss => bindD (liftM' (df ss ds)) fun r => bindD (setOw i r.2) fun _ => retD r.1
theorem rt_callR {df : List D → List D → M (D × List D)} {i k : Nat} {ds : List D} {eτ : α → D} {xs : List α} {o : M (β × List α)} {w : β → D} {S : List α → DSt} (h : st[i]? = some (.rf k (xs.map eτ))) (hS : ∀ ys : List α, st.set i (.rf k (ys.map eτ)) = S ys) (hd : DR (df (xs.map eτ) ds) o w eτ) : RT (callK df i ds) st o w S := by
  cases o with
  | ok p =>
    have hd : df (xs.map eτ) ds = .ok (w p.1, p.2.map eτ) := hd
    show callK df i ds st = _
    simp only [callK, bindD, dOw, h, liftM', hd, setOw, retD, hS]
  | exn c fs => trivial
  | stuck => trivial
theorem rt_callO {df : List D → List D → M (D × List D)} {i : Nat} {ds : List D} {eτ : α → D} {xs : List α} {o : M (β × List α)} {w : β → D} {S : List α → DSt} (h : st[i]? = some (.ow (xs.map eτ))) (hS : ∀ ys : List α, st.set i (.ow (ys.map eτ)) = S ys) (hd : DR (df (xs.map eτ) ds) o w eτ) : RT (callK df i ds) st o w S := by
  cases o with
  | ok p =>
    have hd : df (xs.map eτ) ds = .ok (w p.1, p.2.map eτ) := hd
    show callK df i ds st = _
    simp only [callK, bindD, dOw, h, liftM', hd, setOw, retD, hS]
  | exn c fs => trivial
  | stuck => trivial
/-- a statement with such an expression -/
theorem rs_bindS {γ : Type} {a : Den δ} {k : δ → DS} {b : DS} {o1 : M (α × τ)} {o2 : α × τ → M γ} {K : γ → Fl → DSt → Prop} (S : τ → DSt) (h1 : RT a st o1 v S) (h2 : ∀ p, RS false (sSeq (k (v p.1)) b) (S p.2) (o2 p) K) : RS false (sSeq (bindD a k) b) st (o1.bind o2) K := by
  cases o1 with
  | ok p => exact rs_bindP (show RV a st (v p.1) (S p.2) from h1) (h2 p)
  | exn c fs => intro z; cases z
  | stuck => trivial
end
end DL
namespace DL
open PySem L2
/-- a list still changed, or not any more -/
def fz (z : Bool) (ds : List D) : Slot := if z = true then .ow ds else .sh (.lst ds)
section
variable {α β γ δ ε σ ρ τ : Type} {st st1 st2 : DSt} {e : α → D}
theorem re_consP {a : Den D} {x : D} {r : Den (List D)} {K : List D → Den δ} {o : M α} {w : α → δ} (h1 : RV a st x st1) (h2 : RE (bindD r fun xs => K (x :: xs)) st1 o w st2) : RE (bindD (dCons a r) K) st o w st2 :=
  re_assoc (re_bindP h1 (re_assoc h2))
theorem re_consG {a : Den D} {r : Den (List D)} {K : List D → Den δ} {o : M α} {v : α → D} {o2 : α → M β} {w : β → δ} (h1 : RE a st o v st1) (h2 : ∀ c, RE (bindD r fun xs => K (v c :: xs)) st1 (o2 c) w st2) : RE (bindD (dCons a r) K) st (o.bind o2) w st2 :=
  re_assoc (re_bindG h1 fun c => re_assoc (h2 c))
theorem re_nil {K : List D → Den δ} {o : M α} {w : α → δ} (h : RE (K []) st o w st2) : RE (bindD dNil K) st o w st2 := re_bindP rv_ret h
theorem rv_cons {a : Den D} {x : D} {r : Den (List D)} {K : List D → Den δ} {y : δ} (h1 : RV a st x st1) (h2 : RV (bindD r fun xs => K (x :: xs)) st1 y st2) : RV (bindD (dCons a r) K) st y st2 :=
  rv_assoc (rv_bind h1 (rv_assoc h2))
theorem rv_nil {K : List D → Den δ} {y : δ} (h : RV (K []) st y st2) : RV (bindD dNil K) st y st2 := rv_bind rv_ret h
theorem rt_consP {S : τ → DSt} {a : Den D} {x : D} {r : Den (List D)} {K : List D → Den δ} {o : M (α × τ)} {w : α → δ} (h1 : RV a st x st1) (h2 : RT (bindD r fun xs => K (x :: xs)) st1 o w S) : RT (bindD (dCons a r) K) st o w S :=
  rt_assoc (rt_bindP h1 (rt_assoc h2))
theorem rt_consS {S : τ → DSt} {a : Den D} {r : Den (List D)} {K : List D → Den δ} {o : M (α × τ)} {v : α → D} {o2 : α × τ → M (β × τ)} {w : β → δ} (h1 : RT a st o v S) (h2 : ∀ p, RT (bindD r fun xs => K (v p.1 :: xs)) (S p.2) (o2 p) w S) : RT (bindD (dCons a r) K) st (o.bind o2) w S :=
  rt_assoc (rt_bindS h1 fun c => rt_assoc (h2 c))
theorem rt_nil {S : τ → DSt} {K : List D → Den δ} {o : M (α × τ)} {w : α → δ} (h : RT (K []) st o w S) : RT (bindD dNil K) st o w S := rt_bindP rv_ret h
theorem re_tail {a : Den δ} {k : δ → Den ε} {o : M α} {v : α → δ} {w : α → ε} (h1 : RE a st o v st1) (h2 : ∀ c, RV (k (v c)) st1 (w c) st2) : RE (bindD a k) st o w st2 := by
  cases o with
  | ok c => exact rv_bind (show RV a st (v c) st1 from h1) (h2 c)
  | exn c fs => obtain ⟨s, h⟩ := h1; exact ⟨s, by unfold bindD; rw [h]⟩
  | stuck => trivial
theorem rt_tail {S : τ → DSt} {a : Den δ} {k : δ → Den ε} {o : M (α × τ)} {v : α → δ} {w : α → ε} (h1 : RT a st o v S) (h2 : ∀ p : α × τ, RV (k (v p.1)) (S p.2) (w p.1) (S p.2)) : RT (bindD a k) st o w S := by
  cases o with
  | ok p => exact rv_bind (show RV a st (v p.1) (S p.2) from h1) (h2 p)
  | exn c fs => trivial
  | stuck => trivial
theorem rs_iteN {X : Bool} {K : γ → Fl → DSt → Prop} {x : Bool} {f g : DS} {o1 o2 : M γ} (h1 : x = true → RS X f st o1 K) (h2 : x = false → RS X g st o2 K) : RS X (if x = true then f else g) st (if x = true then o1 else o2) K := by
  cases x with
  | true => exact h1 rfl
  | false => exact h2 rfl
theorem rs_st {X : Bool} {K : γ → Fl → DSt → Prop} {f : DS} {o : M γ} (st2 : DSt) (e : st = st2) (h : RS X f st2 o K) : RS X f st o K := by subst e; exact h
def pEq (x y : D) : M Bool := oM (eqD x y)
def pNe (x y : D) : M Bool := match eqD x y with | some b => .ok (!b) | none => .stuck
def pNX {α : Type} : M α → M α
  | .ok a => .ok a
  | _ => .stuck
@[simp] theorem pNX_ok {α : Type} (a : α) : pNX (.ok a) = .ok a := rfl
theorem op_eqD {x y : D} : OP (opEq x y) (pEq x y) eB := by unfold pEq opEq; cases eqD x y <;> simp [OP, oM]
theorem op_neD {x y : D} : OP (opNe x y) (pNe x y) eB := by unfold pNe opNe; cases eqD x y <;> simp [OP]
theorem op_slScr {ns : List Int} {lo hi : Option Int} : opSl (.scr ns) lo hi = some (eL eI (cutD ns lo hi)) := by simp only [opSl, eL, ← cutD_map]
def DO {α : Type} (m : Option (List D)) (o : M (List α)) (e : α → D) : Prop := match o with
  | .ok xs => m = some (xs.map e)
  | _ => True
/-- statements, then a new list -/
def RO {α : Type} (a : DS) (r : Den (List D)) (st : DSt) (o : M α) (w : α → List D) : Prop := RS false a st o (fun c fl st' => fl = .nx ∧ ∃ s, r st' = .ok (w c) s)
theorem fn_O {m n : Nat} {a : DS} {r : Den (List D)} {ds : List D} {o : M (List α)} (hl : ds.length = m) (h : RO a r (ds.map Slot.sh ++ List.replicate (n - ds.length) .no) o (List.map e)) : DO (runO m n a r ds) o e := by
  unfold runO
  rw [if_pos hl]
  cases o with
  | ok c =>
    obtain ⟨fl, st', e1, rfl, s, e2⟩ := h
    rw [e1]
    simp only [e2]
    rfl
  | exn c fs => trivial
  | stuck => trivial
theorem rs_endO {r : Den (List D)} {o : M α} {w : α → List D} (h : RE r st o w st2) : RS false sPass st o (fun c fl st' => fl = .nx ∧ ∃ s, r st' = .ok (w c) s) := by
  cases o with
  | ok c => exact ⟨_, _, rfl, rfl, _, h⟩
  | exn c fs => intro z; cases z
  | stuck => trivial
theorem re_liftO {x : Option (List D)} {o : M (List α)} (h : DO x o e) : RE (liftO x) st (pNX o) (List.map e) st := by
  cases o with
  | ok c => show liftO x st = _; rw [show x = _ from h]; rfl
  | exn c fs => trivial
  | stuck => trivial
theorem x_set2G {i : Nat} {xss : List (List α)} {e1 e2 f : Den D} {ov : M α} {ok ol : M Int} (h : st[i]? = some (.o2 (xss.map (List.map e)))) (hf : RE f st ov e st) (h1 : RE e1 st ok eI st) (h2 : RE e2 (st.set i .no) ol eI (st.set i .no)) :
    RX (sStore2 i e1 e2 f) st (pNX (ov.bind fun v => ok.bind fun k => ol.bind fun l => pSet2 xss k l v)) (fun ys => st.set i (.o2 (ys.map (List.map e)))) := by
  cases ov with
  | ok v => cases ok with
    | ok k => cases ol with
      | ok l =>
        have := x_set2 (e := e) (k := k) (l := l) (v := v) h hf h1 h2
        simp only [bind_ok]
        cases hp : pSet2 xss k l v with
        | ok c => rw [hp] at this; exact this
        | exn c fs => trivial
        | stuck => trivial
      | exn c fs => trivial
      | stuck => trivial
    | exn c fs => trivial
    | stuck => trivial
  | exn c fs => trivial
  | stuck => trivial
theorem erase_map {β : Type} (f : α → β) : ∀ (xs : List α) (q : Nat), (xs.map f).eraseIdx q = (xs.eraseIdx q).map f
  | [], _ => rfl
  | x :: xs, 0 => rfl
  | x :: xs, q + 1 => by
    show f x :: (xs.map f).eraseIdx q = f x :: (xs.eraseIdx q).map f
    rw [erase_map f xs q]
/-- xs.append(ys.pop(f)), f changes another list -/
theorem rs_appPop {K : γ → Fl → DSt → Prop} {i j : Nat} {xs ys : List α} {f : Den D} {o : M (Int × τ)} {o2 : Int × τ → α × List α → List α → M γ} {b : DS} (S : τ → DSt) (h : st[i]? = some (.ow (ys.map e))) (hj : st[j]? = some (.ow (xs.map e))) (hf : RT f st o eI S) (h1 : ∀ r, (S r)[i]? = some (.ow (ys.map e))) (h2 : ∀ r, (S r)[j]? = some (.ow (xs.map e))) (hn : i ≠ j)
    (hk : ∀ p q zs, RS false b (((S p.2).set j (.ow (q.2.map e))).set i (.ow (zs.map e))) (o2 p q zs) K) : RS false (sSeq (sExpr (dAppend i (dPopAt j f))) b) st (o.bind fun p => (pPopAt xs p.1).bind fun q => (pApp ys q.1).bind fun zs => o2 p q zs) K := by
  cases o with
  | ok p =>
    have hf : f st = .ok (eI p.1) (S p.2) := hf
    simp only [bind_ok]
    unfold pPopAt
    cases hs : seqIndex? p.1 xs.length with
    | none => trivial
    | some q =>
      simp only []
      cases hq : xs[q]? with
      | none => trivial
      | some y =>
        simp only []
        by_cases hb : p.1.natAbs ≤ big
        · rw [if_pos hb]
          simp only [bind_ok]
          have h3 : ((S p.2).set j (.ow ((xs.eraseIdx q).map e)))[i]? = some (.ow (ys.map e)) := by rw [List.getElem?_set_ne (Ne.symm hn)]; exact h1 p.2
          have hx := x_appP (e := e) (xs := ys) (y := y) (f := fun st => .ok (e y) st) (st := (S p.2).set j (.ow ((xs.eraseIdx q).map e))) (i := i) h3 rfl h3
          have ee : (xs.map e).eraseIdx q = (xs.eraseIdx q).map e := by
            clear hs hq hj h2
            exact erase_map e xs q
          have e1 : sExpr (dAppend i (dPopAt j f)) st = sExpr (dAppend i fun st => .ok (e y) st) ((S p.2).set j (.ow ((xs.eraseIdx q).map e))) := by
            simp only [sExpr, dAppend, dPopAt, bindD, dOw, h, hj, hf, eI, mutD, h2, liftO, popAt, List.length_map, hs, List.getElem?_map, hq, Option.map_some, hb, if_true, setOw, retD, ee, h3]
          have := rs_x (X := false) (b := b) (K := K) hx (fun zs => hk p (y, xs.eraseIdx q) zs)
          exact rs_of_eq (by unfold sSeq; rw [e1]) this
        · rw [if_neg hb]; trivial
  | exn c fs => intro z; cases z
  | stuck => trivial
end
section
variable {α β : Type} {vs : List Nat} {t : Tg} {elt : Den (List D)} {e : α → D} {e2 : β → D} {st st0 : DSt}
def compK2 (vs : List Nat) (t : Tg) (elt : Den (List D)) (ds : List D) : Den (List (List D)) := fun st =>
  if ds.length ≤ big ∧ vs.all (plainAt st) = true then
    match compGo2 vs t elt ds (wipeD st vs) with
    | .ok ys st' => .ok ys (backD st st' vs)
    | _ => .stuck
  else .stuck
theorem compGo2_typed {f : α → M (List β)} (hb : ∀ x, ∃ st1 st3, setT t (e x) st0 = some st1 ∧ RE elt st1 (f x) (List.map e2) st3 ∧ wipeD st3 vs = st0) :
    ∀ xs : List α, match mapGo f xs with | .ok ys => compGo2 vs t elt (xs.map e) st0 = .ok (ys.map (List.map e2)) st0 | _ => True
  | [] => rfl
  | x :: xs => by
    obtain ⟨st1, st3, h1, h2, h3⟩ := hb x
    have ih := compGo2_typed hb xs
    simp only [mapGo]
    cases hf : f x with
    | ok y =>
      rw [hf] at h2
      cases hr : mapGo f xs with
      | ok ys =>
        rw [hr] at ih
        simp only [] at ih ⊢
        simp only [List.map_cons, compGo2, h1]
        rw [show elt st1 = _ from h2]
        simp only [h3, ih]
      | exn c fs => trivial
      | stuck => trivial
    | exn c fs => trivial
    | stuck => trivial
theorem re_comp2 {xs : List α} {f : α → M (List β)} (st0 : DSt) (hw : wipeD st vs = st0) (hp : vs.all (plainAt st) = true) (hbk : backD st st0 vs = st)
    (hb : ∀ x, ∃ st1 st3, setT t (e x) st0 = some st1 ∧ RE elt st1 (f x) (List.map e2) st3 ∧ wipeD st1 vs = st0 ∧ wipeD st3 vs = st0) : RE (compK2 vs t elt (xs.map e)) st (pMap f xs) (List.map (List.map e2)) st := by
  unfold pMap
  by_cases hl : xs.length ≤ big
  · rw [if_pos hl]
    have h := compGo2_typed (vs := vs) (t := t) (elt := elt) (e := e) (e2 := e2) (f := f) (st0 := st0) (fun x => by
      obtain ⟨st1, st3, h1, h2, h3, h4⟩ := hb x
      exact ⟨st1, st3, h1, h2, h4⟩) xs
    cases hr : mapGo f xs with
    | ok ys =>
      rw [hr] at h
      simp only [] at h
      show compK2 vs t elt (xs.map e) st = _
      unfold compK2
      rw [if_pos ⟨by rw [List.length_map]; exact hl, hp⟩, hw, h]
      simp only [hbk]
    | exn c fs => rw [mapGo_fil] at hr; exact absurd hr (filGo_exn xs)
    | stuck => trivial
  · rw [if_neg hl]; trivial
end
end DL
namespace DL
open PySem L2
def ix {α : Type} [Inhabited α] (xs : List α) (i : Int) : α := xs.getD i.toNat default
section
variable {α β σ ρ : Type}
theorem pAt_ok [Inhabited α] {xs : List α} {i : Int} (h0 : 0 ≤ i) (h1 : i < xs.length) : pAt xs i = .ok (ix xs i) := by
  obtain ⟨k, rfl⟩ := Int.eq_ofNat_of_zero_le h0
  have hk : k < xs.length := by omega
  unfold pAt ix
  rw [atI_nat, List.getElem?_eq_getElem hk, List.getD_eq_getElem?_getD]
  simp [hk]
theorem ix_mem [Inhabited α] {xs : List α} {i : Int} (h0 : 0 ≤ i) (h1 : i < xs.length) : ix xs i ∈ xs := by
  unfold ix
  have hk : i.toNat < xs.length := by omega
  rw [List.getD_eq_getElem?_getD, List.getElem?_eq_getElem hk]
  simp
theorem mem_ix [Inhabited α] {xs : List α} {x : α} (h : x ∈ xs) : ∃ i : Int, 0 ≤ i ∧ i < xs.length ∧ ix xs i = x := by
  obtain ⟨k, hk, rfl⟩ := List.getElem_of_mem h
  refine ⟨(k : Int), by omega, by omega, ?_⟩
  simp [ix, hk]
theorem ix_ext [Inhabited α] {xs ys : List α} (hl : xs.length = ys.length) (h : ∀ i : Int, 0 ≤ i → i < xs.length → ix xs i = ix ys i) : xs = ys := by
  apply List.ext_getElem hl
  intro k h1 h2
  have := h k (by omega) (by omega)
  simpa [ix, h1, h2] using this
theorem ix_app2 [Inhabited α] {xs ys : List α} {i : Int} (h : (xs.length : Int) ≤ i) : ix (xs ++ ys) i = ix ys (i - xs.length) := by
  unfold ix
  have hk : xs.length ≤ i.toNat := by omega
  rw [List.getD_eq_getElem?_getD, List.getD_eq_getElem?_getD, List.getElem?_append_right hk]
  congr 2; omega
@[simp] theorem ix_cons0 [Inhabited α] {x : α} {xs : List α} : ix (x :: xs) 0 = x := rfl
theorem ix_cons [Inhabited α] {x : α} {xs : List α} {i : Int} (h : 0 < i) : ix (x :: xs) i = ix xs (i - 1) := by
  unfold ix
  obtain ⟨k, hk⟩ : ∃ k : Nat, i = k + 1 := ⟨(i - 1).toNat, by omega⟩
  subst hk
  have : ((k : Int) + 1).toNat = k + 1 := by omega
  rw [this]
  simp
theorem ix_map [Inhabited α] [Inhabited β] {f : α → β} {xs : List α} {i : Int} (h0 : 0 ≤ i) (h : i < xs.length) : ix (xs.map f) i = f (ix xs i) := by
  unfold ix
  have hk : i.toNat < xs.length := by omega
  simp [hk]
@[simp] theorem mem_rng {n x : Int} : x ∈ rng n ↔ 0 ≤ x ∧ x < n := by
  unfold rng
  rw [List.mem_map]
  constructor
  · rintro ⟨k, hk, rfl⟩
    rw [List.mem_range] at hk
    omega
  · intro ⟨h0, h1⟩
    exact ⟨x.toNat, by rw [List.mem_range]; omega, by omega⟩
theorem mem_rng2 {m n x : Int} : x ∈ rng2 m n ↔ m ≤ x ∧ x < n := by
  unfold rng2
  rw [List.mem_map]
  constructor
  · rintro ⟨k, hk, rfl⟩
    rw [List.mem_range] at hk
    omega
  · intro ⟨h0, h1⟩
    exact ⟨(x - m).toNat, by rw [List.mem_range]; omega, by omega⟩
@[simp] theorem len_rng {n : Int} : (rng n).length = n.toNat := by simp [rng]
@[simp] theorem len_rng2 {m n : Int} : (rng2 m n).length = (n - m).toNat := by simp [rng2]
theorem rng_nodup {n : Int} : (rng n).Nodup := by
  unfold rng
  exact List.nodup_range.map _ (fun a b h => by omega) |> id
theorem ix_rng {n i : Int} (h0 : 0 ≤ i) (h : i < n) : ix (rng n) i = i := by
  unfold ix rng
  have hk : i.toNat < n.toNat := by omega
  simp [hk]; omega
theorem ix_map_rng [Inhabited β] {f : Int → β} {n i : Int} (h0 : 0 ≤ i) (h : i < n) : ix ((rng n).map f) i = f i := by
  rw [ix_map h0 (by rw [len_rng]; omega), ix_rng h0 h]
@[simp] theorem rng_zero : rng 0 = [] := rfl
theorem pRng_ok {n : Int} (h0 : 0 ≤ n) (h : n ≤ 16777216) : pRng n = .ok (rng n) := by
  unfold pRng
  rw [if_pos (by have : big = 16777216 := rfl; omega)]
theorem pApp_ok {xs : List α} {y : α} (h : xs.length < 16777216) : pApp xs y = .ok (xs ++ [y]) := by
  unfold pApp
  rw [if_pos (by have : big = 16777216 := rfl; omega)]
theorem pCat_ok {xs ys : List α} (h : xs.length + ys.length ≤ 16777216) : pCat xs ys = .ok (xs ++ ys) := by
  unfold pCat
  rw [if_pos (by have : big = 16777216 := rfl; omega)]
theorem pMul_ok2 {a b : Int} (h : b.natAbs < 18446744073709551616) : pMul a b = .ok (a * b) := by
  unfold pMul smallI
  simp [h]
theorem pDiv_ok {a b : Int} (h : 0 < b) (h2 : b < 1073741824) : pDiv a b = .ok (a / b) := by
  unfold pDiv
  rw [if_pos (by omega), Int.fdiv_eq_ediv_of_nonneg _ (by omega)]
theorem pMod_ok {a b : Int} (h : 0 < b) : pMod a b = .ok (a % b) := by
  unfold pMod
  rw [if_pos (by omega), Int.fmod_eq_emod_of_nonneg _ (by omega)]
theorem pSet_ok {xs : List α} {k : Int} {v : α} (h0 : 0 ≤ k) (h : k < xs.length) : pSet xs k v = .ok (xs.set k.toNat v) := by
  obtain ⟨j, rfl⟩ := Int.eq_ofNat_of_zero_le h0
  unfold pSet
  rw [ixN_nat, if_pos (by omega)]
  simp
/-- the first place -/
def idx [DecidableEq α] (xs : List α) (x : α) : Int := (xs.idxOf x : Int)
theorem pIndex_ok [DecidableEq α] {xs : List α} {x : α} (h : x ∈ xs) : pIndex xs x = .ok (idx xs x) := by unfold pIndex idx; rw [if_pos h]
theorem ix_set [Inhabited α] {xs : List α} {k i : Int} {v : α} (h0 : 0 ≤ k) (h : k < xs.length) (h2 : 0 ≤ i) : ix (xs.set k.toNat v) i = if i = k then v else ix xs i := by
  unfold ix
  have hk : k.toNat < xs.length := by omega
  by_cases e : i = k
  · subst e; simp [hk]
  · rw [if_neg e, List.getD_eq_getElem?_getD, List.getElem?_set_ne (by omega), ← List.getD_eq_getElem?_getD]
theorem ix_idx [DecidableEq α] [Inhabited α] {xs : List α} {x : α} (h : x ∈ xs) : ix xs (idx xs x) = x := by
  have := List.idxOf_lt_length_of_mem h
  unfold ix idx
  simp [this]
theorem idx_lt [DecidableEq α] {xs : List α} {x : α} (h : x ∈ xs) : 0 ≤ idx xs x ∧ idx xs x < xs.length := by
  have := List.idxOf_lt_length_of_mem h
  unfold idx
  omega
theorem pfold_inv {F : α → σ → M σ} (I : List α → σ → Prop) : ∀ (xs pre : List α) (a : σ), I pre a → (∀ p x q a, pre ++ xs = p ++ x :: q → I p a → ∃ b, F x a = .ok b ∧ I (p ++ [x]) b) → ∃ b, pfold F xs a = .ok b ∧ I (pre ++ xs) b
  | [], pre, a, h, _ => ⟨a, rfl, by simpa using h⟩
  | x :: xs, pre, a, h, hs => by
    obtain ⟨b, h1, h2⟩ := hs pre x xs a rfl h
    obtain ⟨c, h3, h4⟩ := pfold_inv I xs (pre ++ [x]) b h2 (fun p y q a e => hs p y q a (by rw [← e]; simp))
    exact ⟨c, by simp only [pfold, h1, bind_ok, h3], by simpa using h4⟩
/-- a loop that appends -/
theorem pfold_app {F : α → List β → M (List β)} (g : α → β) : ∀ (xs : List α) (a : List β), a.length + xs.length ≤ 16777216 → (∀ x ∈ xs, ∀ a : List β, a.length < 16777216 → F x a = .ok (a ++ [g x])) → pfold F xs a = .ok (a ++ xs.map g)
  | [], a, _, _ => by simp [pfold]
  | x :: xs, a, hl, h => by
    simp only [List.length_cons] at hl
    simp only [pfold, h x List.mem_cons_self a (by omega), bind_ok]
    rw [pfold_app g xs (a ++ [g x]) (by simp; omega) fun y hy => h y (List.mem_cons_of_mem _ hy)]
    simp
theorem rng_split {n x : Int} {p q : List Int} (e : rng n = p ++ x :: q) : p = rng x ∧ 0 ≤ x ∧ x < n := by
  have hx : x ∈ rng n := by rw [e]; simp
  have hx := mem_rng.mp hx
  have hlen : (p.length : Int) = x := by
    have h1 : ix (rng n) (p.length : Int) = x := by
      rw [e, ix_app2 (Int.le_refl _)]; simp
    have hl : p.length < (rng n).length := by rw [e]; simp
    rw [len_rng] at hl
    rwa [ix_rng (by omega) (by omega)] at h1
  refine ⟨?_, hx⟩
  have h2 : p = (rng n).take p.length := by rw [e]; simp
  rw [h2]
  apply ix_ext
  · simp; omega
  · intro i h0 h1
    simp at h1
    rw [ix_rng h0 (by omega)]
    unfold ix
    rw [List.getD_eq_getElem?_getD, List.getElem?_take_of_lt (by omega), ← List.getD_eq_getElem?_getD]
    exact ix_rng (n := n) h0 (by omega)
theorem pfold_rng {F : Int → σ → M σ} (I : Int → σ → Prop) {n : Int} {a : σ} (hn : 0 ≤ n) (h0 : I 0 a) (hs : ∀ k a, 0 ≤ k → k < n → I k a → ∃ b, F k a = .ok b ∧ I (k + 1) b) : ∃ b, pfold F (rng n) a = .ok b ∧ I n b := by
  obtain ⟨b, h1, h2⟩ := pfold_inv (F := F) (fun p a => I p.length a) (rng n) [] a (by simpa using h0) (fun p x q a e hi => by
    simp only [List.nil_append] at e
    obtain ⟨rfl, h1, h2⟩ := rng_split e
    obtain ⟨b, h3, h4⟩ := hs x a h1 h2 (by rw [len_rng] at hi; rwa [Int.toNat_of_nonneg h1] at hi)
    refine ⟨b, h3, ?_⟩
    rw [List.length_append, len_rng]
    simpa [Int.toNat_of_nonneg h1] using h4)
  refine ⟨b, h1, ?_⟩
  simpa [Int.toNat_of_nonneg hn] using h2
theorem pfor_test {F : α → σ → M (DL.F σ ρ)} {a : σ} {p : α → Bool} {r : ρ} : ∀ {xs : List α}, (∀ x ∈ xs, F x a = .ok (if p x = true then .nx a else .ret r)) → pfor F xs a = .ok (if xs.all p = true then .inl a else .inr r)
  | [], _ => rfl
  | x :: xs, h => by
    have h1 := h x List.mem_cons_self
    by_cases hp : p x = true
    · rw [if_pos hp] at h1
      simp only [pfor, h1, bind_ok]
      rw [pfor_test (p := p) (r := r) fun y hy => h y (List.mem_cons_of_mem _ hy)]
      simp [hp]
    · rw [if_neg hp] at h1
      simp only [pfor, h1, bind_ok]
      simp [hp]
end
def mul (T : List (List Int)) (x y : Int) : Int := ix (ix T x) y
def tab (n : Int) (f : Int → Int → Int) : List (List Int) := (rng n).map fun x => (rng n).map fun y => f x y
structure VT (n : Int) (T : List (List Int)) : Prop where
  len : (T.length : Int) = n
  row : ∀ r ∈ T, (r.length : Int) = n
  ent : ∀ r ∈ T, ∀ x ∈ r, 0 ≤ x ∧ x < n
section
variable {n : Int} {T : List (List Int)} {f : Int → Int → Int} {x y : Int}
theorem VT.n0 (V : VT n T) : 0 ≤ n := by have := V.len; omega
theorem VT.rowAt (V : VT n T) (h0 : 0 ≤ x) (h1 : x < n) : ix T x ∈ T := ix_mem h0 (by rw [V.len]; exact h1)
theorem VT.rlen (V : VT n T) (h0 : 0 ≤ x) (h1 : x < n) : ((ix T x).length : Int) = n := V.row _ (V.rowAt h0 h1)
theorem VT.lt (V : VT n T) (h0 : 0 ≤ x) (h1 : x < n) (h2 : 0 ≤ y) (h3 : y < n) : 0 ≤ mul T x y ∧ mul T x y < n := V.ent _ (V.rowAt h0 h1) _ (ix_mem h2 (by rw [V.rlen h0 h1]; exact h3))
theorem VT.at1 (V : VT n T) (h0 : 0 ≤ x) (h1 : x < n) : pAt T x = .ok (ix T x) := pAt_ok h0 (by rw [V.len]; exact h1)
theorem VT.at2 (V : VT n T) (h0 : 0 ≤ x) (h1 : x < n) (h2 : 0 ≤ y) (h3 : y < n) : pAt (ix T x) y = .ok (mul T x y) := pAt_ok h2 (by rw [V.rlen h0 h1]; exact h3)
theorem VT_tab (hn : 0 ≤ n) (h : ∀ x y, 0 ≤ x → x < n → 0 ≤ y → y < n → 0 ≤ f x y ∧ f x y < n) : VT n (tab n f) := by
  refine ⟨by simp [tab]; omega, fun r hr => ?_, fun r hr y hy => ?_⟩
  · obtain ⟨x, _, rfl⟩ := List.mem_map.mp hr
    simp; omega
  · obtain ⟨x, hx, rfl⟩ := List.mem_map.mp hr
    obtain ⟨y', hy2, rfl⟩ := List.mem_map.mp hy
    rw [mem_rng] at hx hy2
    exact h x y' hx.1 hx.2 hy2.1 hy2.2
end
/-- a table made by two blocks, one in the other -/
theorem pMap_tab {n : Int} {F : Int → Int → M Int} {f : Int → Int → Int} (h0 : 0 ≤ n) (hn : n ≤ 16777216) (h : ∀ x y, 0 ≤ x → x < n → 0 ≤ y → y < n → F x y = .ok (f x y)) : pMap (fun x => pMap (F x) (rng n)) (rng n) = .ok (tab n f) := by
  refine pMap_ok (fun x => (rng n).map (f x)) (by rw [len_rng]; have : big = 16777216 := rfl; omega) fun x hx => ?_
  rw [mem_rng] at hx
  refine pMap_ok (f x) (by rw [len_rng]; have : big = 16777216 := rfl; omega) fun y hy => ?_
  rw [mem_rng] at hy
  exact h x y hx.1 hx.2 hy.1 hy.2
def Ok {α : Type} (o : M α) (Q : α → Prop) : Prop := ∃ a, o = .ok a ∧ Q a
section
variable {α β σ ρ : Type}
theorem Ok.pure {a : α} {Q : α → Prop} (q : Q a) : Ok (.ok a) Q := ⟨a, rfl, q⟩
theorem Ok.bind {o : M α} {k : α → M β} {P : α → Prop} {Q : β → Prop} (h : Ok o P) (hk : ∀ a, P a → Ok (k a) Q) : Ok (o.bind k) Q := by
  obtain ⟨a, rfl, p⟩ := h
  exact hk a p
theorem Ok.imp {o : M α} {P Q : α → Prop} (h : Ok o P) (i : ∀ a, P a → Q a) : Ok o Q := let ⟨a, e, p⟩ := h; ⟨a, e, i a p⟩
theorem Ok.ite {x : Bool} {o1 o2 : M α} {Q : α → Prop} (h1 : x = true → Ok o1 Q) (h2 : x = false → Ok o2 Q) : Ok (if x = true then o1 else o2) Q := by
  cases x with
  | true => exact h1 rfl
  | false => exact h2 rfl
theorem Ok.eq {o : M α} {a : α} (h : Ok o (fun b => b = a)) : o = .ok a := by obtain ⟨b, e, rfl⟩ := h; exact e
theorem Ok.nx {o : M α} {Q : α → Prop} (h : Ok o Q) : Ok (pNX o) Q := by obtain ⟨a, rfl, q⟩ := h; exact ⟨a, rfl, q⟩
theorem Ok.fold {F : α → σ → M σ} {xs : List α} {a : σ} {Q : σ → Prop} (I : List α → σ → Prop) (h0 : I [] a) (hs : ∀ p x q a, xs = p ++ x :: q → I p a → Ok (F x a) (I (p ++ [x]))) (hq : ∀ b, I xs b → Q b) : Ok (pfold F xs a) Q := by
  obtain ⟨b, e, h⟩ := pfold_inv I xs [] a h0 hs
  exact ⟨b, e, hq b h⟩
theorem Ok.fold_rng {F : Int → σ → M σ} {n : Int} {a : σ} {Q : σ → Prop} (I : Int → σ → Prop) (hn : 0 ≤ n) (h0 : I 0 a) (hs : ∀ k a, 0 ≤ k → k < n → I k a → Ok (F k a) (I (k + 1))) (hq : ∀ b, I n b → Q b) : Ok (pfold F (rng n) a) Q := by
  obtain ⟨b, e, h⟩ := pfold_rng I hn h0 hs
  exact ⟨b, e, hq b h⟩
/-- an invariant that holds at each turn -/
theorem Ok.fold_all {F : α → σ → M σ} {xs : List α} {a : σ} (I : σ → Prop) (h0 : I a) (hs : ∀ x ∈ xs, ∀ a, I a → Ok (F x a) I) : Ok (pfold F xs a) I :=
  Ok.fold (fun _ => I) h0 (fun p x q a e h => hs x (by rw [e]; simp) a h) fun _ h => h
theorem Ok.map {f : α → M β} {xs : List α} {Q : β → Prop} (hl : xs.length ≤ 16777216) (h : ∀ x ∈ xs, Ok (f x) Q) : Ok (pMap f xs) (fun ys => ys.length = xs.length ∧ ∀ y ∈ ys, Q y) := by
  unfold pMap
  rw [if_pos (by have : big = 16777216 := rfl; omega)]
  clear hl
  induction xs with
  | nil => exact ⟨[], rfl, rfl, fun _ h => by cases h⟩
  | cons x xs ih =>
    obtain ⟨y, e, q⟩ := h x List.mem_cons_self
    obtain ⟨ys, e2, hl, q2⟩ := ih fun z hz => h z (List.mem_cons_of_mem _ hz)
    refine ⟨y :: ys, by simp only [mapGo, e, e2], by simp [hl], fun z hz => ?_⟩
    rcases List.mem_cons.mp hz with rfl | hz
    · exact q
    · exact q2 z hz
end
structure Good (s t : Int) : Prop where
  s0 : 0 ≤ s
  t0 : 0 ≤ t
  t1 : t < 2147483647
def StOk (r : List Int) : Prop := ∃ s t, r = [s, t] ∧ Good s t
/-- from any state a value with Q comes, and a state -/
def Draw {α : Type} (f : List Int → M (α × List Int)) (Q : α → Prop) : Prop := ∀ r, StOk r → Ok (f r) (fun p => Q p.1 ∧ StOk p.2)
theorem Draw.imp {α : Type} {f : List Int → M (α × List Int)} {Q R : α → Prop} (h : Draw f Q) (i : ∀ a, Q a → R a) : Draw f R := fun r g => (h r g).imp fun _ q => ⟨i _ q.1, q.2⟩
end DL
namespace DL
open PySem L2
section
variable {α β γ : Type} {vs vs1 : List Nat} {t t1 : Tg} {fi1 : Den (List D)} {test test1 : Den Bool} {elt : Den D} {e : α → D} {e1 : β → D} {e2 : γ → D} {st : DSt}
def compKB (vs vs1 : List Nat) (t : Tg) (test : Den Bool) (t1 : Tg) (fi1 : Den (List D)) (test1 : Den Bool) (elt : Den D) (ds : List D) : Den (List D) := fun st =>
  if vs.all (plainAt st) = true then
    match goB vs vs1 t test t1 fi1 test1 elt ds (wipeD st vs) with
    | .ok ys st' => if ys.length ≤ big then .ok ys (backD st st' vs) else .stuck
    | _ => .stuck
  else .stuck
theorem goB_typed {p : α → M Bool} {g : α → M (List β)} {q : α → β → M Bool} {f : α → β → M γ} {st0 : DSt}
    (hb : ∀ x, ∃ sa sb sc sd, setT t (e x) st0 = some sa ∧ RE test sa (p x) (fun b : Bool => b) sb ∧ RE fi1 sb (g x) (List.map e1) sc ∧ wipeD sc vs1 = sd ∧ wipeD sd vs = st0 ∧ wipeD sb vs = st0 ∧
      ∀ y, ∃ s1 s2 s3, setT t1 (e1 y) sd = some s1 ∧ RE test1 s1 (q x y) (fun b : Bool => b) s2 ∧ RE elt s2 (f x y) e2 s3 ∧ wipeD s2 vs1 = sd ∧ wipeD s3 vs1 = sd) :
    ∀ xs : List α, match goP p g q f xs with | .ok ys => goB vs vs1 t test t1 fi1 test1 elt (xs.map e) st0 = .ok (ys.map e2) st0 | _ => True
  | [] => rfl
  | x :: xs => by
    obtain ⟨sa, sb, sc, sd, h1, h2, h3, h4, h5, h5', h6⟩ := hb x
    have ih := goB_typed hb xs
    simp only [goP]
    cases hp : p x with
    | ok c =>
      rw [hp] at h2
      have h2 : test sa = .ok c sb := h2
      cases c with
      | true =>
        simp only []
        cases hg : g x with
        | ok ys =>
          rw [hg] at h3
          have h3 : fi1 sb = .ok (ys.map e1) sc := h3
          simp only []
          have hin := compGo_typed (vs := vs1) (t := t1) (test := test1) (elt := elt) (e := e1) (e2 := e2) (p := q x) (f := f x) (st0 := sd) h6 ys
          cases hr : filGo (q x) (f x) ys with
          | ok zs =>
            rw [hr] at hin
            simp only [] at hin ⊢
            cases hq : goP p g q f xs with
            | ok ws =>
              rw [hq] at ih
              simp only [] at ih ⊢
              simp only [List.map_cons, goB, h1, h2, h3, h4, hin, h5, ih, List.map_append]
            | exn c fs => trivial
            | stuck => trivial
          | exn c fs => trivial
          | stuck => trivial
        | exn c fs => trivial
        | stuck => trivial
      | false =>
        simp only []
        cases hq : goP p g q f xs with
        | ok ws =>
          rw [hq] at ih
          simp only [] at ih ⊢
          simp only [List.map_cons, goB, h1, h2, h5', ih]
        | exn c fs => trivial
        | stuck => trivial
    | exn c fs => trivial
    | stuck => trivial
theorem re_compB {xs : List α} {p : α → M Bool} {g : α → M (List β)} {q : α → β → M Bool} {f : α → β → M γ} (st0 : DSt) (hw : wipeD st vs = st0) (hp : vs.all (plainAt st) = true) (hbk : backD st st0 vs = st)
    (hb : ∀ x, ∃ sa sb sc sd, setT t (e x) st0 = some sa ∧ RE test sa (p x) (fun b : Bool => b) sb ∧ RE fi1 sb (g x) (List.map e1) sc ∧ wipeD sc vs1 = sd ∧ wipeD sd vs = st0 ∧ wipeD sb vs = st0 ∧
      ∀ y, ∃ s1 s2 s3, setT t1 (e1 y) sd = some s1 ∧ RE test1 s1 (q x y) (fun b : Bool => b) s2 ∧ RE elt s2 (f x y) e2 s3 ∧ wipeD s2 vs1 = sd ∧ wipeD s3 vs1 = sd) :
    RE (compKB vs vs1 t test t1 fi1 test1 elt (xs.map e)) st (pFilB p g q f xs) (List.map e2) st := by
  unfold pFilB
  have h := goB_typed (vs := vs) (vs1 := vs1) (t := t) (t1 := t1) (fi1 := fi1) (test := test) (test1 := test1) (elt := elt) (e := e) (e1 := e1) (e2 := e2) hb xs
  cases hr : goP p g q f xs with
  | ok ys =>
    rw [hr] at h
    simp only [] at h ⊢
    by_cases hl : ys.length ≤ big
    · rw [if_pos hl]
      show compKB vs vs1 t test t1 fi1 test1 elt (xs.map e) st = _
      unfold compKB
      rw [if_pos hp, hw, h]
      simp only [List.length_map, hl, if_true, hbk]
    · rw [if_neg hl]; trivial
  | exn c fs => trivial
  | stuck => trivial
end
end DL
namespace DL
open PySem L2
section
variable {α τ : Type} {st st1 : DSt} {e : α → D}
theorem rv_frzN {a : Den (List D)} {ds : List D} {d : D} (h : RV a st ds st1) (hd : .lst ds = d) : RV (dFrz a) st d st1 := by subst hd; exact rv_bind h rv_ret
theorem re_frzN {a : Den (List D)} {o : M (List α)} (h : RE a st o (List.map e) st1) : RE (dFrz a) st o (eL e) st1 := re_tail h fun _ => rv_ret
theorem rt_frzN {a : Den (List D)} {o : M (List α × τ)} {S : τ → DSt} (h : RT a st o (List.map e) S) : RT (dFrz a) st o (eL e) S := rt_tail h fun _ => rv_ret
theorem rv_tst {a : Den D} {x : Bool} (h : RV a st (eB x) st1) : RV (dTst a) st x st1 := rv_bind h (rv_lift rfl)
theorem re_tst {a : Den D} {o : M Bool} (h : RE a st o eB st1) : RE (dTst a) st o (fun b : Bool => b) st1 := re_tail h fun _ => rv_lift rfl
theorem rt_tst {a : Den D} {o : M (Bool × τ)} {S : τ → DSt} (h : RT a st o eB S) : RT (dTst a) st o (fun b : Bool => b) S := rt_tail h fun _ => rv_lift rfl
end
end DL
namespace DL
open PySem L2
section
variable {α β γ τ : Type} {st st' : DSt} {S : τ → DSt} {X : Bool} {K : γ → Fl → DSt → Prop} {c : DS} {o : M γ}
theorem rv_dOp1 {op : D → Option D} {a : Den D} {y : D} (hh : RV (bindD a fun x => liftO (op x)) st y st') : RV (dOp1 op a) st y st' := hh
theorem re_dOp1 {op : D → Option D} {a : Den D} {o : M α} {v : α → D} (hh : RE (bindD a fun x => liftO (op x)) st o v st') : RE (dOp1 op a) st o v st' := hh
theorem rv_dOp2 {op : D → D → Option D} {a b : Den D} {y : D} (hh : RV (bindD a fun x => bindD b fun y => liftO (op x y)) st y st') : RV (dOp2 op a b) st y st' := hh
theorem re_dOp2 {op : D → D → Option D} {a b : Den D} {o : M α} {v : α → D} (hh : RE (bindD a fun x => bindD b fun y => liftO (op x y)) st o v st') : RE (dOp2 op a b) st o v st' := hh
theorem rt_dOp2 {op : D → D → Option D} {a b : Den D} {o : M (α × τ)} {v : α → D} (hh : RT (bindD a fun x => bindD b fun y => liftO (op x y)) st o v S) : RT (dOp2 op a b) st o v S := hh
theorem re_dOp2n {op : D → D → Option D} {i : Nat} {b : Den D} {o : M α} {v : α → D} (hh : RE (bindD (dRd i) fun _ => bindD b fun y => bindD (dRd i) fun x => liftO (op x y)) st o v st') : RE (dOp2n op i b) st o v st' := hh
theorem rv_dOp2m {op : D → D → Option D} {a : Den D} {j : Nat} {y : D} (hh : RV (bindD a fun x => bindD (dRd j) fun y => liftO (op x y)) st y st') : RV (dOp2m op a j) st y st' := hh
theorem re_dOp2m {op : D → D → Option D} {a : Den D} {j : Nat} {o : M α} {v : α → D} (hh : RE (bindD a fun x => bindD (dRd j) fun y => liftO (op x y)) st o v st') : RE (dOp2m op a j) st o v st' := hh
theorem rv_dOp1n {op : D → Option D} {i : Nat} {y : D} (hh : RV (bindD (dRd i) fun x => liftO (op x)) st y st') : RV (dOp1n op i) st y st' := hh
theorem re_dOp1n {op : D → Option D} {i : Nat} {o : M α} {v : α → D} (hh : RE (bindD (dRd i) fun x => liftO (op x)) st o v st') : RE (dOp1n op i) st o v st' := hh
theorem rv_dN1n {op : D → Option (List D)} {i : Nat} {y : (List D)} (hh : RV (bindD (dRd i) fun x => liftO (op x)) st y st') : RV (dN1n op i) st y st' := hh
theorem re_dN1n {op : D → Option (List D)} {i : Nat} {o : M α} {v : α → (List D)} (hh : RE (bindD (dRd i) fun x => liftO (op x)) st o v st') : RE (dN1n op i) st o v st' := hh
theorem re_dN2 {op : D → D → Option (List D)} {a b : Den D} {o : M α} {v : α → (List D)} (hh : RE (bindD a fun x => bindD b fun y => liftO (op x y)) st o v st') : RE (dN2 op a b) st o v st' := hh
theorem rt_dN2 {op : D → D → Option (List D)} {a b : Den D} {o : M (α × τ)} {v : α → (List D)} (hh : RT (bindD a fun x => bindD b fun y => liftO (op x y)) st o v S) : RT (dN2 op a b) st o v S := hh
theorem rv_dTup {a : Den (List D)} {y : D} (hh : RV (bindD a fun ds => liftO (if ds.length ≤ big then some (.tup ds) else none)) st y st') : RV (dTup a) st y st' := hh
theorem rv_dLst {a : Den (List D)} {y : (List D)} (hh : RV (bindD a fun ds => liftO (if ds.length ≤ big then some ds else none)) st y st') : RV (dLst a) st y st' := hh
theorem rv_dAnd {a b : Den Bool} {y : Bool} (hh : RV (bindD a fun x => if x = true then b else retD false) st y st') : RV (dAnd a b) st y st' := hh
theorem re_dOr {a b : Den Bool} {o : M α} {v : α → Bool} (hh : RE (bindD a fun x => if x = true then retD true else b) st o v st') : RE (dOr a b) st o v st' := hh
theorem rv_dItems {f : Den D} {y : (List D)} (hh : RV (bindD f fun d => liftO (itemsOf d)) st y st') : RV (dItems f) st y st' := hh
theorem re_dItems {f : Den D} {o : M α} {v : α → (List D)} (hh : RE (bindD f fun d => liftO (itemsOf d)) st o v st') : RE (dItems f) st o v st' := hh
theorem rt_dItems {f : Den D} {o : M (α × τ)} {v : α → (List D)} (hh : RT (bindD f fun d => liftO (itemsOf d)) st o v S) : RT (dItems f) st o v S := hh
theorem re_dRng {f : Den D} {o : M α} {v : α → (List D)} (hh : RE (bindD f fun d => liftO (rngD d)) st o v st') : RE (dRng f) st o v st' := hh
theorem re_dRng2 {f h : Den D} {o : M α} {v : α → (List D)} (hh : RE (bindD f fun d => bindD h fun d2 => liftO (rngD2 d d2)) st o v st') : RE (dRng2 f h) st o v st' := hh
theorem rv_dPart {f : Den D} {y : (Option Int)} (hh : RV (bindD f fun d => liftO (match asI d with | some i => some (some i) | none => none)) st y st') : RV (dPart f) st y st' := hh
theorem rv_dSln {i : Nat} {lo hi : Den (Option Int)} {y : D} (hh : RV (bindD (dRd i) fun _ => bindD lo fun l => bindD hi fun u => bindD (dRd i) fun x => liftO (opSl x l u)) st y st') : RV (dSln i lo hi) st y st' := hh
theorem re_dCall {df : List D → M D} {fa : Den (List D)} {o : M α} {v : α → D} (hh : RE (bindD fa fun ds => liftM' (df ds)) st o v st') : RE (dCall df fa) st o v st' := hh
theorem rt_dCall {df : List D → M D} {fa : Den (List D)} {o : M (α × τ)} {v : α → D} (hh : RT (bindD fa fun ds => liftM' (df ds)) st o v S) : RT (dCall df fa) st o v S := hh
theorem re_dCallO {df : List D → Option (List D)} {fa : Den (List D)} {o : M α} {v : α → (List D)} (hh : RE (bindD fa fun ds => liftO (df ds)) st o v st') : RE (dCallO df fa) st o v st' := hh
theorem rt_dCallR {df : List D → List D → M (D × List D)} {i : Nat} {fa : Den (List D)} {o : M (α × τ)} {v : α → D} (hh : RT (bindD (dOw i) fun _ => bindD fa fun ds => callK df i ds) st o v S) : RT (dCallR df i fa) st o v S := hh
end
end DL
namespace DL
open PySem L2
end DL
namespace DL
open PySem PySem.Spec PyProof.Rows L2
section
variable {prog : Program} {w : World} {A : Around} {E : Value → Shared → Prop} {s : Shared}
def ltTup (h : Heap) (B : Int) (u v : Value) : Bool := decide (TS.code B (TS.intsOf h u) < TS.code B (TS.intsOf h v))
theorem swo_tup (h : Heap) (B : Int) : SrtO.Swo (ltTup h B) := by
  refine ⟨fun x y q => ?_, fun x y z q r => ?_⟩
  · unfold ltTup at *
    simp only [decide_eq_true_eq, decide_eq_false_iff_not] at *
    omega
  · unfold ltTup at *
    simp only [decide_eq_false_iff_not] at *
    omega
theorem tups_sortable {a : Addr} {h₁ : Heap} {vs : List Value} {d : Nat} {B : Int} (hd : 1 ≤ d) (h2 : 2 ≤ vs.length) (x : TS.TupsOk s.heap d B vs) (keep : ∀ b o, s.heap.get? b = some o → b ≠ a ∧ h₁.get? b = some o) : SrtO.SortableO prog w A { s with heap := h₁ } a vs (ltTup s.heap B) := by
  intro h' hk
  have x' : TS.TupsOk h' d B vs := x.keeps fun b o e _ => hk b o (keep b o e).1 (keep b o e).2
  obtain ⟨fs, k, hl, hi⟩ := TS.firsts_of hd vs x'
  refine ⟨_, fun Q E hq => PySem.W.kat_kind (s := { s with heap := h' }) (T := Value.type "int") k (by omega) (fun f hf => ?_) rfl hq, ?_⟩
  · obtain ⟨n, t, rfl⟩ := hi f hf
    exact PySem.W.Looks.of_pure rfl
  · intro p q hp hq
    have hp : p.1 ∈ vs := hp
    have hq : q.1 ∈ vs := hq
    obtain ⟨ns, tp, lp, bp⟩ := x' _ hp
    obtain ⟨ms, tq, lq, bq⟩ := x' _ hq
    obtain ⟨ns0, tp0, _, _⟩ := x _ hp
    obtain ⟨ms0, tq0, _, _⟩ := x _ hq
    have e1 : TS.intsOf s.heap p.1 = ns := by rw [tp0.ints, ← (tp0.keeps (h' := h') fun b o e _ => hk b o (keep b o e).1 (keep b o e).2).ints, tp.ints]
    have e2 : TS.intsOf s.heap q.1 = ms := by rw [tq0.ints, ← (tq0.keeps (h' := h') fun b o e _ => hk b o (keep b o e).1 (keep b o e).2).ints, tq.ints]
    have eq : SrtO.lt2 (ltTup s.heap B) p q = decide (TS.code B ns < TS.code B ms) := by
      show ltTup s.heap B p.1 q.1 = _
      unfold ltTup; rw [e1, e2]
    obtain ⟨a', xs, f1, ⟨o, ho, hc, n, hdt⟩, i⟩ := tp
    obtain ⟨a'', ys, f2, ⟨o', ho', hc', n', hdt'⟩, i'⟩ := tq
    rw [f1, f2, eq]
    refine PySem.W.kat_lt ho hdt ho' hdt' ?_
    have sz : decide (xs.size < ys.size) = false := by
      have l1 := i.length
      have l2 := i'.length
      rw [Array.length_toList] at l1 l2
      exact decide_eq_false (by omega)
    rw [sz]
    exact TS.lex_ints 0 i i' (by omega) bp bq ⟨rfl, rfl⟩
end
/-- sorted(xs), xs a list of tuples of d ints in [0, B) -/
def rSortX (K : PySem.W.Frag) : List V → Hp → VK → Prop := fun vs H Q => ∃ (d : Nat) (B : Int) (a : Addr) (xs : List V), 1 ≤ d ∧ vs = [V.ref a] ∧ SqL K H a xs ∧ (∀ x ∈ xs, ∃ ns, L2.TupI K H x ns ∧ ns.length = d ∧ TS.Bd B ns) ∧
  ∀ (ys : List V) (p : Addr), ys.Perm xs → ys.Pairwise (fun x y => ∀ n m, L2.TupI K H x n → L2.TupI K H y m → TS.code B n ≤ TS.code B m) → H p = none → Q (.ref p) (upd H p (.lst ys))
section
variable {X : Cx}
theorem cr_sortX : CallR X (.builtin "sorted") (rSortX X.K) := by
  intro pins s σ H vs us Q I r h
  obtain ⟨d, B, a, xs, hd, rfl, hs, hx, q⟩ := h
  obtain ⟨its, rv, hl, hz⟩ := I.list hs
  rw [Vals.ref1 r]
  obtain ⟨e1, e2⟩ := L2.bkV_refs rv fun x m => by
    obtain ⟨ns, ⟨t, e, _⟩, _⟩ := hx x m
    exact ⟨t, e⟩
  have tok : TS.TupsOk s.heap d B its := fun v hv => by
    obtain ⟨t, rfl⟩ := e2 v hv
    have hm : V.ref t ∈ xs := by
      rw [e1]
      exact List.mem_map.mpr ⟨_, hv, rfl⟩
    obtain ⟨ns, ⟨t', e, ht⟩, hn, hb⟩ := hx _ hm
    cases e
    exact ⟨ns, L2.tupI_raw I ht, hn, hb⟩
  refine SrtO.sorted_ord (swo_tup s.heap B) hl.isList (by rw [← rv.length]; exact hz) (fun h2 h₁ a' _ keep => tups_sortable hd h2 tok keep) fun out h1 h2 => ?_
  obtain ⟨ep, he'⟩ := PyProof.Rows.sortedAll_at s.heap its out.toArray
  have h3 : ∀ u ∈ out, ∃ a, u = Value.ref a := fun u hu => e2 u (h2.perm.mem_iff.mp hu)
  have hp : (out.map L2.bkV).Perm xs := by
    rw [e1]
    exact h2.perm.map L2.bkV
  have hlen : (out.map L2.bkV).length ≤ sizeLine := by
    rw [hp.length_eq]
    exact hz
  refine ⟨.ref _, upd H (s.heap.objs.size + 1) (.lst (out.map L2.bkV)), I.laid (t' := s.toks) (fun _ _ => PyProof.Rows.sortedAll_old) (Nat.le_succ _) ⟨hlen, out, ep, L2.bkV_vals h3, he'⟩, rfl, q _ _ hp ?_ (I.hok.fresh (Nat.le_succ _))⟩
  rw [List.pairwise_map]
  refine List.Pairwise.imp (fun {u v} huv n m hn hm => ?_) h1
  obtain ⟨t, et, ht⟩ := hn
  obtain ⟨t', et', ht'⟩ := hm
  have eu := L2.bkV_ref et
  have ev := L2.bkV_ref et'
  have i1 : TS.intsOf s.heap u = n := by
    rw [eu]
    exact (L2.tupI_raw I ht).ints
  have i2 : TS.intsOf s.heap v = m := by
    rw [ev]
    exact (L2.tupI_raw I ht').ints
  rw [← i1, ← i2]
  have huv : ltTup s.heap B v u = false := huv
  unfold ltTup at huv
  simp only [decide_eq_false_iff_not] at huv
  omega
end
end DL
namespace DL
open PySem PySem.Spec PyProof.Rows L2
section
variable {prog : Program} {w : World} {A : Around} {E : Value → Shared → Prop} {s : Shared}
theorem collect_tup {l : Addr} {vs : List Value} {Q : List Value → Shared → Prop} (hl : s.heap.IsTuple l vs.toArray)
    (h : Q vs { s with heap := (s.heap.push (seqObj "list" #[] 0)).update s.heap.objs.size (Obj.mapSeq (· ++ vs.toArray)) }) (hsz : vs.length ≤ sizeLine) :
    wpAny (model prog w) A (collect (.ref l)) Q E s := by
  obtain ⟨o, ho, hc, n, hd⟩ := id hl
  unfold collect
  refine wpAny_bind (wpAny_runValue (codeAny_builtin entry_proto_collect' ?_))
  show wpAny _ _ (do again (.builtin "list.__iadd__" ⟨[← newList [], .ref l], []⟩)) _ _ s
  refine wpAny_bind (wpAny_newList (wpAny_pure ⟨Code.quiet_builtin _ (by decide +kernel), codeAny_builtin entry_list_iadd' ?_⟩))
  show wpAny _ _ (Builtin.List.listExtendWith (.ref s.heap.objs.size) (.ref l) (.ref s.heap.objs.size)) _ _ { s with heap := s.heap.push (seqObj "list" #[] 0) }
  unfold Builtin.List.listExtendWith
  have ho' : (s.heap.push (seqObj "list" #[] 0)).get? l = some o := Heap.get?_push_of_some _ ho
  refine wpAny_bind (wpAny_typeOf (T := "tuple") ⟨o, ho', hc⟩ ?_)
  have ht : (Value.type "tuple" == Value.type "tuple") = true := by rfl
  rw [if_pos (by rw [ht]; simp)]
  refine wpAny_bind (listItems_at ho' hd ?_)
  refine wpAny_bind (listItems_at (xs := #[]) (n := 0) (Heap.get?_push_size _ rfl) rfl ?_)
  rw [if_neg (by simp)]
  refine wpAny_bind (listUpdate_at (xs := #[]) (n := 0) (Heap.get?_push_size _ rfl) rfl ?_ (Nat.zero_le _) (by show (#[] ++ vs.toArray).size ≤ sizeLine + 1; simp only [Array.size_append, List.size_toArray, List.length_nil]; omega))
  refine wpAny_pure ?_
  show wpAny (model prog w) A (do
      let o ← load s.heap.objs.size
      match o.data with
      | .seq xs _ => pure xs.toList
      | _ => unsupported "internal:collect") Q E { s with heap := (s.heap.push (seqObj "list" #[] 0)).update s.heap.objs.size (Obj.mapSeq (· ++ vs.toArray)) }
  refine wpAny_bind (wpAny_load (get?_update_seq (Heap.get?_push_size _ rfl) _) ?_)
  show wpAny _ _ (pure ((#[] : Array Value) ++ vs.toArray).toList) Q E _
  rw [show ((#[] : Array Value) ++ vs.toArray).toList = vs by simp]
  exact wpAny_pure h
theorem sorted_tupO {l : Addr} {vs : List Value} {ltv : Value → Value → Bool} {Q : Value → Shared → Prop} (O : SrtO.Swo ltv) (hl : s.heap.IsTuple l vs.toArray) (hz : vs.length ≤ sizeLine)
    (hS : 2 ≤ vs.length → ∀ (h₁ : Heap) (a : Addr), h₁.get? a = some (seqObj "list" vs.toArray 0) → (∀ b o, s.heap.get? b = some o → b ≠ a ∧ h₁.get? b = some o) → SrtO.SortableO prog w A.in1.in1 { s with heap := h₁ } a vs ltv)
    (h : ∀ out : List Value, SrtO.Srtd ltv out → SrtO.Stb ltv out vs → Q (.ref (s.heap.objs.size + 1)) { s with heap := sortedAll s.heap vs out.toArray }) :
    wpAny (model prog w) A (call (.builtin "sorted") [.ref l]) Q E s := by
  refine Calls.call_function_entry kind_sorted plain_sorted entry_sorted (args_sorted1 _) ?_
  unfold Builtin.«sorted»
  refine wpAny_bind (m := checkCount "sorted" 1 1 _) (wpAny_pure ?_)
  refine wpAny_bind (collect_tup hl ?_ hz)
  refine wpAny_bind (wpAny_newList ?_ hz)
  have hsz : ((s.heap.push (seqObj "list" #[] 0)).update s.heap.objs.size (Obj.mapSeq (· ++ vs.toArray))).objs.size = s.heap.objs.size + 1 := by
    rw [Heap.size_update, size_push']
  have hoL : (((s.heap.push (seqObj "list" #[] 0)).update s.heap.objs.size (Obj.mapSeq (· ++ vs.toArray))).push (seqObj "list" vs.toArray 0)).get? (s.heap.objs.size + 1) = some (seqObj "list" vs.toArray 0) := by
    rw [← hsz]; exact Heap.get?_push_size _ rfl
  have keep : ∀ b o, s.heap.get? b = some o → b ≠ s.heap.objs.size + 1 ∧ (((s.heap.push (seqObj "list" #[] 0)).update s.heap.objs.size (Obj.mapSeq (· ++ vs.toArray))).push (seqObj "list" vs.toArray 0)).get? b = some o := fun b o q => by
    have hlt : b < s.heap.objs.size := Heap.lt_size q
    refine ⟨Nat.ne_of_lt (Nat.lt_succ_of_lt hlt), Heap.get?_push_of_some _ ?_⟩
    rw [Heap.get?_update_ne _ _ _ _ (Nat.ne_of_lt hlt)]
    exact Heap.get?_push_of_some _ q
  show wpAny _ _ _ _ _ { s with heap := ((s.heap.push (seqObj "list" #[] 0)).update s.heap.objs.size (Obj.mapSeq (· ++ vs.toArray))).push (seqObj "list" vs.toArray 0) }
  rw [hsz]
  refine wpAny_bind (wpAny_holding (wpAny_call_entry slot_list_sort ⟨_, hoL, rfl⟩ entry_list_sort (SrtO.list_sort_ord O hoL hz (fun h2 => hS h2 _ _ hoL keep) fun out hs hb => ⟨_, rfl, ?_⟩) (args_list_sort _)))
  exact wpAny_pure ⟨_, rfl, h out hs hb⟩
end
def rSortedTu (K : PySem.W.Frag) : List V → Hp → VK → Prop := fun vs H Q => ∃ (a : Addr) (ns : List Int), vs = [V.ref a] ∧ SqT K H a (ns.map V.int) ∧ ns.length ≤ sizeLine ∧
  ∀ (ns' : List Int) (p : Addr), ns'.Perm ns → ns'.Pairwise (· ≤ ·) → H p = none → Q (.ref p) (upd H p (.lst (ns'.map V.int)))
theorem cr_sortedTu {X : Cx} : CallR X (.builtin "sorted") (rSortedTu X.K) := by
  intro pins s σ H vs us Q I r h
  obtain ⟨a, ns, rfl, hs, hz, q⟩ := h
  obtain ⟨its, rv, hT, _⟩ := I.tuple hs
  rw [Vals.ref1 r]
  have hi := rv.ints
  have hlen0 : its.length = ns.length := by rw [← rv.length, List.length_map]
  refine sorted_tupO SrtO.swo_int hT (by rw [hlen0]; exact hz) (fun h2 h₁ a' _ _ => SrtO.ints_sortable hi h2) fun out h1 h2 => ?_
  obtain ⟨k1, k2, k3⟩ := SrtO.ints_out hi h1 h2
  obtain ⟨ep, he'⟩ := PyProof.Rows.sortedAll_at s.heap its out.toArray
  have hlen : ((out.map SrtO.iv).map V.int).length ≤ sizeLine := by
    rw [List.length_map, k2.length_eq]
    exact hz
  exact ⟨.ref _, upd H (s.heap.objs.size + 1) (.lst ((out.map SrtO.iv).map V.int)), I.laid (t' := s.toks) (fun _ _ => PyProof.Rows.sortedAll_old) (Nat.le_succ _) ⟨hlen, out, ep, vals_of_ints k1, he'⟩, rfl, q _ _ k2 k3 (I.hok.fresh (Nat.le_succ _))⟩
def tupsOf : List D → Option (List (List Int))
  | [] => some []
  | .tup ds :: r => match intsOf ds, tupsOf r with | some x, some xs => some (x :: xs) | _, _ => none
  | _ :: _ => none
def encT (r : List Int) : D := .tup (r.map D.int)
theorem tupsOf_eq : ∀ {ds : List D} {rows : List (List Int)}, tupsOf ds = some rows → ds = rows.map encT
  | [], _, h => by cases h; rfl
  | .tup d :: r, rows, h => by
    unfold tupsOf at h
    split at h
    · rename_i x xs h1 h2
      cases h
      rw [List.map_cons, ← tupsOf_eq h2, intsOf_eq h1]; rfl
    · cases h
  | .non :: _, _, h => by cases h
  | .bl _ :: _, _, h => by cases h
  | .int _ :: _, _, h => by cases h
  | .str _ :: _, _, h => by cases h
  | .lst _ :: _, _, h => by cases h
  | .ins _ _ _ :: _, _, h => by cases h
  | .scr _ :: _, _, h => by cases h
def lexLe : List Int → List Int → Bool
  | [], _ => true
  | _ :: _, [] => false
  | x :: xs, y :: ys => if x = y then lexLe xs ys else decide (x < y)
def insT (x : List Int) : List (List Int) → List (List Int)
  | [] => [x]
  | y :: r => if lexLe x y = true then x :: y :: r else y :: insT x r
def sortT : List (List Int) → List (List Int)
  | [] => []
  | x :: r => insT x (sortT r)
theorem lexLe_total : ∀ x y : List Int, lexLe x y = true ∨ lexLe y x = true
  | [], _ => .inl (by simp [lexLe])
  | _ :: _, [] => .inr (by simp [lexLe])
  | x :: xs, y :: ys => by
    by_cases e : x = y
    · subst e; simpa [lexLe] using lexLe_total xs ys
    · have : ¬ y = x := fun z => e z.symm
      simp [lexLe, e, this]; omega
theorem lexLe_trans : ∀ {x y z : List Int}, lexLe x y = true → lexLe y z = true → lexLe x z = true
  | [], _, _, _, _ => by simp [lexLe]
  | x :: xs, [], _, h, _ => by simp [lexLe] at h
  | x :: xs, y :: ys, [], _, h => by simp [lexLe] at h
  | x :: xs, y :: ys, z :: zs, h1, h2 => by
    unfold lexLe at *
    by_cases e1 : x = y
    · subst e1
      by_cases e2 : x = z
      · subst e2
        simp only [if_true] at *
        exact lexLe_trans h1 h2
      · simp only [e2, if_false] at *; exact h2
    · by_cases e2 : y = z
      · subst e2
        simp only [e1, if_false] at *; exact h1
      · simp only [e1, e2, if_false, decide_eq_true_eq] at *
        have : ¬ x = z := by omega
        simp only [this, if_false, decide_eq_true_eq]; omega
theorem lexLe_anti : ∀ {x y : List Int}, lexLe x y = true → lexLe y x = true → x = y
  | [], [], _, _ => rfl
  | [], _ :: _, _, h => by simp [lexLe] at h
  | _ :: _, [], h, _ => by simp [lexLe] at h
  | x :: xs, y :: ys, h1, h2 => by
    unfold lexLe at *
    by_cases e : x = y
    · subst e
      simp only [if_true] at *
      rw [lexLe_anti h1 h2]
    · have e' : ¬ y = x := fun z => e z.symm
      simp only [e, e', if_false, decide_eq_true_eq] at *
      omega
theorem insT_perm (x : List Int) : ∀ l, (insT x l).Perm (x :: l)
  | [] => .refl _
  | y :: r => by
    unfold insT
    split
    · exact .refl _
    · exact ((insT_perm x r).cons y).trans (.swap _ _ _)
theorem sortT_perm : ∀ l, (sortT l).Perm l
  | [] => .refl _
  | x :: r => (insT_perm x _).trans ((sortT_perm r).cons x)
theorem insT_sorted (x : List Int) : ∀ l : List (List Int), l.Pairwise (fun a b => lexLe a b = true) → (insT x l).Pairwise (fun a b => lexLe a b = true)
  | [], _ => List.pairwise_singleton _ _
  | y :: r, h => by
    obtain ⟨h1, h2⟩ := List.pairwise_cons.mp h
    unfold insT
    split
    · rename_i hx
      exact List.pairwise_cons.mpr ⟨fun z hz => by
        rcases List.mem_cons.mp hz with rfl | hz
        · exact hx
        · exact lexLe_trans hx (h1 z hz), h⟩
    · rename_i hx
      refine List.pairwise_cons.mpr ⟨fun z hz => ?_, insT_sorted x r h2⟩
      rcases List.mem_cons.mp ((insT_perm x r).mem_iff.mp hz) with rfl | hz
      · rcases lexLe_total z y with q | q
        · exact absurd q hx
        · exact q
      · exact h1 z hz
theorem sortT_sorted : ∀ l, (sortT l).Pairwise (fun a b => lexLe a b = true)
  | [] => .nil
  | x :: r => insT_sorted x _ (sortT_sorted r)
theorem sortT_unique : ∀ {l m : List (List Int)}, l.Perm m → l.Pairwise (fun a b => lexLe a b = true) → m.Pairwise (fun a b => lexLe a b = true) → l = m
  | [], m, p, _, _ => (List.nil_perm.mp p).symm
  | x :: l, m, p, h1, h2 => by
    cases m with
    | nil => exact absurd p.symm (by simp)
    | cons y m =>
      obtain ⟨a1, a2⟩ := List.pairwise_cons.mp h1
      obtain ⟨b1, b2⟩ := List.pairwise_cons.mp h2
      have hxy : x = y := by
        have hx : x ∈ y :: m := p.mem_iff.mp List.mem_cons_self
        have hy : y ∈ x :: l := p.mem_iff.mpr List.mem_cons_self
        rcases List.mem_cons.mp hx with e | hx
        · exact e
        · rcases List.mem_cons.mp hy with e | hy
          · exact e.symm
          · exact lexLe_anti (a1 y hy) (b1 x hx)
      subst hxy
      rw [sortT_unique (List.Perm.cons_inv p) a2 b2]
theorem code_lexLe {B : Int} : ∀ {n m : List Int}, n.length = m.length → TS.Bd B n → TS.Bd B m → TS.code B n ≤ TS.code B m → lexLe n m = true
  | [], _, _, _, _, _ => by simp [lexLe]
  | _ :: _, [], h, _, _, _ => by simp at h
  | x :: xs, y :: ys, hl, h1, h2, h => by
    have hl' : xs.length = ys.length := by simpa using hl
    unfold lexLe
    by_cases e : x = y
    · subst e
      simp only [if_true]
      refine code_lexLe hl' h1.tail h2.tail ?_
      apply Int.not_lt.mp
      intro q
      have := (TS.code_same (d := x) (r := ys) (q := xs) hl'.symm).mpr q
      omega
    · simp only [e, if_false, decide_eq_true_eq]
      rcases Int.lt_trichotomy x y with q | q | q
      · exact q
      · exact absurd q e
      · have := TS.code_lt hl'.symm h2.tail h1.tail q
        omega
/-- the greatest number, and one more -/
def topOf (rows : List (List Int)) : Int := rows.foldl (fun b r => r.foldl (fun b x => if x < b then b else x + 1) b) 1
def okRows (rows : List (List Int)) (d : Nat) (B : Int) : Bool := decide (1 ≤ d) && rows.all fun r => decide (r.length = d) && r.all fun x => decide (0 ≤ x) && decide (x < B)
def nSortedT : D → Option (List D)
  | .lst ds => match tupsOf ds with
    | some rows => if okRows rows (rows.headD [0]).length (topOf rows) = true then some ((sortT rows).map encT) else none
    | none => none
  | _ => none
/-- sorted(..) of what is covered -/
def nSortedA (x : D) : Option (List D) := match x with
  | .lst ds => match intsOf ds with
    | some is => some ((sortI is).map D.int)
    | none => nSortedT (.lst ds)
  | .tup ds => match intsOf ds with
    | some is => if is.length ≤ big then some ((sortI is).map D.int) else none
    | none => none
  | _ => none
def rSortedA (K : PySem.W.Frag) : List V → Hp → VK → Prop := fun vs H Q => rSortedI K vs H Q ∨ rSortX K vs H Q ∨ rSortedTu K vs H Q
theorem cr_sortedA {X : Cx} : CallR X (.builtin "sorted") (rSortedA X.K) := cr_sortedI.or (cr_sortX.or cr_sortedTu)
section
variable {g : G} {F H : Hp}
theorem Rl.perm {α : Type} {enc : α → D} : ∀ {vs ys : List V}, vs.Perm ys → ∀ {rows : List α}, Rl g F vs (rows.map enc) → ∃ rows' : List α, Rl g F ys (rows'.map enc) ∧ rows'.Perm rows := by
  intro vs ys p
  induction p with
  | nil => intro rows h; exact ⟨rows, h, .refl _⟩
  | cons x p ih =>
    intro rows h
    cases rows with
    | nil => cases h
    | cons r rows =>
      cases h with
      | cons h1 h2 =>
        obtain ⟨rows', a, b⟩ := ih h2
        exact ⟨r :: rows', .cons h1 a, b.cons r⟩
  | swap x y l =>
    intro rows h
    match rows, h with
    | r1 :: r2 :: rows, .cons h1 (.cons h2 h3) => exact ⟨r2 :: r1 :: rows, .cons h2 (.cons h1 h3), .swap _ _ _⟩
  | trans p q ih1 ih2 =>
    intro rows h
    obtain ⟨r1, a, b⟩ := ih1 h
    obtain ⟨r2, c, d⟩ := ih2 a
    exact ⟨r2, c, d.trans b⟩
theorem Rl.pw {α : Type} {enc : α → D} {P : V → V → Prop} {R : α → α → Prop} (hPR : ∀ v u x y, Rv g F v (enc x) → Rv g F u (enc y) → P v u → R x y) : ∀ {vs : List V} {rows : List α}, Rl g F vs (rows.map enc) → vs.Pairwise P → rows.Pairwise R
  | _, [], _, _ => .nil
  | v :: vs, r :: rows, .cons h1 h2, hp => by
    obtain ⟨a, b⟩ := List.pairwise_cons.mp hp
    refine List.pairwise_cons.mpr ⟨fun y hy => ?_, Rl.pw hPR h2 b⟩
    obtain ⟨j, hj, rfl⟩ := List.getElem_of_mem hy
    obtain ⟨u, e1, e2⟩ := h2.get (i := j) (d := enc rows[j]) (by simp [hj])
    exact hPR v u _ _ h1 e2 (a u (List.mem_of_getElem? e1))
theorem Rv.tupI (l : Same F H) {v : V} {r : List Int} (h : Rv g F v (encT r)) : L2.TupI g.K H v r := by
  unfold encT at h
  cases h with
  | tup h1 _ h2 =>
    have := h2.ints
    subst this
    exact ⟨_, rfl, sqT_mono l h1⟩
theorem vn_sortedA : VN1 g (fun v => rSortedA g.K [v]) nSortedA := by
  intro H F v d zs le rd hz Q q
  cases d with
  | lst ds =>
    cases hi : intsOf ds with
    | some is =>
      have hz : some ((sortI is).map D.int) = some zs := by
        simpa only [nSortedA, hi] using hz
      cases hz
      exact .inl (vn_sorted H F v (.lst ds) _ le rd (by simp only [nSorted, hi]) Q q)
    | none =>
      cases ht : tupsOf ds with
      | none => simp only [nSortedA, hi, nSortedT, ht] at hz; cases hz
      | some rows =>
        by_cases hok : okRows rows (rows.headD [0]).length (topOf rows) = true
        · have hz : some ((sortT rows).map encT) = some zs := by
            rw [← hz]; simp only [nSortedA, hi, nSortedT, ht]; rw [if_pos hok]
          cases hz
          refine .inr (.inl ?_)
          have e := tupsOf_eq ht
          subst e
          obtain ⟨a, vs, rfl, h1, r1⟩ := rd.lst le
          unfold okRows at hok
          simp only [Bool.and_eq_true, decide_eq_true_eq, List.all_eq_true] at hok
          obtain ⟨hd, hrows⟩ := hok
          refine ⟨(rows.headD [0]).length, topOf rows, a, vs, hd, rfl, sqL_of h1, fun x hx => ?_, fun ys p hp hpw hn => ?_⟩
          · obtain ⟨i, hi, rfl⟩ := List.getElem_of_mem hx
            obtain ⟨u, e1, e2⟩ := r1.get' (i := i) (v := vs[i]) (by simp [hi])
            rw [List.getElem?_map] at e1
            cases hr : rows[i]? with
            | none => rw [hr] at e1; cases e1
            | some r =>
              rw [hr] at e1
              cases e1
              have hm := hrows r (List.mem_of_getElem? hr)
              exact ⟨r, Rv.tupI le e2, hm.1, fun y hy => hm.2 y hy⟩
          · obtain ⟨rows', a1, a2⟩ := Rl.perm hp.symm r1
            have hs : rows'.Pairwise (fun a b => TS.code (topOf rows) a ≤ TS.code (topOf rows) b) := Rl.pw (P := fun x y => ∀ n m, L2.TupI g.K H x n → L2.TupI g.K H y m → TS.code (topOf rows) n ≤ TS.code (topOf rows) m) (fun v u x y hv hu hP => hP x y (Rv.tupI le hv) (Rv.tupI le hu)) a1 hpw
            have hs2 : rows'.Pairwise (fun a b => lexLe a b = true) := List.Pairwise.imp_of_mem (fun {a b} ha hb hab => by
              have ha := hrows a (a2.mem_iff.mp ha)
              have hb := hrows b (a2.mem_iff.mp hb)
              exact code_lexLe (by rw [ha.1, hb.1]) (fun y hy => ha.2 y hy) (fun y hy => hb.2 y hy) hab) hs
            have e : rows' = sortT rows := sortT_unique (a2.trans (sortT_perm rows).symm) hs2 (sortT_sorted rows)
            subst e
            exact q p _ hn a1
        · have hz : none = some zs := by
            rw [← hz]; simp only [nSortedA, hi, nSortedT, ht]; rw [if_neg hok]
          cases hz
  | tup ds =>
    cases hi : intsOf ds with
    | none => simp only [nSortedA, hi] at hz; cases hz
    | some is =>
      by_cases hb : is.length ≤ big
      · have hz : some ((sortI is).map D.int) = some zs := by
          rw [← hz]; simp only [nSortedA, hi]; rw [if_pos hb]
        cases hz
        have := intsOf_eq hi
        subst this
        obtain ⟨a, vs, rfl, h1, r1⟩ := rd.tup le
        have := r1.ints
        subst this
        refine .inr (.inr ⟨a, is, rfl, h1, by rw [← big_eq]; exact hb, fun ns' p hp hs hn => ?_⟩)
        have e : ns' = sortI is := sorted_unique (hp.trans (sortI_perm is).symm) hs (sortI_sorted is)
        subst e
        exact q p _ hn (Rl.of_ints _)
      · have hz : none = some zs := by
          rw [← hz]; simp only [nSortedA, hi]; rw [if_neg hb]
        cases hz
  | non => cases hz
  | bl _ => cases hz
  | int _ => cases hz
  | str _ => cases hz
  | ins _ _ _ => cases hz
  | scr _ => cases hz
end
end DL
namespace DL
open PySem PySem.Spec PyProof.Rows L2
theorem tupsOf_map : ∀ (rows : List (List Int)), tupsOf (rows.map (eT eI)) = some rows
  | [] => rfl
  | x :: r => by
    show (match intsOf (x.map eI), tupsOf (r.map (eT eI)) with | some x, some xs => some (x :: xs) | _, _ => none) = _
    rw [tupsOf_map r, show intsOf (x.map eI) = some x from intsOf_map _]
def pSortT (rows : List (List Int)) : M (List (List Int)) := if okRows rows (rows.headD [0]).length (topOf rows) = true then .ok (sortT rows) else .stuck
def pSortTu (xs : List Int) : M (List Int) := if xs.length ≤ big then .ok (sortI xs) else .stuck
theorem op_sortT {rows : List (List Int)} : OP (nSortedA (eL (eT eI) rows)) (pSortT rows) (List.map (eT eI)) := by
  cases rows with
  | nil => exact rfl
  | cons x r =>
    have e : nSortedA (eL (eT eI) (x :: r)) = nSortedT (.lst ((x :: r).map (eT eI))) := rfl
    rw [e]
    unfold pSortT
    by_cases h : okRows (x :: r) ((x :: r).headD [0]).length (topOf (x :: r)) = true
    · rw [if_pos h]
      show nSortedT _ = some _
      unfold nSortedT
      simp only [tupsOf_map]
      rw [if_pos h]; rfl
    · rw [if_neg h]; trivial
theorem op_sortTu {xs : List Int} : OP (nSortedA (eT eI xs)) (pSortTu xs) (List.map eI) := by
  unfold pSortTu
  by_cases h : xs.length ≤ big
  · rw [if_pos h]
    show (match intsOf (xs.map eI) with | some is => if is.length ≤ big then some ((sortI is).map D.int) else none | none => none) = some _
    rw [show intsOf (xs.map eI) = some xs from intsOf_map _]
    simp only []
    rw [if_pos h]
  · rw [if_neg h]; trivial
end DL
namespace DL
open PySem PySem.Spec PyProof.Rows L2
end DL
namespace DL
open PySem PySem.Spec PyProof.Rows L2
end DL
namespace DL
open PySem PySem.Spec PyProof.Rows L2
section
variable {X : Cx}
@[simp] def dExtend (i : Nat) (f : Den D) : Den D := bindD (dOw i) fun _ => bindD f fun y => mutD i fun ds => match y with
  | .tup es => if ds.length + es.length ≤ big then some (.non, ds ++ es) else none
  | _ => none
variable {g : G} {W : WX} {e : Expr} {f : Den D}
end
end DL
namespace DL
open PySem PySem.Spec PyProof.Rows L2
end DL
namespace DL
open PySem PySem.Calls PySem.Spec PyProof.Rows L2
theorem op_DL {x : Option (List D)} : OP x (oM x) (List.map eD) := by
  have e : ∀ xs : List D, List.map eD xs = xs := fun xs => by induction xs with | nil => rfl | cons a t ih => show eD a :: List.map eD t = a :: t; rw [ih]
  cases x with
  | none => trivial
  | some y => show some y = some (List.map eD y); rw [e]
end DL
namespace DL
open PySem PySem.Spec PyProof.Rows L2
@[simp] def isLT : D → Option Unit
  | .lst _ => some ()
  | .tup _ => some ()
  | _ => none
@[simp] def opIndexT (x y : D) : Option D := match x with
  | .tup ds => if flatD y && ds.all flatD then (match ixF (fun z => eqF z y) 0 ds with | some j => some (.int (j : Nat)) | none => none) else none
  | _ => none
@[simp] def opIndexA (k x y : D) : Option D := match k with
  | .lst _ => opIndex x y
  | .tup _ => opIndexT x y
  | _ => none
@[simp] def dIndexA (f h : Den D) : Den D := bindD f fun x => bindD (liftO (isLT x)) fun _ => bindD h fun y => liftO (opIndexA x x y)
@[simp] def dIndexAN (i : Nat) (h : Den D) : Den D := bindD (dRd i) fun k => bindD (liftO (isLT k)) fun _ => bindD h fun y => bindD (dRd i) fun x => liftO (opIndexA k x y)
section
variable {X : Cx} {g : G} {W : WX} {P : Par} {σ : L2.St} {H F : Hp} {st : DSt} {e : Expr} {f h : Den D}
theorem indexT_ok {v u : V} {x y z : D} {Q : VK} (le : Same F H) (rx : Br g F H v x) (ry : Rv g F u y) (hz : opIndexT x y = some z) (q : ∀ v, Rv g F v z → Q v H) : rIndexT g.K v [u] H Q := by
  cases x with
  | tup ds =>
    obtain ⟨a, vs, rfl, h1, r1⟩ := rx.tup le
    simp only [opIndexT] at hz
    split at hz
    · rename_i hf
      obtain ⟨f1, f2⟩ := Bool.and_eq_true_iff.mp hf
      split at hz
      · rename_i j hj
        cases hz
        obtain ⟨k, z, rfl, g1, g2, g3⟩ := ixF_some hj
        rw [Nat.zero_add] at q
        obtain ⟨w, h2, h3, h4⟩ := flat_hits ry f1 r1 f2 g1 g2 g3
        exact ⟨a, vs, u, k, w, rfl, rfl, h1, flat_rv ry f1, all_flat r1 f2, h2, h3, h4, q _ (.int _)⟩
      · cases hz
    · cases hz
  | _ => cases hz
theorem knT_rv {ds : List D} {v : V} (ht : g.tk = true) (le : Same F H) (rx : Br g F H v (.tup ds)) : ∃ a, v = .ref a ∧ KnT g.K H a := by
  rcases rx with rx | ⟨_, _, _, _, z, _⟩
  · cases rx with
    | tup _ k _ =>
      unfold TkP at k
      rw [ht] at k
      have k : KnT g.K _ _ := k
      exact ⟨_, rfl, k.mono le⟩
  · cases z
theorem ev_indexAN {i : Nat} (ht : g.tk = true) (he : PE X e (tBMA g.K (rIndexA g.K) (rIndexT g.K) (tVar i) (tCons (tE g W h) tNil))) : PE X e (tE g W (dIndexAN i h)) := he.imp fun σ H Q ⟨P, F, st, s, o⟩ => by
  obtain ⟨v, x, hv, rx, o1⟩ := o.rd s
  obtain ⟨u0, hx, q⟩ := Out.lift o1.bind
  have o2 := q H F (Same.refl _) s
  cases x with
  | lst ds =>
    obtain ⟨a, vs, rfl, h1, r1⟩ := rx.lst s.le
    refine ⟨_, hv, .inl ⟨.inl ⟨rfl, vs, sqL_of h1⟩, P, F, st, s, o2.bind.imp fun y st2 H2 F2 le2 s2 o3 u ry => ?_⟩⟩
    obtain ⟨v', x', hv', rx', o4⟩ := o3.rd s2
    rw [hv] at hv'; cases hv'
    obtain ⟨z, ez, q⟩ := o4.lift
    obtain ⟨_, _, _, _, fin⟩ := opIndex_ok s2.le rx' ry ez (q H2 F2 (Same.refl _) s2)
    exact fin
  | tup ds =>
    refine ⟨_, hv, .inr ⟨knT_rv ht s.le rx, P, F, st, s, o2.bind.imp fun y st2 H2 F2 le2 s2 o3 u ry => ?_⟩⟩
    obtain ⟨v', x', hv', rx', o4⟩ := o3.rd s2
    rw [hv] at hv'; cases hv'
    obtain ⟨z, ez, q⟩ := o4.lift
    exact indexT_ok s2.le rx' ry ez (q H2 F2 (Same.refl _) s2)
  | _ => cases hx
end
section
variable {α β δ τ : Type} {st st' : DSt} {S : τ → DSt}
theorem re_dIndexAN {i : Nat} {h : Den D} {o : M α} {v : α → D} (hh : RE (bindD (dRd i) fun k => bindD (liftO (isLT k)) fun _ => bindD h fun y => bindD (dRd i) fun x => liftO (opIndexA k x y)) st o v st') : RE (dIndexAN i h) st o v st' := hh
theorem indexA_L {a : α → D} {ks xs : List α} {y : D} {o : M Int} (h : OP (opIndex (eL a xs) y) o eI) : OP (opIndexA (eL a ks) (eL a xs) y) o eI := h
theorem indexA_T {a : α → D} (p : Fl1 a) [DecidableEq α] {x : α} {ks xs : List α} : OP (opIndexA (eT a ks) (eT a xs) (a x)) (pIndex xs x) eI := by
  unfold pIndex
  by_cases h : x ∈ xs
  · simp [h, OP, opIndexA, eT, p.fl, allF p, ixF_eq p, eI]
  · simp [h, OP]
end
end DL
namespace DL
open PySem PySem.Spec PyProof.Rows L2
section
variable {κ κ' : Type} [DecidableEq κ] [DecidableEq κ']
def getA {α : Type} (kvs : List (κ × α)) (k : κ) : Option α := (kvs.find? fun p => decide (p.1 = k)).map Prod.snd
def putA {α : Type} (kvs : List (κ × α)) (k : κ) (v : α) : List (κ × α) := if (kvs.any fun p => decide (p.1 = k)) = true then kvs.map (fun p => if p.1 = k then (p.1, v) else p) else kvs ++ [(k, v)]
variable {g : G} {F : Hp} {f : κ → κ'} (inj : ∀ a b, f a = f b → a = b)
end
theorem _root_.L2.PC.imp {X : Cx} {op : CmpOp} {a b : Expr} {t t' : TE} (h : PC X op a b t) (i : ∀ σ H Q, t' σ H Q → t σ H Q) : PC X op a b t' := ⟨fun pins s σ H Q I q => h.run pins s σ H Q I (i σ H Q q)⟩
@[simp] def keyK : D → Option Int
  | .int i => some i
  | _ => none
@[simp] def keyT : D → Option (List Int)
  | .tup ds => intsOf ds
  | _ => none
@[simp] def kdK (i : Int) : D := .int i
@[simp] def kdT (ks : List Int) : D := .tup (ks.map .int)
theorem nox {α : Type} {r : Res α} : True := trivial
section
variable {X : Cx} {g : G} {W : WX} {P : Par} {σ : L2.St} {H F : Hp} {st : DSt} {e : Expr} {s : Stmt} {ss : List Stmt} {f h : Den D}
/-- the dict in slot i -/
@[simp] def dDK (i : Nat) : Den (List (Int × D)) := fun st => match st[i]? with
  | some (.dk kvs) => .ok kvs st
  | some (.lk kvs) => .ok kvs st
  | _ => .stuck
@[simp] def dOK (i : Nat) : Den (List (Int × D)) := fun st => match st[i]? with
  | some (.dk kvs) => .ok kvs st
  | _ => .stuck
theorem rdK {i : Nat} {kvs : List (Int × D)} {st' : DSt} (s : SR g P σ H F st) (h : dDK i st = .ok kvs st') : st' = st ∧ ∃ a vs, σ[i]? = some (some (.ref a)) ∧ Rd H a (hK kvs vs) ∧ Rl g F vs (kvs.map Prod.snd) := by
  unfold dDK at h
  split at h
  · rename_i kvs hd
    cases h
    obtain ⟨ov, hov⟩ := SRc.nth s hd
    obtain ⟨O, c⟩ := id s
    obtain ⟨a, vs, rfl, ho, hn, ha, r⟩ := c.sl i _ _ hd hov
    exact ⟨rfl, a, vs, hov, .inl ha, r⟩
  · rename_i kvs hd
    cases h
    obtain ⟨ov, hov⟩ := SRc.nth s hd
    obtain ⟨O, c⟩ := id s
    obtain ⟨a, od, vs, rfl, ha, r⟩ := c.sl i _ _ hd hov
    exact ⟨rfl, a, vs, hov, .inr ⟨od, c.le _ _ ha⟩, r⟩
  · cases h
theorem Out.dK {i : Nat} {α : Type} {kk : List (Int × D) → Den α} {K : α → DSt → Hp → Hp → Prop} (s : SR g P σ H F st) (o : Out g W P σ F (bindD (dDK i) kk st) K) :
    ∃ a kvs vs, σ[i]? = some (some (.ref a)) ∧ Rd H a (hK kvs vs) ∧ Rl g F vs (kvs.map Prod.snd) ∧ Out g W P σ F (kk kvs st) K := by
  unfold bindD at o
  cases e : dDK i st with
  | ok d st' =>
    rw [e] at o
    obtain ⟨rfl, a, vs, h1, h2, h3⟩ := rdK s e
    exact ⟨a, d, vs, h1, h2, h3, o⟩
  | exn c fs st' => unfold dDK at e; split at e <;> cases e
  | stuck => rw [e] at o; exact o.elim
@[simp] def sDNewK (i : Nat) : DS := putD i (.dk [])
@[simp] def dDgetK (i : Nat) (f : Den D) : Den D := bindD (dDK i) fun _ => bindD f fun y => bindD (dDK i) fun kvs => liftO (match keyK y with | some k => getA kvs k | none => none)
@[simp] def dDinK (n : Bool) (i : Nat) (f : Den D) : Den D := bindD f fun y => bindD (dDK i) fun kvs => liftO (match keyK y with | some k => some (.bl (if n then !(getA kvs k).isSome else (getA kvs k).isSome)) | none => none)
@[simp] def dDgdK (i : Nat) (f h : Den D) : Den D := bindD (dDK i) fun _ => bindD f fun y => bindD h fun z => bindD (dDK i) fun kvs => liftO (match keyK y with | some k => some ((getA kvs k).getD z) | none => none)
@[simp] def dDlenK (i : Nat) : Den D := bindD (dOK i) fun kvs => retD (.int kvs.length)
@[simp] def sDPutK (i : Nat) (k v : Den D) : DS := bindD v fun x => bindD (dDK i) fun _ => bindD k fun y => bindD (dOK i) fun kvs => match keyK y with
  | some q => if kvs.length < big then putD i (.dk (putA kvs q x)) else fun _ => .stuck
  | none => fun _ => .stuck
end
section
variable {X : Cx} {g : G} {W : WX} {P : Par} {σ : L2.St} {H F : Hp} {st : DSt} {e : Expr} {s : Stmt} {ss : List Stmt} {f h : Den D}
/-- the dict in slot i -/
@[simp] def dDT (i : Nat) : Den (List (List Int × D)) := fun st => match st[i]? with
  | some (.dt kvs) => .ok kvs st
  | some (.lt kvs) => .ok kvs st
  | _ => .stuck
@[simp] def dOT (i : Nat) : Den (List (List Int × D)) := fun st => match st[i]? with
  | some (.dt kvs) => .ok kvs st
  | _ => .stuck
theorem rdT {i : Nat} {kvs : List (List Int × D)} {st' : DSt} (s : SR g P σ H F st) (h : dDT i st = .ok kvs st') : st' = st ∧ ∃ a vs, σ[i]? = some (some (.ref a)) ∧ Rd H a (hT kvs vs) ∧ Rl g F vs (kvs.map Prod.snd) := by
  unfold dDT at h
  split at h
  · rename_i kvs hd
    cases h
    obtain ⟨ov, hov⟩ := SRc.nth s hd
    obtain ⟨O, c⟩ := id s
    obtain ⟨a, vs, rfl, ho, hn, ha, r⟩ := c.sl i _ _ hd hov
    exact ⟨rfl, a, vs, hov, .inl ha, r⟩
  · rename_i kvs hd
    cases h
    obtain ⟨ov, hov⟩ := SRc.nth s hd
    obtain ⟨O, c⟩ := id s
    obtain ⟨a, od, vs, rfl, ha, r⟩ := c.sl i _ _ hd hov
    exact ⟨rfl, a, vs, hov, .inr ⟨od, c.le _ _ ha⟩, r⟩
  · cases h
theorem Out.dT {i : Nat} {α : Type} {kk : List (List Int × D) → Den α} {K : α → DSt → Hp → Hp → Prop} (s : SR g P σ H F st) (o : Out g W P σ F (bindD (dDT i) kk st) K) :
    ∃ a kvs vs, σ[i]? = some (some (.ref a)) ∧ Rd H a (hT kvs vs) ∧ Rl g F vs (kvs.map Prod.snd) ∧ Out g W P σ F (kk kvs st) K := by
  unfold bindD at o
  cases e : dDT i st with
  | ok d st' =>
    rw [e] at o
    obtain ⟨rfl, a, vs, h1, h2, h3⟩ := rdT s e
    exact ⟨a, d, vs, h1, h2, h3, o⟩
  | exn c fs st' => unfold dDT at e; split at e <;> cases e
  | stuck => rw [e] at o; exact o.elim
@[simp] def sDNewT (i : Nat) : DS := putD i (.dt [])
@[simp] def dDgetT (i : Nat) (f : Den D) : Den D := bindD (dDT i) fun _ => bindD f fun y => bindD (dDT i) fun kvs => liftO (match keyT y with | some k => getA kvs k | none => none)
@[simp] def dDinT (n : Bool) (i : Nat) (f : Den D) : Den D := bindD f fun y => bindD (dDT i) fun kvs => liftO (match keyT y with | some k => some (.bl (if n then !(getA kvs k).isSome else (getA kvs k).isSome)) | none => none)
@[simp] def dDgdT (i : Nat) (f h : Den D) : Den D := bindD (dDT i) fun _ => bindD f fun y => bindD h fun z => bindD (dDT i) fun kvs => liftO (match keyT y with | some k => some ((getA kvs k).getD z) | none => none)
@[simp] def dDlenT (i : Nat) : Den D := bindD (dOT i) fun kvs => retD (.int kvs.length)
@[simp] def sDPutT (i : Nat) (k v : Den D) : DS := bindD v fun x => bindD (dDT i) fun _ => bindD k fun y => bindD (dOT i) fun kvs => match keyT y with
  | some q => if kvs.length < big then putD i (.dt (putA kvs q x)) else fun _ => .stuck
  | none => fun _ => .stuck
end
end DL
namespace DL
open PySem PySem.Spec PyProof.Rows L2
section
variable {g : G} {P : Par} {σ : L2.St} {H F F' : Hp} {st : DSt}
mutual
theorem Rv.dropA {a : Addr} (ht : g.tk = false) (n1 : ∀ vs, F a ≠ some (.lst vs)) (n2 : ∀ vs, F a ≠ some (.tup vs)) (n3 : ∀ C d fs, F a ≠ some (.ins C d fs)) (n4 : ∀ o vs, F a ≠ some (.frz o (.lst vs))) (e : ∀ x o, x ≠ a → F x = some o → F' x = some o) : ∀ {v : V} {d : D}, Rv g F v d → Rv g F' v d
  | _, _, .non => .non
  | _, _, .bl b => .bl b
  | _, _, .int b => .int b
  | _, _, .str b => .str b
  | _, _, .lst q r => .lst (e _ _ (fun z => n1 _ (by rw [← z]; exact q)) q) (Rl.dropA ht n1 n2 n3 n4 e r)
  | _, _, .tup q k r => by
    unfold TkP at k
    rw [ht] at k
    have k : F _ = some (.tup _) := k
    have k' := e _ _ (fun z => n2 _ (by rw [← z]; exact k)) k
    exact .tup (.inl (.inl k')) (by unfold TkP; rw [ht]; exact k') (Rl.dropA ht n1 n2 n3 n4 e r)
  | _, _, .ins q m l r => .ins (e _ _ (fun z => n3 _ _ _ (by rw [← z]; exact q)) q) m l (Rl.dropA ht n1 n2 n3 n4 e r)
  | _, _, .scr h => .scr (by
    rcases h with (h | ⟨o, h⟩) | h
    · exact .inl (.inl (e _ _ (fun z => n1 _ (by rw [← z]; exact h)) h))
    · exact .inl (.inr ⟨o, e _ _ (fun z => n4 _ _ (by rw [← z]; exact h)) h⟩)
    · exact .inr h)
theorem Rl.dropA {a : Addr} (ht : g.tk = false) (n1 : ∀ vs, F a ≠ some (.lst vs)) (n2 : ∀ vs, F a ≠ some (.tup vs)) (n3 : ∀ C d fs, F a ≠ some (.ins C d fs)) (n4 : ∀ o vs, F a ≠ some (.frz o (.lst vs))) (e : ∀ x o, x ≠ a → F x = some o → F' x = some o) : ∀ {vs : List V} {ds : List D}, Rl g F vs ds → Rl g F' vs ds
  | _, _, .nil => .nil
  | _, _, .cons r t => .cons (Rv.dropA ht n1 n2 n3 n4 e r) (Rl.dropA ht n1 n2 n3 n4 e t)
end
end
def noLk : Slot → Bool
  | .lk _ => false
  | .lt _ => false
  | .xc _ _ _ => false
  | _ => true
/-- no number, no text, no class: the thing that a lock lays there -/
structure Lkd (F : Hp) (a : Addr) : Prop where
  n1 : ∀ vs, F a ≠ some (.lst vs)
  n2 : ∀ vs, F a ≠ some (.tup vs)
  n3 : ∀ C d fs, F a ≠ some (.ins C d fs)
  n4 : ∀ o vs, F a ≠ some (.frz o (.lst vs))
section
variable {g : G} {P : Par} {O : Addr → Option Nat} {σ : L2.St} {H F F' H' : Hp} {st : DSt}
theorem SlotOk.drop {a : Addr} {O' : Addr → Option Nat} {i : Nat} {s : Slot} {ov : Option V} (ht : g.tk = false) (L : Lkd F a) (ha : O a = none) (e : ∀ x o, x ≠ a → F x = some o → F' x = some o) (eh : ∀ x o, x ≠ a → H x = some o → H' x = some o)
    (hO : ∀ b, O b = some i → O' b = some i) (hs : noLk s = true) (h : SlotOk g P O F H i s ov) : SlotOk g P O' F' H' i s ov := by
  have ne : ∀ {b}, O b = some i → b ≠ a := fun o z => by rw [z, ha] at o; cases o
  have rv : ∀ {v d}, Rv g F v d → Rv g F' v d := fun r => r.dropA ht L.n1 L.n2 L.n3 L.n4 e
  have rl : ∀ {vs ds}, Rl g F vs ds → Rl g F' vs ds := fun r => r.dropA ht L.n1 L.n2 L.n3 L.n4 e
  cases s with
  | no => trivial
  | sh d => obtain ⟨v, e1, r⟩ := h; exact ⟨v, e1, rv r⟩
  | ow ds => obtain ⟨b, vs, e1, o, n, h1, r⟩ := h; exact ⟨b, vs, e1, hO b o, n, eh _ _ (ne o) h1, rl r⟩
  | rf k ds => obtain ⟨b, vs, e1, b1, o, h1, r⟩ := h; exact ⟨b, vs, e1, b1, hO b o, eh _ _ (ne o) h1, rl r⟩
  | oi k c ns ds => obtain ⟨b, C, dx, vs, e1, b1, o, m, l, h1, r⟩ := h; exact ⟨b, C, dx, vs, e1, b1, hO b o, m, l, eh _ _ (ne o) h1, rl r⟩
  | xc c nm x => cases hs
  | dk kvs => obtain ⟨b, vs, e1, o, n, h1, r⟩ := h; exact ⟨b, vs, e1, hO b o, n, eh _ _ (ne o) h1, rl r⟩
  | dt kvs => obtain ⟨b, vs, e1, o, n, h1, r⟩ := h; exact ⟨b, vs, e1, hO b o, n, eh _ _ (ne o) h1, rl r⟩
  | lk kvs => cases hs
  | lt kvs => cases hs
  | o2 dss =>
    obtain ⟨b, bs, e1, o, n, h1, nd, na, l, r⟩ := h
    refine ⟨b, bs, e1, hO b o, n, eh _ _ (ne o) h1, nd, na, l, fun j b' ds e2 e3 => ?_⟩
    obtain ⟨o', n', vs, h2, r2⟩ := r j b' ds e2 e3
    exact ⟨hO b' o', n', vs, eh _ _ (ne o') h2, rl r2⟩
end
end DL
namespace DL
open PySem PySem.Spec PyProof.Rows L2
section
variable {X : Cx} {g : G} {W : WX} {P : Par} {σ : L2.St} {H F : Hp} {st : DSt} {s : Stmt} {k v : Den D}
def dispDK (i : Nat) (x y : D) : DS := match keyK x with
  | some q => putD i (.dk [(q, y)])
  | none => fun _ => .stuck
@[simp] def sDispK (i : Nat) (k v : Den D) : DS := bindD k fun x => bindD v fun y => dispDK i x y
end
section
variable {X : Cx} {g : G} {W : WX} {P : Par} {σ : L2.St} {H F : Hp} {st : DSt} {s : Stmt} {k v : Den D}
def dispDT (i : Nat) (x y : D) : DS := match keyT x with
  | some q => putD i (.dt [(q, y)])
  | none => fun _ => .stuck
@[simp] def sDispT (i : Nat) (k v : Den D) : DS := bindD k fun x => bindD v fun y => dispDT i x y
end
end DL
namespace DL
open PySem PySem.Spec PyProof.Rows L2
end DL
namespace DL
open PySem PySem.Spec PyProof.Rows L2
@[simp] def dPeekB (f : Den Bool) : Den Bool := fun st => match f (st.map frzS) with
  | .ok b _ => .ok b st
  | _ => .stuck
end DL
namespace DL
open PySem PySem.Spec PyProof.Rows L2
def signs (z : Str) : List Str := z.cps.toList.map fun c => ⟨#[c]⟩
@[simp] def strItems : D → Option (List D)
  | .str z => some ((signs z).map D.str)
  | _ => none
@[simp] def dStrItems (f : Den D) : Den (List D) := bindD f fun d => liftO (strItems d)
@[simp] def opSlS (d : D) (lo hi : Option Int) : Option D := match d with
  | .str z => if z.length ≤ big then some (.str (cutS z lo hi)) else none
  | _ => none
@[simp] def dSlS (a : Den D) (lo hi : Den (Option Int)) : Den D := bindD a fun x => bindD lo fun l => bindD hi fun u => liftO (opSlS x l u)
@[simp] def isStrD : D → Option Unit
  | .str _ => some ()
  | _ => none
@[simp] def opIndexS : D → D → Option D
  | .str a, .str b => match Builtin.Str.occurrences a b 0 a.length 1 with
    | i :: _ => some (.int (i : Nat))
    | [] => none
  | _, _ => none
@[simp] def dIndexS (f h : Den D) : Den D := bindD f fun x => bindD (liftO (isStrD x)) fun _ => bindD h fun y => liftO (opIndexS x y)
end DL
namespace DL
open PySem PySem.Spec PyProof.Rows L2
@[simp] def dApp2 (i : Nat) (e1 e : Den D) : Den D := bindD (dO2 i) fun _ => bindD e1 fun k1 => bindD (dO2 i) fun dss => bindD (liftO (rowAt dss k1)) fun r => bindD (hideD i) fun _ => bindD (noX e) fun v =>
  bindD (liftO (if r.2.length < big then some () else none)) fun _ => bindD (backO i (dss.set r.1 (r.2 ++ [v]))) fun _ => retD .non
end DL
namespace DL
open PySem PySem.Spec PyProof.Rows L2
end DL
namespace DL
open PySem PySem.Spec PyProof.Rows L2
end DL
namespace DL
open PySem PySem.Spec PyProof.Rows L2
end DL
namespace DL
open PySem PySem.Spec PyProof.Rows L2
@[simp] def strsOf : List D → Option (List Str)
  | [] => some []
  | .str z :: r => (strsOf r).map (z :: ·)
  | _ :: _ => none
def joinFit (a : Str) (ys : List Str) : Bool := decide ((ys.map (·.length)).sum + ys.length * a.length ≤ 16777216)
@[simp] def opJoin : D → D → Option D
  | .str a, .lst ds => match strsOf ds with
    | some ys => if joinFit a ys = true then some (.str (Txt.join a ys)) else none
    | none => none
  | _, _ => none
@[simp] def dJoin (f h : Den D) : Den D := bindD f fun x => bindD (liftO (isStrD x)) fun _ => bindD h fun y => liftO (opJoin x y)
end DL
namespace DL
open PySem PySem.Spec PyProof.Rows L2
end DL
namespace DL
open PySem PySem.Spec PyProof.Rows L2
end DL
namespace DL
open PySem PySem.Spec PyProof.Rows L2
/-- the pairs made so far -/
structure EnumG (items : Array Value) (lo : Addr) (h : Heap) (as : List Addr) : Prop where
  rise : as.Pairwise (· < ·)
  above : ∀ a ∈ as, lo < a
  pairs : ∀ (j : Nat) (a : Addr), as[j]? = some a → ∃ t x, items[j]? = some x ∧ h.get? a = some { cls := .type "tuple", data := .seq #[.int j t, x] }
section
variable {prog : Program} {w : World} {A : Around} {E : Value → Shared → Prop} {s : Shared} {R : Result → Shared → Prop} {items : Array Value} {e it l S : Addr}
theorem EnumG.lt {lo : Addr} {h : Heap} {as : List Addr} (g : EnumG items lo h as) {a : Addr} (ha : a ∈ as) : a < h.objs.size := by
  obtain ⟨j, hj⟩ := List.mem_iff_getElem?.mp ha
  obtain ⟨_, _, _, q⟩ := g.pairs j a hj
  exact Heap.lt_size q
end
end DL
namespace DL
open PySem PySem.Spec PyProof.Rows L2
def enumD : Nat → List D → List D
  | _, [] => []
  | k, d :: ds => .tup [.int (k : Nat), d] :: enumD (k + 1) ds
@[simp] def enumOp : D → Option (List D)
  | .tup ds => if ds.length ≤ big then some (enumD 0 ds) else none
  | _ => none
@[simp] def dEnumL (f : Den D) : Den (List D) := bindD f fun d => liftO (enumOp d)
end DL
namespace DL
open PySem PySem.Spec PyProof.Rows L2
end DL
namespace DL
open PySem PySem.Spec PyProof.Rows L2
def lexLt (x y : List Int) : Bool := !lexLe y x
section
variable {prog : Program} {w : World} {A : Around} {E : Value → Shared → Prop} {s : Shared}
/-- tuples of d numbers -/
def TupsL (h : Heap) (d : Nat) (vs : List Value) : Prop := ∀ v, v ∈ vs → ∃ ns, TS.TupInts h v ns ∧ ns.length = d
theorem TupsL.keeps {h h' : Heap} {d : Nat} {vs : List Value} (x : TupsL h d vs) (k : ∀ b o, h.get? b = some o → o.cls = .type "tuple" → h'.get? b = some o) : TupsL h' d vs := fun v hv =>
  let ⟨ns, t, r⟩ := x v hv; ⟨ns, t.keeps k, r⟩
end
end DL
namespace DL
open PySem PySem.Spec PyProof.Rows L2
end DL
namespace DL
open PySem PySem.Spec PyProof.Rows L2
end DL
namespace DL
open PySem PySem.Spec PyProof.Rows L2
end DL
namespace DL
open PySem PySem.Spec PyProof.Rows L2
@[simp] def opIsS (c : Str) : D → Option D
  | .ins c' _ _ => if c' = c then some (.bl false) else none
  | d => opIsi "str" d
end DL
namespace DL
open PySem PySem.Spec PyProof.Rows L2
@[simp] def opRev : D → Option D
  | .lst xs => some (.lst xs.reverse)
  | .tup xs => some (.tup xs.reverse)
  | _ => none
section
variable {X : Cx} {g : G} {W : WX} {e : Expr} {f : Den D}
theorem Rl.reverse {F : Hp} : ∀ {vs : List V} {ds : List D}, Rl g F vs ds → Rl g F vs.reverse ds.reverse
  | [], _, .nil => .nil
  | v :: vs, _, .cons h1 h2 => by
    rw [List.reverse_cons, List.reverse_cons]
    exact (Rl.reverse h2).append (.cons h1 .nil)
end
end DL
namespace DL
open PySem PySem.Spec PyProof.Rows L2
end DL
namespace DL
open PySem PySem.Spec PySem.W PyProof.Rows L2
def nonPy : PyData → Bool | .none => true | _ => false
theorem nonPy_ne {p : PyData} (h : nonPy p = false) : p ≠ .none := fun e => by subst e; cases h
def rLtP (K : PySem.W.Frag) : R2 := fun x y H Q => ∃ d e, Dp K H x d ∧ Dp K H y e ∧ SeqAt.shaped d = true ∧ alike d e = true ∧ nonPy d = false ∧ Q (.bl (dataLt d e)) H
theorem op_ltP {X : Cx} (hu : X.A.units + 64 < cLine) : OpR X (compareOp .Lt) (rLtP X.K) := by
  intro pins s σ H x y v u Q I rx ry h
  obtain ⟨d, e, hd, he, sd, ha, hn, q⟩ := h
  obtain ⟨as, r1⟩ := Dp.reads I d x v hd rx
  obtain ⟨bs, r2⟩ := Dp.reads I e y u he ry
  exact lt_data r1 r2 ha (nonPy_ne hn) (SeqAt.room_of_shaped sd hu) ⟨.bl _, H, I, rfl, q⟩
def opLtP (x y : D) : Option D := match toPy x, toPy y with
  | some p, some q => if (SeqAt.shaped p && (alike p q && !nonPy p)) = true then some (.bl (dataLt p q)) else none
  | _, _ => none
section
variable {g : G}
theorem vo_ltP : VO2 g (rLtP g.K) opLtP := by
  intro H F v u d e z l rd re h Q q
  unfold opLtP at h
  split at h
  · rename_i p r e1 e2
    split at h
    · rename_i hs
      cases h
      simp only [Bool.and_eq_true, Bool.not_eq_true'] at hs
      exact ⟨p, r, rd.dp l e1, re.dp l e2, hs.1, hs.2.1, hs.2.2, q _ _ _ (Grow.refl l) (.bl _)⟩
    · cases h
  · cases h
end
def alikeB (ps : List PyData) : Bool := (ps.all fun x => ps.all fun y => alike x y) && ps.all fun x => !nonPy x
theorem alikeB_all {ps : List PyData} (h : alikeB ps = true) : AlikeAll ps := by
  unfold alikeB at h
  simp only [Bool.and_eq_true, List.all_eq_true, Bool.not_eq_true'] at h
  exact ⟨h.1, fun x hx => nonPy_ne (h.2 x hx)⟩
def rMinP (K : PySem.W.Frag) : List V → Hp → VK → Prop := fun vs H Q => ∃ (a : Addr) (ws : List V) (x : PyData) (xs : List PyData), vs = [V.ref a] ∧ H a = some (.lst ws) ∧ DpAll K H ws (x :: xs) ∧ alikeB (x :: xs) = true ∧ PyData.depthAll (x :: xs) ≤ 60 ∧
  ∀ (i : Nat) (w : V), ws[i]? = some w → (x :: xs)[i]? = some (minD x xs) → Q w H
theorem cr_minP {X : Cx} (hc : X.calm = true) (hu : X.A.units + 64 < cLine) : CallR X (.builtin "min") (rMinP X.K) := by
  intro pins s σ H vs us Q I r h
  obtain ⟨a, ws, x, xs, rfl, ha, hd, hal, hdep, q⟩ := h
  obtain ⟨its, rv, hl, _⟩ := I.list (sqL_of (K := X.K) ha)
  rw [Vals.ref1 r]
  obtain ⟨as, ra⟩ := Dp.readsAll I _ _ _ hd rv
  refine min_list_data (I.ok.hd hc) hl.isList ra (alikeB_all hal) (by omega) fun i v h' tk bs hv hr hk => ?_
  obtain ⟨cs, r1, hi, _, _⟩ := readsAll_atA ra i v hv
  obtain ⟨e1, _⟩ := reads_det (fun b o e _ => hk b o e) r1 hr
  have hv : its[i]? = some v := by simpa using hv
  have hw : ∃ w, ws[i]? = some w ∧ RelV w v := by
    have hl : ws.length = its.length := rv.length
    have hil : i < ws.length := by
      rw [hl]
      exact (List.getElem?_eq_some_iff.mp hv).1
    obtain ⟨v', h1, h2⟩ := rv.get (List.getElem?_eq_getElem hil)
    rw [hv] at h1
    cases h1
    exact ⟨_, List.getElem?_eq_getElem hil, h2⟩
  obtain ⟨w, hw, hrel⟩ := hw
  refine ⟨w, H, I.kept hk, hrel, q i w hw ?_⟩
  rw [e1, List.getD_eq_getElem?_getD, List.getElem?_eq_getElem hi, Option.getD_some]
mutual
theorem toPy_inj : ∀ {x y : D} {p : PyData}, toPy x = some p → toPy y = some p → x = y
  | .non, y, p, h, k => by cases h; cases y <;> first | rfl | (simp only [toPy] at k; split at k <;> cases k) | cases k
  | .bl b, y, p, h, k => by cases h; cases y <;> first | (cases k; rfl) | (simp only [toPy] at k; split at k <;> cases k) | cases k
  | .int b, y, p, h, k => by cases h; cases y <;> first | (cases k; rfl) | (simp only [toPy] at k; split at k <;> cases k) | cases k
  | .str b, y, p, h, k => by cases h; cases y <;> first | (cases k; rfl) | (simp only [toPy] at k; split at k <;> cases k) | cases k
  | .lst xs, y, p, h, k => by
    simp only [toPy] at h
    split at h
    · rename_i ps hp
      cases h
      cases y with
      | lst ys =>
        simp only [toPy] at k
        split at k
        · rename_i qs hq
          cases k
          rw [toPys_inj hp hq]
        · cases k
      | tup ys => simp only [toPy] at k; split at k <;> cases k
      | _ => cases k
    · cases h
  | .tup xs, y, p, h, k => by
    simp only [toPy] at h
    split at h
    · rename_i ps hp
      cases h
      cases y with
      | tup ys =>
        simp only [toPy] at k
        split at k
        · rename_i qs hq
          cases k
          rw [toPys_inj hp hq]
        · cases k
      | lst ys => simp only [toPy] at k; split at k <;> cases k
      | _ => cases k
    · cases h
  | .ins _ _ _, y, p, h, k => by cases h
  | .scr _, y, p, h, k => by cases h
theorem toPys_inj : ∀ {xs ys : List D} {ps : List PyData}, toPys xs = some ps → toPys ys = some ps → xs = ys
  | [], [], _, _, _ => rfl
  | [], y :: ys, ps, h, k => by
    cases h
    simp only [toPys] at k
    split at k <;> cases k
  | x :: xs, [], ps, h, k => by
    cases k
    simp only [toPys] at h
    split at h <;> cases h
  | x :: xs, y :: ys, ps, h, k => by
    simp only [toPys] at h k
    split at h
    · rename_i a b h1 h2
      cases h
      split at k
      · rename_i c d k1 k2
        cases k
        rw [toPy_inj h1 k1, toPys_inj h2 k2]
      · cases k
    · cases h
end
def lDP (x y : D) : Bool := match toPy x, toPy y with
  | some p, some q => dataLt p q
  | _, _ => false
def minDP (d : D) (ds : List D) : D := ds.foldl (fun a y => if lDP y a = true then y else a) d
def opMinP : D → Option D
  | .lst (d :: ds) => match toPys (d :: ds) with
    | some ps => if (alikeB ps && decide (PyData.depthAll ps ≤ 60)) = true then some (minDP d ds) else none
    | none => none
  | _ => none
theorem toPys_cons {d : D} {ds : List D} {ps : List PyData} (h : toPys (d :: ds) = some ps) : ∃ p qs, ps = p :: qs ∧ toPy d = some p ∧ toPys ds = some qs := by
  simp only [toPys] at h
  split at h
  · rename_i a b h1 h2
    cases h
    exact ⟨_, _, rfl, h1, h2⟩
  · cases h
theorem minDP_py : ∀ {ds : List D} {d : D} {p : PyData} {ps : List PyData}, toPy d = some p → toPys ds = some ps → toPy (minDP d ds) = some (minD p ps)
  | [], d, p, ps, h, k => by cases k; exact h
  | e :: ds, d, p, ps, h, k => by
    obtain ⟨q, qs, rfl, h1, h2⟩ := toPys_cons k
    have hl : lDP e d = dataLt q p := by unfold lDP; rw [h1, h]
    show toPy (ds.foldl _ (if lDP e d = true then e else d)) = some (qs.foldl _ (if dataLt q p = true then q else p))
    rw [hl]
    by_cases c : dataLt q p = true
    · rw [if_pos c, if_pos c]; exact minDP_py h1 h2
    · rw [if_neg c, if_neg c]; exact minDP_py h h2
theorem toPys_get : ∀ {ds : List D} {ps : List PyData} {i : Nat} {d : D} {p : PyData}, toPys ds = some ps → ds[i]? = some d → ps[i]? = some p → toPy d = some p
  | [], _, _, _, _, _, h, _ => by simp at h
  | e :: ds, ps, i, d, p, h, h1, h2 => by
    obtain ⟨q, qs, rfl, k1, k2⟩ := toPys_cons h
    cases i with
    | zero => simp at h1 h2; subst h1 h2; exact k1
    | succ i => exact toPys_get k2 (by simpa using h1) (by simpa using h2)
section
variable {g : G}
theorem vo_minP : VOC g (rMinP g.K) opMinP := by
  intro H F v d z l rd hz Q q
  unfold opMinP at hz
  split at hz
  · rename_i d ds
    split at hz
    · rename_i ps hp
      split at hz
      · rename_i hc
        cases hz
        simp only [Bool.and_eq_true, decide_eq_true_eq] at hc
        obtain ⟨a, ws, rfl, h1, r1⟩ := rd.lst l
        obtain ⟨p, qs, rfl, k1, k2⟩ := toPys_cons hp
        refine ⟨a, ws, p, qs, rfl, h1, Rl.dp l r1 hp, hc.1, hc.2, fun i w hw hm => ?_⟩
        obtain ⟨e, he, re⟩ := r1.get' hw
        have := toPy_inj (toPys_get hp he hm) (minDP_py k1 k2)
        rw [this] at re
        exact q _ _ _ (Grow.refl l) re
      · cases hz
    · cases hz
  · cases hz
end
def rowLt : List Int → List Int → Bool
  | _, [] => false
  | [], _ :: _ => true
  | x :: xs, y :: ys => if x = y then rowLt xs ys else decide (x < y)
def tabLt : List (List Int) → List (List Int) → Bool
  | _, [] => false
  | [], _ :: _ => true
  | x :: xs, y :: ys => if x = y then tabLt xs ys else rowLt x y
abbrev pRow1 (x : List Int) : PyData := .tuple (x.map PyData.int)
abbrev pTab1 (x : List (List Int)) : PyData := .tuple (x.map pRow1)
theorem alike_ints : ∀ x y : List Int, alikeAll (x.map PyData.int) (y.map PyData.int) = true
  | [], _ => by cases ‹List Int› <;> rfl
  | _ :: _, [] => rfl
  | x :: xs, y :: ys => by
    show alikeAll (PyData.int x :: xs.map _) (PyData.int y :: ys.map _) = true
    unfold alikeAll
    rw [alike_ints xs ys]; rfl
theorem alike_row (x y : List Int) : alike (pRow1 x) (pRow1 y) = true := by
  unfold alike; exact alike_ints x y
theorem alike_rows : ∀ x y : List (List Int), alikeAll (x.map pRow1) (y.map pRow1) = true
  | [], _ => by cases ‹List (List Int)› <;> rfl
  | _ :: _, [] => rfl
  | x :: xs, y :: ys => by
    show alikeAll (pRow1 x :: xs.map _) (pRow1 y :: ys.map _) = true
    unfold alikeAll
    rw [alike_rows xs ys, alike_row]; rfl
theorem alike_tab (x y : List (List Int)) : alike (pTab1 x) (pTab1 y) = true := by
  unfold alike; exact alike_rows x y
theorem eqv_row (x y : List Int) : PyData.eqv (pRow1 x) (pRow1 y) = true ↔ x = y := (pyT pyI).eqv x y
theorem lex_nil_cons {z : List (Int ⊕ List Nat)} : PyProof.Rows.lexLt itemOrd [.inl 0] (.inl 1 :: z) = true := by
  rw [lex_atom (fun h => by cases h) [] z, lex_one]; rfl
theorem lex_cons_nil {z : List (Int ⊕ List Nat)} : PyProof.Rows.lexLt itemOrd (.inl 1 :: z) [.inl 0] = false := by
  rw [lex_atom (fun h => by cases h) z [], lex_one]; rfl
theorem lex_same (z : List (Int ⊕ List Nat)) : PyProof.Rows.lexLt itemOrd z z = false := by
  induction z with
  | nil => rfl
  | cons a z ih => exact (lex_self (O := itemOrd) a z z).trans ih
theorem row_lex : ∀ x y : List Int, PyProof.Rows.lexLt itemOrd (keyToksAll (x.map PyData.int)) (keyToksAll (y.map PyData.int)) = rowLt x y
  | [], [] => by simp only [List.map_nil, keyToksAll]; exact lex_same _
  | _ :: _, [] => by simp only [List.map_nil, List.map_cons, keyToksAll]; exact lex_cons_nil
  | [], _ :: _ => by simp only [List.map_nil, List.map_cons, keyToksAll]; exact lex_nil_cons
  | x :: xs, y :: ys => by
    show PyProof.Rows.lexLt itemOrd (keyToksAll (PyData.int x :: xs.map PyData.int)) (keyToksAll (PyData.int y :: ys.map PyData.int)) = if x = y then rowLt xs ys else decide (x < y)
    by_cases h : x = y
    · rw [if_pos h, dataLt_all_yes (by rfl) (by simp [PyData.eqv, h])]
      exact row_lex xs ys
    · rw [if_neg h, dataLt_all_no (by rfl) (by simp [PyData.eqv, h]), dataLt_int]
theorem row_lt (x y : List Int) : dataLt (pRow1 x) (pRow1 y) = rowLt x y := (dataLt_tuple _ _).trans (row_lex x y)
theorem tab_lex : ∀ x y : List (List Int), PyProof.Rows.lexLt itemOrd (keyToksAll (x.map pRow1)) (keyToksAll (y.map pRow1)) = tabLt x y
  | [], [] => by simp only [List.map_nil, keyToksAll]; exact lex_same _
  | _ :: _, [] => by simp only [List.map_nil, List.map_cons, keyToksAll]; exact lex_cons_nil
  | [], _ :: _ => by simp only [List.map_nil, List.map_cons, keyToksAll]; exact lex_nil_cons
  | x :: xs, y :: ys => by
    show PyProof.Rows.lexLt itemOrd (keyToksAll (pRow1 x :: xs.map pRow1)) (keyToksAll (pRow1 y :: ys.map pRow1)) = if x = y then tabLt xs ys else rowLt x y
    by_cases h : x = y
    · rw [if_pos h, dataLt_all_yes (alike_row x y) ((eqv_row x y).mpr h)]
      exact tab_lex xs ys
    · have : PyData.eqv (pRow1 x) (pRow1 y) = false := by
        cases q : PyData.eqv (pRow1 x) (pRow1 y) with
        | false => rfl
        | true => exact absurd ((eqv_row x y).mp q) h
      rw [if_neg h, dataLt_all_no (alike_row x y) this, row_lt]
theorem tab_lt (x y : List (List Int)) : dataLt (pTab1 x) (pTab1 y) = tabLt x y := (dataLt_tuple _ _).trans (tab_lex x y)
theorem toPy_tab (x : List (List Int)) : toPy ((eT (eT eI)) x) = some (pTab1 x) := (pyT (pyT pyI)).to x
theorem op_ltPT {x y : List (List Int)} : opLtP ((eT (eT eI)) x) ((eT (eT eI)) y) = some (eB (tabLt x y)) := by
  unfold opLtP
  rw [toPy_tab, toPy_tab]
  have h1 : SeqAt.shaped (pTab1 x) = true := by
    have a := (pyT (pyT pyI)).lay x
    have b := (pyT (pyT pyI)).dep x
    unfold SeqAt.shaped
    rw [show (pTab1 x).canLay0 = true from a, decide_eq_true (show (pTab1 x).depth ≤ 64 from by have b : (pTab1 x).depth ≤ 0 + 1 + 1 := b; omega)]; rfl
  have h2 : nonPy (pTab1 x) = false := rfl
  simp only [h1, h2, alike_tab, Bool.not_false, Bool.and_self, if_true, tab_lt]
def pMinT : List (List (List Int)) → M (List (List Int))
  | [] => .stuck
  | x :: xs => .ok (xs.foldl (fun a y => if tabLt y a = true then y else a) x)
theorem minDP_tab : ∀ (xs : List (List (List Int))) (x : List (List Int)), minDP ((eT (eT eI)) x) (xs.map (eT (eT eI))) = (eT (eT eI)) (xs.foldl (fun a y => if tabLt y a = true then y else a) x)
  | [], _ => rfl
  | y :: ys, x => by
    have h : lDP ((eT (eT eI)) y) ((eT (eT eI)) x) = tabLt y x := by
      unfold lDP
      rw [toPy_tab, toPy_tab, ← tab_lt]
    show (ys.map (eT (eT eI))).foldl _ (if lDP ((eT (eT eI)) y) ((eT (eT eI)) x) = true then _ else _) = _
    rw [h, List.foldl_cons]
    by_cases c : tabLt y x = true
    · rw [if_pos c, if_pos c]; exact minDP_tab ys y
    · rw [if_neg c, if_neg c]; exact minDP_tab ys x
theorem op_minPT {xs : List (List (List Int))} : OP (opMinP ((eL (eT (eT eI))) xs)) (pMinT xs) (eT (eT eI)) := by
  cases xs with
  | nil => trivial
  | cons x xs =>
    show opMinP (.lst ((x :: xs).map (eT (eT eI)))) = some _
    have h := toPys_map (pyT (pyT pyI)) (x :: xs)
    have hd := depAll_map (pyT (pyT pyI)) (x :: xs)
    show (match toPys ((x :: xs).map (eT (eT eI))) with | some ps => if (alikeB ps && decide (PyData.depthAll ps ≤ 60)) = true then some (minDP ((eT (eT eI)) x) (xs.map (eT (eT eI)))) else none | none => none) = _
    rw [h]
    have ha : alikeB ((x :: xs).map (pyT (pyT pyI)).py) = true := by
      unfold alikeB
      simp only [Bool.and_eq_true, List.all_eq_true, Bool.not_eq_true']
      refine ⟨fun p hp q hq => ?_, fun p hp => ?_⟩
      · obtain ⟨a, _, rfl⟩ := List.mem_map.mp hp
        obtain ⟨b, _, rfl⟩ := List.mem_map.mp hq
        exact alike_tab a b
      · obtain ⟨a, _, rfl⟩ := List.mem_map.mp hp
        rfl
    simp only [ha, Bool.true_and]
    rw [if_pos (decide_eq_true (by omega)), minDP_tab]
end DL
namespace LAW
open PySem PySem.Spec PyProof.Rows L2 DL
def topS (i : Nat) : Stmt := PySem.Challenge.pw_reesblocks_k22_whole_normal_forms_of_gro.main.body.getD i (.Pass ⟨0, 0, 0, 0⟩)
def fuel : Nat := 1000000
def PP : Program := (PySem.Challenge.rw_reesblocks_k22_whole_normal_forms_of_gro).prog
abbrev TK : Bool := true
def l1__law_state : DS := (sSeq (sSet 1 (dOp2 opAdd (dOp2 opMul (dVar 1) (dC (.int 1000003))) (dOp1n opAbs 3))) (sSet 2 (dOp2 opMod (dOp1 opInt (dOp2 opAdd (dOp2 opMul (dVar 2) (dC (.int 48271))) (dVar 3))) (dC (.int 2147483647)))))
def b__law_state : DS := (sSeq (sSet 1 (dC (.int 0))) (sSeq (sSet 2 (dC (.int 1))) (sSeq (sFor (.nm 3) (dItems (dSln 0 dNoP (dPart (dC (.int 63))))) l1__law_state) sPass)))
def r__law_state : Den (List D) := (dLst (dCons (dVar 1) (dCons (dVar 2) dNil)))
def d__law_state : List D → Option (List D) := runO 1 4 b__law_state r__law_state
def e1__law_renamed : Den D := (dC (.int 0))
def e2__law_renamed : Den (List D) := (dComp [5] (.nm 5) (dRng (dVar 2)) dYes e1__law_renamed)
def l1__law_renamed : DS := (sStore2 3 (dOp2n opIx 1 (dVar 4)) (dOp2n opIx 1 (dVar 5)) (dOp2n opIx 1 (dOp2 opIx (dOp2n opIx 0 (dVar 4)) (dVar 5))))
def l2__law_renamed : DS := (sFor (.nm 5) (dRng (dVar 2)) l1__law_renamed)
def e3__law_renamed : Den D := (dOp1n opTuple 6)
def k3__law_renamed : DS := (sRet (dFrz (dComp [6] (.nm 6) (dItems (dVar 3)) dYes e3__law_renamed)))
def k2__law_renamed : DS := (sSeq (sFor (.nm 4) (dRng (dVar 2)) l2__law_renamed) k3__law_renamed)
def k1__law_renamed : DS := (sSeq (sOwn2 3 (dComp2 [4] (.nm 4) (dRng (dVar 2)) e2__law_renamed)) k2__law_renamed)
def b__law_renamed : DS := (sSeq (sSet 2 (dOp1n opLen 0)) k1__law_renamed)
def d__law_renamed : List D → M D := runF 2 7 b__law_renamed
def e1__law_rows_of : Den D := (dOp2 opAdd (dVar 5) (dTup (dCons (dVar 6) dNil)))
def l1__law_rows_of : DS := (sOwn 4 (dN2 nAdd (dVar 4) (dFrz (dComp [6] (.nm 6) (dRng (dVar 0)) dYes e1__law_rows_of))))
def l2__law_rows_of : DS := (sSeq (sOwn 4 (dLst dNil)) (sSeq (sFor (.nm 5) (dItems (dVar 2)) l1__law_rows_of) (sOwn 2 (dN1n nList 4))))
def k2__law_rows_of : DS := (sRet (dVar 2))
def k1__law_rows_of : DS := (sSeq (sFor (.nm 3) (dRng (dVar 1)) l2__law_rows_of) k2__law_rows_of)
def b__law_rows_of : DS := (sSeq (sOwn 2 (dLst (dCons (dTup dNil) dNil))) k1__law_rows_of)
def d__law_rows_of : List D → M D := runF 2 7 b__law_rows_of
def l1__law_listed : DS := (sIf (dTst (dOp2m opNotIn (dOp2 opIx (dOp2n opIx 0 (dOp2n opIx 2 (dVar 3))) (dVar 4)) 2)) (sExpr (dAppend 2 (dOp2 opIx (dOp2n opIx 0 (dOp2n opIx 2 (dVar 3))) (dVar 4)))) sPass)
def l2__law_listed : DS := (sIf (dTst (dOp2 opLt (dVar 3) (dOp1n opLen 2))) (sFor (.nm 4) (dItems (dVar 1)) l1__law_listed) sPass)
def k2__law_listed : DS := (sRet (dVar 2))
def k1__law_listed : DS := (sSeq (sFor (.nm 3) (dRng (dOp1n opLen 0)) l2__law_listed) k2__law_listed)
def b__law_listed : DS := (sSeq (sOwn 2 (dLst (dCons (dC (.int 0)) dNil))) k1__law_listed)
def d__law_listed : List D → M D := runF 2 5 b__law_listed
def e1__law_least : Den D := (dIndexAN 5 (dOp2 opIx (dOp2n opIx 0 (dVar 7)) (dVar 8)))
def e2__law_least : Den D := (dOp1 opTuple (dFrz (dComp [8] (.nm 8) (dItems (dVar 5)) dYes e1__law_least)))
def l1__law_least : DS := (sSeq (sSet 5 (dCall d__law_listed (dCons (dVar 0) (dCons (dVar 4) dNil)))) (sIf (dAnd (dTst (dOp2 opEq (dOp1n opLen 5) (dVar 1))) (dTst (dOp2m opNotIn (dC (.int 0)) 4))) (sSeq (sSet 6 (dOp1 opTuple (dFrz (dComp [7] (.nm 7) (dItems (dVar 5)) dYes e2__law_least)))) (sIf (dOr (dTst (dOp2 opIs (dVar 2) (dC .non))) (dTst (dOp2 opLtP (dVar 6) (dVar 2)))) (sSet 2 (dVar 6)) sPass)) sPass))
def l2__law_least : DS := (sIf (dTst (dOp2 opIs (dVar 2) (dC .non))) (sFor (.nm 4) (dItems (dCall d__law_rows_of (dCons (dVar 1) (dCons (dVar 3) dNil)))) l1__law_least) sPass)
def k3__law_least : DS := (sRet (dVar 2))
def k2__law_least : DS := (sSeq (sFor (.nm 3) (dRng (dC (.int 4))) l2__law_least) k3__law_least)
def k1__law_least : DS := (sSeq (sSet 2 (dC .non)) k2__law_least)
def b__law_least : DS := (sSeq (sSet 1 (dOp1n opLen 0)) k1__law_least)
def d__law_least : List D → M D := runF 1 9 b__law_least
def k2__law_take : DS := (sRet (dOp2 opMod (dOp1 opInt (dOp2 opDiv (dOp2n opIx 0 (dC (.int 1))) (dC (.int 7)))) (dVar 1)))
def k1__law_take : DS := (sSeq (sStore 0 (dC (.int 1)) (dOp2 opMod (dOp1 opInt (dOp2 opAdd (dOp2 opMul (dOp2n opIx 0 (dC (.int 1))) (dC (.int 48271))) (dC (.int 11)))) (dC (.int 2147483647)))) k2__law_take)
def b__law_take : DS := (sSeq (sIf (dTst (dOp2 opGt (dOp2n opIx 0 (dC (.int 0))) (dC (.int 0)))) (sSeq (sSet 2 (dOp2 opMod (dOp1 opInt (dOp2n opIx 0 (dC (.int 0)))) (dVar 1))) (sSeq (sStore 0 (dC (.int 0)) (dOp2 opDiv (dOp2n opIx 0 (dC (.int 0))) (dVar 1))) (sRet (dVar 2)))) sPass) k1__law_take)
def d__law_take : List D → List D → M (D × List D) := runR 2 3 b__law_take
def e1__law_cyclic : Den D := (dOp2 opMod (dOp1 opInt (dOp2 opAdd (dVar 1) (dVar 2))) (dVar 0))
def e2__law_cyclic : Den D := (dOp1 opTuple (dFrz (dComp [2] (.nm 2) (dRng (dVar 0)) dYes e1__law_cyclic)))
def b__law_cyclic : DS := (sRet (dFrz (dComp [1] (.nm 1) (dRng (dVar 0)) dYes e2__law_cyclic)))
def d__law_cyclic : List D → M D := runF 1 3 b__law_cyclic
def b__law_klein : DS := (sRet (dFrz (dLst (dCons (dTup (dCons (dC (.int 0)) (dCons (dC (.int 1)) (dCons (dC (.int 2)) (dCons (dC (.int 3)) dNil))))) (dCons (dTup (dCons (dC (.int 1)) (dCons (dC (.int 0)) (dCons (dC (.int 3)) (dCons (dC (.int 2)) dNil))))) (dCons (dTup (dCons (dC (.int 2)) (dCons (dC (.int 3)) (dCons (dC (.int 0)) (dCons (dC (.int 1)) dNil))))) (dCons (dTup (dCons (dC (.int 3)) (dCons (dC (.int 2)) (dCons (dC (.int 1)) (dCons (dC (.int 0)) dNil))))) dNil)))))))
def d__law_klein : List D → M D := runF 0 0 b__law_klein
def l1__law_dihedral : DS := (sSeq (sSet 5 (dOp2 opMod (dOp1 opInt (dOp2 opAdd (dVar 2) (dVar 4))) (dVar 0))) (sSeq (sIf (dTst (dOp2 opGe (dVar 2) (dVar 0))) (sSet 5 (dOp2 opMod (dOp1 opInt (dOp2 opSub (dVar 2) (dVar 4))) (dVar 0))) sPass) (sExpr (dAppend 3 (dOp2 opAdd (dVar 5) (dOp2 opMul (dVar 0) (dOp1 opInt (dOp2 opNe (dOp2 opLt (dVar 2) (dVar 0)) (dOp2 opLt (dVar 4) (dVar 0))))))))))
def l2__law_dihedral : DS := (sSeq (sOwn 3 (dLst dNil)) (sSeq (sFor (.nm 4) (dRng (dOp2 opMul (dC (.int 2)) (dVar 0))) l1__law_dihedral) (sExpr (dAppend 1 (dOp1n opTuple 3)))))
def k2__law_dihedral : DS := (sRet (dVar 1))
def k1__law_dihedral : DS := (sSeq (sFor (.nm 2) (dRng (dOp2 opMul (dC (.int 2)) (dVar 0))) l2__law_dihedral) k2__law_dihedral)
def b__law_dihedral : DS := (sSeq (sOwn 1 (dLst dNil)) k1__law_dihedral)
def d__law_dihedral : List D → M D := runF 1 6 b__law_dihedral
def k3__law_group : DS := (sRet (dCall d__law_cyclic (dCons (dOp2 opAdd (dC (.int 1)) (dCallR d__law_take 0 (dCons (dVar 1) dNil))) dNil)))
def k2__law_group : DS := (sSeq (sIf (dAnd (dTst (dOp2 opEq (dVar 2) (dC (.int 5)))) (dTst (dOp2 opGt (dVar 1) (dC (.int 5))))) (sRet (dCall d__law_dihedral (dCons (dC (.int 3)) dNil))) sPass) k3__law_group)
def k1__law_group : DS := (sSeq (sIf (dAnd (dTst (dOp2 opEq (dVar 2) (dC (.int 4)))) (dTst (dOp2 opGt (dVar 1) (dC (.int 3))))) (sRet (dCall d__law_klein dNil)) sPass) k2__law_group)
def b__law_group : DS := (sSeq (sSet 2 (dCallR d__law_take 0 (dCons (dC (.int 6)) dNil))) k1__law_group)
def d__law_group : List D → List D → M (D × List D) := runR 2 3 b__law_group
def l1__law_order_of : DS := (sExpr (dAppend 3 (dPopAt 2 (dCallR d__law_take 0 (dCons (dOp1n opLen 2) dNil)))))
def k3__law_order_of : DS := (sRet (dVar 3))
def k2__law_order_of : DS := (sSeq (sFor (.nm 4) (dRng (dVar 1)) l1__law_order_of) k3__law_order_of)
def k1__law_order_of : DS := (sSeq (sOwn 3 (dLst dNil)) k2__law_order_of)
def b__law_order_of : DS := (sSeq (sOwn 2 (dLstRg (dRg1 (dVar 1)))) k1__law_order_of)
def d__law_order_of : List D → List D → M (D × List D) := runR 2 5 b__law_order_of
def e1__law_inner_order : Den D := (dOp2 opAdd (dC (.int 1)) (dVar 2))
def b__law_inner_order : DS := (sRet (dFrz (dN2 nAdd (dFrz (dLst (dCons (dC (.int 0)) dNil))) (dFrz (dComp [2] (.nm 2) (dItems (dCallR d__law_order_of 0 (dCons (dOp2 opSub (dVar 1) (dC (.int 1))) dNil))) dYes e1__law_inner_order)))))
def d__law_inner_order : List D → List D → M (D × List D) := runR 2 3 b__law_inner_order
def e1_renamed : Den D := (dIndexAN 2 (dOp2 opIx (dOp2n opIx 0 (dVar 3)) (dVar 4)))
def e2_renamed : Den D := (dOp1 opTuple (dFrz (dComp [4] (.nm 4) (dItems (dVar 1)) dYes e1_renamed)))
def b_renamed : DS := (sSeq (sOwn 2 (dN1n nList 1)) (sRet (dOp1 opTuple (dFrz (dComp [3] (.nm 3) (dItems (dVar 1)) dYes e2_renamed)))))
def d_renamed : List D → M D := runF 2 5 b_renamed
def l1_enumerated : DS := (sSeq (sSet 5 (dOp2 opIx (dOp2n opIx 0 (dOp2n opIx 2 (dVar 3))) (dVar 4))) (sIf (dTst (dOp2m opNotIn (dVar 5) 2)) (sExpr (dAppend 2 (dVar 5))) sPass))
def l2_enumerated : DS := (sSeq (sFor (.nm 4) (dItems (dVar 1)) l1_enumerated) (sSet 3 (dOp2 opAdd (dVar 3) (dC (.int 1)))))
def t1_enumerated : Den Bool := (dTst (dOp2 opLt (dVar 3) (dOp1n opLen 2)))
def k4_enumerated : DS := (sRet (dOp1n opTuple 2))
def k3_enumerated : DS := (sSeq (sIf (dTst (dOp2 opLt (dOp1n opLen 2) (dOp1n opLen 0))) (sRet (dC .non)) sPass) k4_enumerated)
def k2_enumerated : DS := (sSeq (sWhile t1_enumerated l2_enumerated fuel) k3_enumerated)
def k1_enumerated : DS := (sSeq (sSet 3 (dC (.int 0))) k2_enumerated)
def b_enumerated : DS := (sSeq (sOwn 2 (dLst (dCons (dC (.int 0)) dNil))) k1_enumerated)
def d_enumerated : List D → M D := runF 2 6 b_enumerated
def i1_tuples_of : Den (List D) := (dRng2 (dC (.int 1)) (dVar 0))
def e1_tuples_of : Den D := (dOp2 opAdd (dVar 4) (dTup (dCons (dVar 5) dNil)))
def l1_tuples_of : DS := (sOwn 2 (dCompB [4, 5] [5] (.nm 4) (dItems (dVar 2)) dYes (.nm 5) i1_tuples_of dYes e1_tuples_of))
def k2_tuples_of : DS := (sRet (dVar 2))
def k1_tuples_of : DS := (sSeq (sFor (.nm 3) (dRng (dVar 1)) l1_tuples_of) k2_tuples_of)
def b_tuples_of : DS := (sSeq (sOwn 2 (dLst (dCons (dTup dNil) dNil))) k1_tuples_of)
def d_tuples_of : List D → M D := runF 2 6 b_tuples_of
def e1_orders_of : Den D := (dCall d_enumerated (dCons (dVar 0) (dCons (dVar 4) dNil)))
def e2_orders_of : Den D := (dVar 5)
def t1_orders_of : Den Bool := (dTst (dOp2 opIsNot (dVar 5) (dC .non)))
def l1_orders_of : DS := (sSeq (sOwn 2 (dComp [4] (.nm 4) (dItems (dCall d_tuples_of (dCons (dOp1n opLen 0) (dCons (dVar 1) dNil)))) dYes e1_orders_of)) (sSeq (sOwn 3 (dComp [5] (.nm 5) (dItems (dVar 2)) t1_orders_of e2_orders_of)) (sSeq (sIf (dTst (dOp2 opGt (dOp1n opLen 3) (dC (.int 0)))) (sRet (dVar 3)) sPass) (sSet 1 (dOp2 opAdd (dVar 1) (dC (.int 1)))))))
def t2_orders_of : Den Bool := (dTst (dOp2 opLe (dVar 1) (dOp1n opLen 0)))
def k2_orders_of : DS := (sRet (dFrz (dLst dNil)))
def k1_orders_of : DS := (sSeq (sWhile t2_orders_of l1_orders_of fuel) k2_orders_of)
def b_orders_of : DS := (sSeq (sSet 1 (dC (.int 0))) k1_orders_of)
def d_orders_of : List D → M D := runF 1 6 b_orders_of
def e1_group_form : Den D := (dCall d_renamed (dCons (dVar 0) (dCons (dVar 1) dNil)))
def b_group_form : DS := (sRet (dOp1 opMinP (dFrz (dComp [1] (.nm 1) (dItems (dCall d_orders_of (dCons (dVar 0) dNil))) dYes e1_group_form))))
def d_group_form : List D → M D := runF 1 2 b_group_form
def e1_form_maps : Den D := (dIndexAN 3 (dVar 4))
def l1_form_maps : DS := (sIf (dTst (dOp2 opEq (dCall d_renamed (dCons (dVar 0) (dCons (dVar 3) dNil))) (dVar 1))) (sExpr (dAppend 2 (dOp1 opTuple (dFrz (dComp [4] (.nm 4) (dRng (dOp1n opLen 0)) dYes e1_form_maps))))) sPass)
def k3_form_maps : DS := (sRet (dOp1 opTuple (dFrz (dN1n nSortedA 2))))
def k2_form_maps : DS := (sSeq (sFor (.nm 3) (dItems (dCall d_orders_of (dCons (dVar 0) dNil))) l1_form_maps) k3_form_maps)
def k1_form_maps : DS := (sSeq (sOwn 2 (dLst dNil)) k2_form_maps)
def b_form_maps : DS := (sSeq (sSet 1 (dCall d_group_form (dCons (dVar 0) dNil))) k1_form_maps)
def d_form_maps : List D → M D := runF 1 5 b_form_maps
def e1__law_arrangements : Den D := (dOp2 opAdd (dVar 4) (dTup (dCons (dVar 5) dNil)))
def t1__law_arrangements : Den Bool := (dTst (dOp2m opNotIn (dVar 5) 4))
def l1__law_arrangements : DS := (sOwn 3 (dN2 nAdd (dVar 3) (dFrz (dComp [5] (.nm 5) (dRng (dVar 0)) t1__law_arrangements e1__law_arrangements))))
def l2__law_arrangements : DS := (sSeq (sOwn 3 (dLst dNil)) (sSeq (sFor (.nm 4) (dItems (dVar 1)) l1__law_arrangements) (sOwn 1 (dN1n nList 3))))
def k2__law_arrangements : DS := (sRet (dVar 1))
def k1__law_arrangements : DS := (sSeq (sFor (.nm 2) (dRng (dVar 0)) l2__law_arrangements) k2__law_arrangements)
def b__law_arrangements : DS := (sSeq (sOwn 1 (dLst (dCons (dTup dNil) dNil))) k1__law_arrangements)
def d__law_arrangements : List D → M D := runF 1 6 b__law_arrangements
def l1__law_is_iso : DS := (sIf (dTst (dOp2 opNe (dOp2n opIx 2 (dOp2 opIx (dOp2n opIx 0 (dVar 3)) (dVar 4))) (dOp2 opIx (dOp2n opIx 1 (dOp2n opIx 2 (dVar 3))) (dOp2n opIx 2 (dVar 4))))) (sRet (dC (.bl false))) sPass)
def l2__law_is_iso : DS := (sFor (.nm 4) (dRng (dOp1n opLen 0)) l1__law_is_iso)
def k2__law_is_iso : DS := (sRet (dC (.bl true)))
def k1__law_is_iso : DS := (sSeq (sFor (.nm 3) (dRng (dOp1n opLen 0)) l2__law_is_iso) k2__law_is_iso)
def b__law_is_iso : DS := (sSeq (sIf (dOr (dTst (dOp2 opNe (dFrz (dN1n nSortedA 2)) (dFrz (dLstRg (dRg1 (dOp1n opLen 0)))))) (dTst (dOp2 opNe (dOp1n opLen 0) (dOp1n opLen 1)))) (sRet (dC (.bl false))) sPass) k1__law_is_iso)
def d__law_is_iso : List D → M D := runF 3 5 b__law_is_iso
def e1__law_maps : Den D := (dOp2 opAdd (dC (.int 1)) (dVar 6))
def l1__law_maps : DS := (sSeq (sSet 5 (dOp2 opAdd (dTup (dCons (dC (.int 0)) dNil)) (dOp1 opTuple (dFrz (dComp [6] (.nm 6) (dItems (dVar 4)) dYes e1__law_maps))))) (sIf (dTst (dCall d__law_is_iso (dCons (dVar 0) (dCons (dVar 1) (dCons (dVar 5) dNil))))) (sExpr (dAppend 3 (dVar 5))) sPass))
def k4__law_maps : DS := (sRet (dOp1n opTuple 3))
def k3__law_maps : DS := (sSeq (sFor (.nm 4) (dItems (dCall d__law_arrangements (dCons (dOp2 opSub (dVar 2) (dC (.int 1))) dNil))) l1__law_maps) k4__law_maps)
def k2__law_maps : DS := (sSeq (sOwn 3 (dLst dNil)) k3__law_maps)
def k1__law_maps : DS := (sSeq (sIf (dTst (dOp2 opNe (dOp1n opLen 1) (dVar 2))) (sRet (dTup dNil)) sPass) k2__law_maps)
def b__law_maps : DS := (sSeq (sSet 2 (dOp1n opLen 0)) k1__law_maps)
def d__law_maps : List D → M D := runF 2 7 b__law_maps
def e1_group_isomorphisms : Den D := (dIndexAN 2 (dVar 5))
def l1_group_isomorphisms : DS := (sExpr (dAppend 3 (dOp1 opTuple (dFrz (dComp [5] (.nm 5) (dItems (dVar 4)) dYes e1_group_isomorphisms)))))
def k4_group_isomorphisms : DS := (sRet (dOp1 opTuple (dFrz (dN1n nSortedA 3))))
def k3_group_isomorphisms : DS := (sSeq (sFor (.nm 4) (dItems (dCall d_form_maps (dCons (dVar 0) dNil))) l1_group_isomorphisms) k4_group_isomorphisms)
def k2_group_isomorphisms : DS := (sSeq (sOwn 3 (dLst dNil)) k3_group_isomorphisms)
def k1_group_isomorphisms : DS := (sSeq (sSet 2 (dOp2 opIx (dCall d_form_maps (dCons (dVar 1) dNil)) (dC (.int 0)))) k2_group_isomorphisms)
def b_group_isomorphisms : DS := (sSeq (sIf (dTst (dOp2 opNe (dCall d_group_form (dCons (dVar 0) dNil)) (dCall d_group_form (dCons (dVar 1) dNil)))) (sRet (dTup dNil)) sPass) k1_group_isomorphisms)
def d_group_isomorphisms : List D → M D := runF 2 6 b_group_isomorphisms
def e1_law : Den D := (dFrz (dN1n nList 7))
def k8_law : DS := (sRet (dOp2 opEq (dOp2 opEq (dCall d_group_form (dCons (dVar 5) dNil)) (dVar 6)) (dOp2 opGt (dOp1 opLen (dCall d__law_maps (dCons (dVar 4) (dCons (dVar 5) dNil)))) (dC (.int 0)))))
def k7_law : DS := (sSeq (sIf (dOr (dTst (dOp2 opNe (dCall d_form_maps (dCons (dVar 4) dNil)) (dCall d__law_maps (dCons (dVar 4) (dCons (dVar 6) dNil))))) (dTst (dOp2 opNe (dCall d_group_isomorphisms (dCons (dVar 4) (dCons (dVar 5) dNil))) (dCall d__law_maps (dCons (dVar 4) (dCons (dVar 5) dNil)))))) (sRet (dC (.bl false))) sPass) k8_law)
def k6_law : DS := (sSeq (sIf (dOr (dTst (dOp2 opNe (dCall d_group_form (dCons (dVar 4) dNil)) (dVar 6))) (dTst (dOp2 opNe (dCall d_group_form (dCons (dOp1 opTuple (dFrz (dComp [7] (.nm 7) (dItems (dVar 4)) dYes e1_law))) dNil)) (dVar 6)))) (sRet (dC (.bl false))) sPass) k7_law)
def k5_law : DS := (sSeq (sSet 6 (dCall d__law_least (dCons (dVar 4) dNil))) k6_law)
def k4_law : DS := (sSeq (sSet 5 (dCall d__law_renamed (dCons (dVar 3) (dCons (dCallR d__law_inner_order 1 (dCons (dOp1n opLen 3) dNil)) dNil)))) k5_law)
def k3_law : DS := (sSeq (sSet 4 (dCall d__law_renamed (dCons (dVar 2) (dCons (dCallR d__law_inner_order 1 (dCons (dOp1n opLen 2) dNil)) dNil)))) k4_law)
def k2_law : DS := (sSeq (sIf (dTst (dOp2 opEq (dCallR d__law_take 1 (dCons (dC (.int 2)) dNil)) (dC (.int 0)))) (sSet 3 (dVar 2)) sPass) k3_law)
def k1_law : DS := (sSeq (sPar 2 3 (dCallR d__law_group 1 (dCons (dC (.int 6)) dNil)) (dCallR d__law_group 1 (dCons (dC (.int 6)) dNil))) k2_law)
def b_law : DS := (sSeq (sOwn 1 (dCallO d__law_state (dCons (dVar 0) dNil))) k1_law)
def d_law : List D → M D := runF 1 8 b_law
def dd__law_state : He.DefD := ⟨("_law_state", none), "_law_state", "_law_state", defArgs (topS 15), defBody (topS 15), defScope (topS 15), [], []⟩
def dd__law_renamed : He.DefD := ⟨("_law_renamed", none), "_law_renamed", "_law_renamed", defArgs (topS 18), defBody (topS 18), defScope (topS 18), [], []⟩
def dd__law_rows_of : He.DefD := ⟨("_law_rows_of", none), "_law_rows_of", "_law_rows_of", defArgs (topS 20), defBody (topS 20), defScope (topS 20), [], []⟩
def dd__law_listed : He.DefD := ⟨("_law_listed", none), "_law_listed", "_law_listed", defArgs (topS 21), defBody (topS 21), defScope (topS 21), [], []⟩
def dd__law_least : He.DefD := ⟨("_law_least", none), "_law_least", "_law_least", defArgs (topS 22), defBody (topS 22), defScope (topS 22), [], []⟩
def dd__law_take : He.DefD := ⟨("_law_take", none), "_law_take", "_law_take", defArgs (topS 16), defBody (topS 16), defScope (topS 16), [], []⟩
def dd__law_cyclic : He.DefD := ⟨("_law_cyclic", none), "_law_cyclic", "_law_cyclic", defArgs (topS 9), defBody (topS 9), defScope (topS 9), [], []⟩
def dd__law_klein : He.DefD := ⟨("_law_klein", none), "_law_klein", "_law_klein", defArgs (topS 10), defBody (topS 10), defScope (topS 10), [], []⟩
def dd__law_dihedral : He.DefD := ⟨("_law_dihedral", none), "_law_dihedral", "_law_dihedral", defArgs (topS 11), defBody (topS 11), defScope (topS 11), [], []⟩
def dd__law_group : He.DefD := ⟨("_law_group", none), "_law_group", "_law_group", defArgs (topS 12), defBody (topS 12), defScope (topS 12), [], []⟩
def dd__law_order_of : He.DefD := ⟨("_law_order_of", none), "_law_order_of", "_law_order_of", defArgs (topS 17), defBody (topS 17), defScope (topS 17), [], []⟩
def dd__law_inner_order : He.DefD := ⟨("_law_inner_order", none), "_law_inner_order", "_law_inner_order", defArgs (topS 13), defBody (topS 13), defScope (topS 13), [], []⟩
def dd_renamed : He.DefD := ⟨("renamed", none), "renamed", "renamed", defArgs (topS 4), defBody (topS 4), defScope (topS 4), [], []⟩
def dd_enumerated : He.DefD := ⟨("enumerated", none), "enumerated", "enumerated", defArgs (topS 1), defBody (topS 1), defScope (topS 1), [], []⟩
def dd_tuples_of : He.DefD := ⟨("tuples_of", none), "tuples_of", "tuples_of", defArgs (topS 2), defBody (topS 2), defScope (topS 2), [], []⟩
def dd_orders_of : He.DefD := ⟨("orders_of", none), "orders_of", "orders_of", defArgs (topS 3), defBody (topS 3), defScope (topS 3), [], []⟩
def dd_group_form : He.DefD := ⟨("group_form", none), "group_form", "group_form", defArgs (topS 5), defBody (topS 5), defScope (topS 5), [], []⟩
def dd_form_maps : He.DefD := ⟨("form_maps", none), "form_maps", "form_maps", defArgs (topS 6), defBody (topS 6), defScope (topS 6), [], []⟩
def dd__law_arrangements : He.DefD := ⟨("_law_arrangements", none), "_law_arrangements", "_law_arrangements", defArgs (topS 19), defBody (topS 19), defScope (topS 19), [], []⟩
def dd__law_is_iso : He.DefD := ⟨("_law_is_iso", none), "_law_is_iso", "_law_is_iso", defArgs (topS 14), defBody (topS 14), defScope (topS 14), [], []⟩
def dd__law_maps : He.DefD := ⟨("_law_maps", none), "_law_maps", "_law_maps", defArgs (topS 23), defBody (topS 23), defScope (topS 23), [], []⟩
def dd_group_isomorphisms : He.DefD := ⟨("group_isomorphisms", none), "group_isomorphisms", "group_isomorphisms", defArgs (topS 7), defBody (topS 7), defScope (topS 7), [], []⟩
def dd_law : He.DefD := ⟨("law", none), "law", "law", defArgs (topS 24), defBody (topS 24), defScope (topS 24), [], []⟩
def fn : List He.DefD := [dd__law_state, dd__law_renamed, dd__law_rows_of, dd__law_listed, dd__law_least, dd__law_take, dd__law_cyclic, dd__law_klein, dd__law_dihedral, dd__law_group, dd__law_order_of, dd__law_inner_order, dd_renamed, dd_enumerated, dd_tuples_of, dd_orders_of, dd_group_form, dd_form_maps, dd__law_arrangements, dd__law_is_iso, dd__law_maps, dd_group_isomorphisms, dd_law]
def xn : List He.DefD := []
def fa : List He.Fa := [.free "abs", .free "int", .free "len", .free "list", .free "min", .free "range", .free "sorted", .free "tuple", .glo "_law_state", .glo "_law_renamed", .glo "_law_rows_of", .glo "_law_listed", .glo "_law_least", .glo "_law_take", .glo "_law_cyclic", .glo "_law_klein", .glo "_law_dihedral", .glo "_law_group", .glo "_law_order_of", .glo "_law_inner_order", .glo "renamed", .glo "enumerated", .glo "tuples_of", .glo "orders_of", .glo "group_form", .glo "form_maps", .glo "_law_arrangements", .glo "_law_is_iso", .glo "_law_maps", .glo "group_isomorphisms", .glo "law"]
def ex (K : PySem.W.Frag) : Bool := true
section
variable {w : World} {K : PySem.W.Frag} {mg : Str → Option Value} {base h : Heap}
theorem T_free_abs (KX : K.In h) (G : h.Ns mainGlobals mg) (c : Says fa fn xn ex K) : mg "abs" = none := He.free_ok KX G (c.fact 0 (f := .free "abs") rfl)
theorem T_free_int (KX : K.In h) (G : h.Ns mainGlobals mg) (c : Says fa fn xn ex K) : mg "int" = none := He.free_ok KX G (c.fact 1 (f := .free "int") rfl)
theorem T_free_len (KX : K.In h) (G : h.Ns mainGlobals mg) (c : Says fa fn xn ex K) : mg "len" = none := He.free_ok KX G (c.fact 2 (f := .free "len") rfl)
theorem T_free_list (KX : K.In h) (G : h.Ns mainGlobals mg) (c : Says fa fn xn ex K) : mg "list" = none := He.free_ok KX G (c.fact 3 (f := .free "list") rfl)
theorem T_free_min (KX : K.In h) (G : h.Ns mainGlobals mg) (c : Says fa fn xn ex K) : mg "min" = none := He.free_ok KX G (c.fact 4 (f := .free "min") rfl)
theorem T_free_range (KX : K.In h) (G : h.Ns mainGlobals mg) (c : Says fa fn xn ex K) : mg "range" = none := He.free_ok KX G (c.fact 5 (f := .free "range") rfl)
theorem T_free_sorted (KX : K.In h) (G : h.Ns mainGlobals mg) (c : Says fa fn xn ex K) : mg "sorted" = none := He.free_ok KX G (c.fact 6 (f := .free "sorted") rfl)
theorem T_free_tuple (KX : K.In h) (G : h.Ns mainGlobals mg) (c : Says fa fn xn ex K) : mg "tuple" = none := He.free_ok KX G (c.fact 7 (f := .free "tuple") rfl)
theorem sc__law_state : FnScope ["_law_script", "_law_seed", "_law_total", "_law_cell"] ["_law_script"] (defScope (topS 15)) := ⟨rfl, rfl, rfl, by decide +kernel, rfl, by decide +kernel, by decide +kernel⟩
theorem ok__law_state (KX : K.In h) (G : h.Ns mainGlobals mg) (c : Says fa fn xn ex K) : Fk PP w K mg base "_law_state" 1 (He.fAd K ("_law_state", none)) ["_law_script"] (spO ⟨K, mg, none, TK⟩ d__law_state) := by
  obtain ⟨fd, F⟩ := c.def_ 0 (d := dd__law_state) rfl
  have sc := sc__law_state
  refine ⟨⟨fd, fn_own F sc (by decide) fun cdv A outer s H E hr tk po => ?_, F.bindsN (ps := ["_law_script"]) fun _ _ _ _ _ _ us hl => match us, hl with | [_], _ => rfl⟩, He.glo_ok KX G (c.fact 8 (f := .glo "_law_state") rfl), F.kp⟩
  exact (essO_cons (es_set (ps_set (i := 1) sc.nd rfl (by first | exact Or.inl rfl | exact Or.inr rfl) (ev_int pe_int)))
    (essO_cons (es_set (ps_set (i := 2) sc.nd rfl (by first | exact Or.inl rfl | exact Or.inr rfl) (ev_int pe_int)))
    (essO_cons (es_for (ps_for po rfl (ei_any (pi_any (ev_sln (pe_slice sl_D (pv 0) eo_none (eo_some (ev_int pe_int)))))) (eg_nm (pg_name (i := 3) sc.nd rfl (by first | exact .inl rfl | exact .inr rfl))) (ess_cons (es_set (ps_set (i := 1) sc.nd rfl (by first | exact Or.inl rfl | exact Or.inr rfl) (ev2 vo_add (pe_op op_addD (ev2 vo_mul (pe_op op_mulD (ev_var (pv 1)) (ev_int pe_int))) (evc1n vo_abs (pe_callB call_abs (by rfl) (T_free_abs KX G c) (by decide +kernel) (pa_cons (pv 3) pa_nil)))))))
    (ess_one (es_set (ps_set (i := 2) sc.nd rfl (by first | exact Or.inl rfl | exact Or.inr rfl) (ev2 vo_mod (pe_op op_modN (evc1 vo_int (pe_callTy call_int1 (by rfl) (T_free_int KX G c) (by decide +kernel) (pa_cons (ev2 vo_add (pe_op op_addD (ev2 vo_mul (pe_op op_mulD (ev_var (pv 2)) (ev_int pe_int))) (ev_var (pv 3)))) pa_nil))) (ev_int pe_int)))))))))
    (essO_one (ps_ret (evN_lst (pe_lst (ea_cons (ev_var (pv 1)) (ea_cons (ev_var (pv 2)) ea_nil')))))))))
theorem sc__law_renamed : FnScope ["_law_table", "_law_order", "_law_n", "_law_found", "_law_x", "_law_y", "_law_row"] ["_law_table", "_law_order"] (defScope (topS 18)) := ⟨rfl, rfl, rfl, by decide +kernel, rfl, by decide +kernel, by decide +kernel⟩
theorem ok__law_renamed (KX : K.In h) (G : h.Ns mainGlobals mg) (c : Says fa fn xn ex K) : Fk PP w K mg base "_law_renamed" 1 (He.fAd K ("_law_renamed", none)) ["_law_table", "_law_order"] (spD ⟨K, mg, none, TK⟩ d__law_renamed) := by
  obtain ⟨fd, F⟩ := c.def_ 1 (d := dd__law_renamed) rfl
  have sc := sc__law_renamed
  refine ⟨⟨fd, fn_data F sc (by decide) fun cdv A outer s H E hr tk po => ?_, F.bindsN (ps := ["_law_table", "_law_order"]) fun _ _ _ _ _ _ us hl => match us, hl with | [_, _], _ => rfl⟩, He.glo_ok KX G (c.fact 9 (f := .glo "_law_renamed") rfl), F.kp⟩
  exact (ess_cons (es_set (ps_set (i := 2) sc.nd rfl (by first | exact Or.inl rfl | exact Or.inr rfl) (evc1n vo_len (pe_callB call_lenD (by rfl) (T_free_len KX G c) (by decide +kernel) (pa_cons (pv 0) pa_nil)))))
    (ess_cons (es_own2 (ps_setLc (i := 3) (own := [("_law_x", 4)]) rfl sc.nd rfl rfl (sw_true rfl rfl rfl (by decide +kernel)) (ei_rng (pi_range1 (by rfl) (T_free_range KX G c) (pa_cons (ev_var (pv 2)) pa_nil))) (blkOk_by (own := [("_law_x", 4)]) (by first | decide +kernel | rfl)) (fun _ _ _ _ _ => (eg_nm (pg_name (i := 4) sc.nd rfl (by first | exact .inl rfl | exact .inr rfl)))) (fun _ _ _ _ _ => ets_nil) (fun _ _ _ _ _ => (ev_comp (pe_lc (own := [("_law_y", 5)]) rfl sc.nd (ei_rng (pi_range1 (by rfl) (T_free_range KX G c) (pa_cons (ev_var (pv 2)) pa_nil))) (blkOk_by (own := [("_law_y", 5)]) (by first | decide +kernel | rfl)) (fun _ _ _ _ _ => (eg_nm (pg_name (i := 5) sc.nd rfl (by first | exact .inl rfl | exact .inr rfl)))) (fun _ _ _ _ _ => ets_nil) (fun _ _ _ _ _ => (ev_int pe_int)))))))
    (ess_cons (es_for (ps_for po rfl (ei_rng (pi_range1 (by rfl) (T_free_range KX G c) (pa_cons (ev_var (pv 2)) pa_nil))) (eg_nm (pg_name (i := 4) sc.nd rfl (by first | exact .inl rfl | exact .inr rfl))) (ess_one (es_for (ps_for po rfl (ei_rng (pi_range1 (by rfl) (T_free_range KX G c) (pa_cons (ev_var (pv 2)) pa_nil))) (eg_nm (pg_name (i := 5) sc.nd rfl (by first | exact .inl rfl | exact .inr rfl))) (ess_one (es_store2 (ps_asg (ev2n vo_ix (pe_ix ix_seq (pv 1) (ev2 vo_ix (pe_ix ix_seq (ev2n vo_ix (pe_ix ix_seq (pv 0) (ev_var (pv 4)) (fun _ _ => rfl))) (ev_var (pv 5)) (fun _ _ => rfl))) (fun _ _ => rfl))) (pg_sub (pe_ix ix_seq (pv 3) (ev2n vo_ix (pe_ix ix_seq (pv 1) (ev_var (pv 4)) (fun _ _ => rfl))) (fun _ _ => rfl)) (ev2n vo_ix (pe_ix ix_seq (pv 1) (ev_var (pv 5)) (fun _ _ => rfl))) set_list)))))))))
    (ess_one (es_ret (ps_ret (ev_frz (ev_comp (pe_lc (own := [("_law_row", 6)]) rfl sc.nd (ei_any (pi_any (ev_var (pv 3)))) (blkOk_by (own := [("_law_row", 6)]) (by first | decide +kernel | rfl)) (fun _ _ _ _ _ => (eg_nm (pg_name (i := 6) sc.nd rfl (by first | exact .inl rfl | exact .inr rfl)))) (fun _ _ _ _ _ => ets_nil) (fun _ _ _ _ _ => (evc1n vo_tuple (pe_callTy call_tupleN (by rfl) (T_free_tuple KX G c) (by decide +kernel) (pa_cons (pv 6) pa_nil)))))))))))))
theorem sc__law_rows_of : FnScope ["_law_n", "_law_count", "_law_found", "_law_k", "_law_longer", "_law_row", "_law_x"] ["_law_n", "_law_count"] (defScope (topS 20)) := ⟨rfl, rfl, rfl, by decide +kernel, rfl, by decide +kernel, by decide +kernel⟩
theorem ok__law_rows_of (KX : K.In h) (G : h.Ns mainGlobals mg) (c : Says fa fn xn ex K) : Fk PP w K mg base "_law_rows_of" 1 (He.fAd K ("_law_rows_of", none)) ["_law_n", "_law_count"] (spD ⟨K, mg, none, TK⟩ d__law_rows_of) := by
  obtain ⟨fd, F⟩ := c.def_ 2 (d := dd__law_rows_of) rfl
  have sc := sc__law_rows_of
  refine ⟨⟨fd, fn_data F sc (by decide) fun cdv A outer s H E hr tk po => ?_, F.bindsN (ps := ["_law_n", "_law_count"]) fun _ _ _ _ _ _ us hl => match us, hl with | [_, _], _ => rfl⟩, He.glo_ok KX G (c.fact 10 (f := .glo "_law_rows_of") rfl), F.kp⟩
  exact (ess_cons (es_own (ps_set (i := 2) sc.nd rfl (by first | exact Or.inl rfl | exact Or.inr rfl) (evN_lst (pe_lst (ea_cons (ev_tup (pe_tupN ea_nil')) ea_nil')))))
    (ess_cons (es_for (ps_for po rfl (ei_rng (pi_range1 (by rfl) (T_free_range KX G c) (pa_cons (ev_var (pv 1)) pa_nil))) (eg_nm (pg_name (i := 3) sc.nd rfl (by first | exact .inl rfl | exact .inr rfl))) (ess_cons (es_own (ps_set (i := 4) sc.nd rfl (by first | exact Or.inl rfl | exact Or.inr rfl) (evN_lst (pe_lst ea_nil'))))
    (ess_cons (es_for (ps_for po rfl (ei_any (pi_any (ev_var (pv 2)))) (eg_nm (pg_name (i := 5) sc.nd rfl (by first | exact .inl rfl | exact .inr rfl))) (ess_one (es_own (ps_set (i := 4) sc.nd rfl (by first | exact Or.inl rfl | exact Or.inr rfl) (evN2 vn_add (pe_op op_addD (ev_var (pv 4)) (ev_frz (ev_comp (pe_lc (own := [("_law_x", 6)]) rfl sc.nd (ei_rng (pi_range1 (by rfl) (T_free_range KX G c) (pa_cons (ev_var (pv 0)) pa_nil))) (blkOk_by (own := [("_law_x", 6)]) (by first | decide +kernel | rfl)) (fun _ _ _ _ _ => (eg_nm (pg_name (i := 6) sc.nd rfl (by first | exact .inl rfl | exact .inr rfl)))) (fun _ _ _ _ _ => ets_nil) (fun _ _ _ _ _ => (ev2 vo_add (pe_op op_addD (ev_var (pv 5)) (ev_tup (pe_tupN (ea_cons (ev_var (pv 6)) ea_nil'))))))))))))))))
    (ess_one (es_own (ps_set (i := 2) sc.nd rfl (by first | exact Or.inl rfl | exact Or.inr rfl) (evN1n vn_list (pe_callTy call_list_of (by rfl) (T_free_list KX G c) (by decide +kernel) (pa_cons (pv 4) pa_nil))))))))))
    (ess_one (es_ret (ps_ret (ev_var (pv 2)))))))
theorem sc__law_listed : FnScope ["_law_table", "_law_generators", "_law_found", "_law_turn", "_law_g"] ["_law_table", "_law_generators"] (defScope (topS 21)) := ⟨rfl, rfl, rfl, by decide +kernel, rfl, by decide +kernel, by decide +kernel⟩
theorem ok__law_listed (KX : K.In h) (G : h.Ns mainGlobals mg) (c : Says fa fn xn ex K) : Fk PP w K mg base "_law_listed" 1 (He.fAd K ("_law_listed", none)) ["_law_table", "_law_generators"] (spD ⟨K, mg, none, TK⟩ d__law_listed) := by
  obtain ⟨fd, F⟩ := c.def_ 3 (d := dd__law_listed) rfl
  have sc := sc__law_listed
  refine ⟨⟨fd, fn_data F sc (by decide) fun cdv A outer s H E hr tk po => ?_, F.bindsN (ps := ["_law_table", "_law_generators"]) fun _ _ _ _ _ _ us hl => match us, hl with | [_, _], _ => rfl⟩, He.glo_ok KX G (c.fact 11 (f := .glo "_law_listed") rfl), F.kp⟩
  exact (ess_cons (es_own (ps_set (i := 2) sc.nd rfl (by first | exact Or.inl rfl | exact Or.inr rfl) (evN_lst (pe_lst (ea_cons (ev_int pe_int) ea_nil')))))
    (ess_cons (es_for (ps_for po rfl (ei_rng (pi_range1 (by rfl) (T_free_range KX G c) (pa_cons (evc1n vo_len (pe_callB call_lenD (by rfl) (T_free_len KX G c) (by decide +kernel) (pa_cons (pv 0) pa_nil))) pa_nil))) (eg_nm (pg_name (i := 3) sc.nd rfl (by first | exact .inl rfl | exact .inr rfl))) (ess_one (es_if (ps_if (et2 (vo_cmpI _) (pt_cmpR op_lt (ev_var (pv 3)) (evc1n vo_len (pe_callB call_lenD (by rfl) (T_free_len KX G c) (by decide +kernel) (pa_cons (pv 2) pa_nil))) (nomark _))) (ess_one (es_for (ps_for po rfl (ei_any (pi_any (ev_var (pv 1)))) (eg_nm (pg_name (i := 4) sc.nd rfl (by first | exact .inl rfl | exact .inr rfl))) (ess_one (es_if (ps_if (et2m vo_notin (pt_cmpR (op_notInA (room_u hr)) (ev2 vo_ix (pe_ix ix_seq (ev2n vo_ix (pe_ix ix_seq (pv 0) (ev2n vo_ix (pe_ix ix_seq (pv 2) (ev_var (pv 3)) (fun _ _ => rfl))) (fun _ _ => rfl))) (ev_var (pv 4)) (fun _ _ => rfl))) (pv 2) (by with_unfolding_all rfl))) (ess_one (es_expr (ps_expr (ev_append (pe_bm PySem.F.plainAttrs_list PySem.F.slot_list_append PySem.F.type_list_append mt_append (pv 2) (pa_cons (ev2 vo_ix (pe_ix ix_seq (ev2n vo_ix (pe_ix ix_seq (pv 0) (ev2n vo_ix (pe_ix ix_seq (pv 2) (ev_var (pv 3)) (fun _ _ => rfl))) (fun _ _ => rfl))) (ev_var (pv 4)) (fun _ _ => rfl))) pa_nil)))))) ess_nil)))))) ess_nil)))))
    (ess_one (es_ret (ps_ret (ev_var (pv 2)))))))
theorem sc__law_least : FnScope ["_law_table", "_law_n", "_law_best", "_law_size", "_law_generators", "_law_order", "_law_found", "_law_x", "_law_y"] ["_law_table"] (defScope (topS 22)) := ⟨rfl, rfl, rfl, by decide +kernel, rfl, by decide +kernel, by decide +kernel⟩
theorem ok__law_least (KX : K.In h) (G : h.Ns mainGlobals mg) (c : Says fa fn xn ex K) : Fk PP w K mg base "_law_least" 2 (He.fAd K ("_law_least", none)) ["_law_table"] (spD ⟨K, mg, none, TK⟩ d__law_least) := by
  obtain ⟨fd, F⟩ := c.def_ 4 (d := dd__law_least) rfl
  have sc := sc__law_least
  refine ⟨⟨fd, fn_data F sc (by decide) fun cdv A outer s H E hr tk po => ?_, F.bindsN (ps := ["_law_table"]) fun _ _ _ _ _ _ us hl => match us, hl with | [_], _ => rfl⟩, He.glo_ok KX G (c.fact 12 (f := .glo "_law_least") rfl), F.kp⟩
  exact (ess_cons (es_set (ps_set (i := 1) sc.nd rfl (by first | exact Or.inl rfl | exact Or.inr rfl) (evc1n vo_len (pe_callB call_lenD (by rfl) (T_free_len KX G c) (by decide +kernel) (pa_cons (pv 0) pa_nil)))))
    (ess_cons (es_set (ps_set (i := 2) sc.nd rfl (by first | exact Or.inl rfl | exact Or.inr rfl) (ev_non pe_non)))
    (ess_cons (es_for (ps_for po rfl (ei_rng (pi_range1 (by rfl) (T_free_range KX G c) (pa_cons (ev_int pe_int) pa_nil))) (eg_nm (pg_name (i := 3) sc.nd rfl (by first | exact .inl rfl | exact .inr rfl))) (ess_one (es_if (ps_if (et2 vo_is (pt_cmpR op_isD (ev_var (pv 2)) (ev_non pe_non) (nomark _))) (ess_one (es_for (ps_for po rfl (ei_any (pi_any (ev_call ((ok__law_rows_of KX G c).pe (hr.mono (by decide)) (by rfl) tk (ea_cons (ev_var (pv 1)) (ea_cons (ev_var (pv 3)) ea_nil')))))) (eg_nm (pg_name (i := 4) sc.nd rfl (by first | exact .inl rfl | exact .inr rfl))) (ess_cons (es_set (ps_set (i := 5) sc.nd rfl (by first | exact Or.inl rfl | exact Or.inr rfl) (ev_call ((ok__law_listed KX G c).pe (hr.mono (by decide)) (by rfl) tk (ea_cons (ev_var (pv 0)) (ea_cons (ev_var (pv 4)) ea_nil'))))))
    (ess_one (es_if (ps_if (PW.pt (et_and (pw_and (et2 vo_eq (pt_cmpR (op_eqD (room_u4 hr)) (evc1n vo_len (pe_callB call_lenD (by rfl) (T_free_len KX G c) (by decide +kernel) (pa_cons (pv 5) pa_nil))) (ev_var (pv 1)) (nomark _))) (pw_and1 (et2m vo_notin (pt_cmpR (op_notInA (room_u hr)) (ev_int pe_int) (pv 4) (by with_unfolding_all rfl))))))) (ess_cons (es_set (ps_set (i := 6) sc.nd rfl (by first | exact Or.inl rfl | exact Or.inr rfl) (evc1 vo_tuple (pe_callTy call_tupleN (by rfl) (T_free_tuple KX G c) (by decide +kernel) (pa_cons (ev_frz (ev_comp (pe_lc (own := [("_law_x", 7)]) rfl sc.nd (ei_any (pi_any (ev_var (pv 5)))) (blkOk_by (own := [("_law_x", 7)]) (by first | decide +kernel | rfl)) (fun _ _ _ _ _ => (eg_nm (pg_name (i := 7) sc.nd rfl (by first | exact .inl rfl | exact .inr rfl)))) (fun _ _ _ _ _ => ets_nil) (fun _ _ _ _ _ => (evc1 vo_tuple (pe_callTy call_tupleN (by rfl) (T_free_tuple KX G c) (by decide +kernel) (pa_cons (ev_frz (ev_comp (pe_lc (own := [("_law_y", 8)]) rfl sc.nd (ei_any (pi_any (ev_var (pv 5)))) (blkOk_by (own := [("_law_y", 8)]) (by first | decide +kernel | rfl)) (fun _ _ _ _ _ => (eg_nm (pg_name (i := 8) sc.nd rfl (by first | exact .inl rfl | exact .inr rfl)))) (fun _ _ _ _ _ => ets_nil) (fun _ _ _ _ _ => (ev_indexAN rfl (pe_bmA PySem.F.plainAttrs_list PySem.F.slot_list_index PySem.F.type_list_index (mt_indexA (room_u hr)) PySem.F.plainAttrs_tuple PySem.F.slot_tuple_index PySem.F.type_tuple_index mt_indexT (pv 5) (pa_cons (ev2 vo_ix (pe_ix ix_seq (ev2n vo_ix (pe_ix ix_seq (pv 0) (ev_var (pv 7)) (fun _ _ => rfl))) (ev_var (pv 8)) (fun _ _ => rfl))) pa_nil))))))) pa_nil))))))) pa_nil)))))
    (ess_one (es_if (ps_if (PW.pt (et_or (pw_or (et2 vo_is (pt_cmpR op_isD (ev_var (pv 2)) (ev_non pe_non) (nomark _))) (pw_or1 (et2 vo_ltP (pt_cmpR (op_ltP (room_u4 hr)) (ev_var (pv 6)) (ev_var (pv 2)) (nomark _))))))) (ess_one (es_set (ps_set (i := 2) sc.nd rfl (by first | exact Or.inl rfl | exact Or.inr rfl) (ev_var (pv 6))))) ess_nil)))) ess_nil))))))) ess_nil)))))
    (ess_one (es_ret (ps_ret (ev_var (pv 2))))))))
theorem sc__law_take : FnScope ["_law_state_here", "_law_m", "_law_value"] ["_law_state_here", "_law_m"] (defScope (topS 16)) := ⟨rfl, rfl, rfl, by decide +kernel, rfl, by decide +kernel, by decide +kernel⟩
theorem ok__law_take (KX : K.In h) (G : h.Ns mainGlobals mg) (c : Says fa fn xn ex K) : Fk PP w K mg base "_law_take" 1 (He.fAd K ("_law_take", none)) ["_law_state_here", "_law_m"] (spR ⟨K, mg, none, TK⟩ d__law_take) := by
  obtain ⟨fd, F⟩ := c.def_ 5 (d := dd__law_take) rfl
  have sc := sc__law_take
  refine ⟨⟨fd, fn_dataR F sc (by decide) fun cdv A outer s H E hr tk po => ?_, F.bindsN (ps := ["_law_state_here", "_law_m"]) fun _ _ _ _ _ _ us hl => match us, hl with | [_, _], _ => rfl⟩, He.glo_ok KX G (c.fact 13 (f := .glo "_law_take") rfl), F.kp⟩
  exact (ess_cons (es_if (ps_if (et2 (vo_cmpI _) (pt_cmpR op_gt (ev2n vo_ix (pe_ix ix_seq (pv 0) (ev_int pe_int) (fun _ _ => rfl))) (ev_int pe_int) (nomark _))) (ess_cons (es_set (ps_set (i := 2) sc.nd rfl (by first | exact Or.inl rfl | exact Or.inr rfl) (ev2 vo_mod (pe_op op_modN (evc1 vo_int (pe_callTy call_int1 (by rfl) (T_free_int KX G c) (by decide +kernel) (pa_cons (ev2n vo_ix (pe_ix ix_seq (pv 0) (ev_int pe_int) (fun _ _ => rfl))) pa_nil))) (ev_var (pv 1))))))
    (ess_cons (es_store (ps_asg (ev2 vo_div (pe_op op_fdivN (ev2n vo_ix (pe_ix ix_seq (pv 0) (ev_int pe_int) (fun _ _ => rfl))) (ev_var (pv 1)))) (pg_sub (pv 0) (ev_int pe_int) set_list)))
    (ess_one (es_ret (ps_ret (ev_var (pv 2))))))) ess_nil))
    (ess_cons (es_store (ps_asg (ev2 vo_mod (pe_op op_modN (evc1 vo_int (pe_callTy call_int1 (by rfl) (T_free_int KX G c) (by decide +kernel) (pa_cons (ev2 vo_add (pe_op op_addD (ev2 vo_mul (pe_op op_mulD (ev2n vo_ix (pe_ix ix_seq (pv 0) (ev_int pe_int) (fun _ _ => rfl))) (ev_int pe_int))) (ev_int pe_int))) pa_nil))) (ev_int pe_int))) (pg_sub (pv 0) (ev_int pe_int) set_list)))
    (ess_one (es_ret (ps_ret (ev2 vo_mod (pe_op op_modN (evc1 vo_int (pe_callTy call_int1 (by rfl) (T_free_int KX G c) (by decide +kernel) (pa_cons (ev2 vo_div (pe_op op_fdivN (ev2n vo_ix (pe_ix ix_seq (pv 0) (ev_int pe_int) (fun _ _ => rfl))) (ev_int pe_int))) pa_nil))) (ev_var (pv 1)))))))))
theorem sc__law_cyclic : FnScope ["_law_n", "_law_x", "_law_y"] ["_law_n"] (defScope (topS 9)) := ⟨rfl, rfl, rfl, by decide +kernel, rfl, by decide +kernel, by decide +kernel⟩
theorem ok__law_cyclic (KX : K.In h) (G : h.Ns mainGlobals mg) (c : Says fa fn xn ex K) : Fk PP w K mg base "_law_cyclic" 1 (He.fAd K ("_law_cyclic", none)) ["_law_n"] (spD ⟨K, mg, none, TK⟩ d__law_cyclic) := by
  obtain ⟨fd, F⟩ := c.def_ 6 (d := dd__law_cyclic) rfl
  have sc := sc__law_cyclic
  refine ⟨⟨fd, fn_data F sc (by decide) fun cdv A outer s H E hr tk po => ?_, F.bindsN (ps := ["_law_n"]) fun _ _ _ _ _ _ us hl => match us, hl with | [_], _ => rfl⟩, He.glo_ok KX G (c.fact 14 (f := .glo "_law_cyclic") rfl), F.kp⟩
  exact (ess_one (es_ret (ps_ret (ev_frz (ev_comp (pe_lc (own := [("_law_x", 1)]) rfl sc.nd (ei_rng (pi_range1 (by rfl) (T_free_range KX G c) (pa_cons (ev_var (pv 0)) pa_nil))) (blkOk_by (own := [("_law_x", 1)]) (by first | decide +kernel | rfl)) (fun _ _ _ _ _ => (eg_nm (pg_name (i := 1) sc.nd rfl (by first | exact .inl rfl | exact .inr rfl)))) (fun _ _ _ _ _ => ets_nil) (fun _ _ _ _ _ => (evc1 vo_tuple (pe_callTy call_tupleN (by rfl) (T_free_tuple KX G c) (by decide +kernel) (pa_cons (ev_frz (ev_comp (pe_lc (own := [("_law_y", 2)]) rfl sc.nd (ei_rng (pi_range1 (by rfl) (T_free_range KX G c) (pa_cons (ev_var (pv 0)) pa_nil))) (blkOk_by (own := [("_law_y", 2)]) (by first | decide +kernel | rfl)) (fun _ _ _ _ _ => (eg_nm (pg_name (i := 2) sc.nd rfl (by first | exact .inl rfl | exact .inr rfl)))) (fun _ _ _ _ _ => ets_nil) (fun _ _ _ _ _ => (ev2 vo_mod (pe_op op_modN (evc1 vo_int (pe_callTy call_int1 (by rfl) (T_free_int KX G c) (by decide +kernel) (pa_cons (ev2 vo_add (pe_op op_addD (ev_var (pv 1)) (ev_var (pv 2)))) pa_nil))) (ev_var (pv 0)))))))) pa_nil))))))))))
theorem sc__law_klein : FnScope [] [] (defScope (topS 10)) := ⟨rfl, rfl, rfl, by decide +kernel, rfl, by decide +kernel, by decide +kernel⟩
theorem ok__law_klein (KX : K.In h) (G : h.Ns mainGlobals mg) (c : Says fa fn xn ex K) : Fk PP w K mg base "_law_klein" 1 (He.fAd K ("_law_klein", none)) [] (spD ⟨K, mg, none, TK⟩ d__law_klein) := by
  obtain ⟨fd, F⟩ := c.def_ 7 (d := dd__law_klein) rfl
  have sc := sc__law_klein
  refine ⟨⟨fd, fn_data F sc (by decide) fun cdv A outer s H E hr tk po => ?_, F.bindsN (ps := []) fun _ _ _ _ _ _ us hl => match us, hl with | [], _ => rfl⟩, He.glo_ok KX G (c.fact 15 (f := .glo "_law_klein") rfl), F.kp⟩
  exact (ess_one (es_ret (ps_ret (ev_frz (evN_lst (pe_lst (ea_cons (ev_tup (pe_tupN (ea_cons (ev_int pe_int) (ea_cons (ev_int pe_int) (ea_cons (ev_int pe_int) (ea_cons (ev_int pe_int) ea_nil')))))) (ea_cons (ev_tup (pe_tupN (ea_cons (ev_int pe_int) (ea_cons (ev_int pe_int) (ea_cons (ev_int pe_int) (ea_cons (ev_int pe_int) ea_nil')))))) (ea_cons (ev_tup (pe_tupN (ea_cons (ev_int pe_int) (ea_cons (ev_int pe_int) (ea_cons (ev_int pe_int) (ea_cons (ev_int pe_int) ea_nil')))))) (ea_cons (ev_tup (pe_tupN (ea_cons (ev_int pe_int) (ea_cons (ev_int pe_int) (ea_cons (ev_int pe_int) (ea_cons (ev_int pe_int) ea_nil')))))) ea_nil'))))))))))
theorem sc__law_dihedral : FnScope ["_law_n", "_law_rows", "_law_x", "_law_row", "_law_y", "_law_turn"] ["_law_n"] (defScope (topS 11)) := ⟨rfl, rfl, rfl, by decide +kernel, rfl, by decide +kernel, by decide +kernel⟩
theorem ok__law_dihedral (KX : K.In h) (G : h.Ns mainGlobals mg) (c : Says fa fn xn ex K) : Fk PP w K mg base "_law_dihedral" 1 (He.fAd K ("_law_dihedral", none)) ["_law_n"] (spD ⟨K, mg, none, TK⟩ d__law_dihedral) := by
  obtain ⟨fd, F⟩ := c.def_ 8 (d := dd__law_dihedral) rfl
  have sc := sc__law_dihedral
  refine ⟨⟨fd, fn_data F sc (by decide) fun cdv A outer s H E hr tk po => ?_, F.bindsN (ps := ["_law_n"]) fun _ _ _ _ _ _ us hl => match us, hl with | [_], _ => rfl⟩, He.glo_ok KX G (c.fact 16 (f := .glo "_law_dihedral") rfl), F.kp⟩
  exact (ess_cons (es_own (ps_set (i := 1) sc.nd rfl (by first | exact Or.inl rfl | exact Or.inr rfl) (evN_lst (pe_lst ea_nil'))))
    (ess_cons (es_for (ps_for po rfl (ei_rng (pi_range1 (by rfl) (T_free_range KX G c) (pa_cons (ev2 vo_mul (pe_op op_mulD (ev_int pe_int) (ev_var (pv 0)))) pa_nil))) (eg_nm (pg_name (i := 2) sc.nd rfl (by first | exact .inl rfl | exact .inr rfl))) (ess_cons (es_own (ps_set (i := 3) sc.nd rfl (by first | exact Or.inl rfl | exact Or.inr rfl) (evN_lst (pe_lst ea_nil'))))
    (ess_cons (es_for (ps_for po rfl (ei_rng (pi_range1 (by rfl) (T_free_range KX G c) (pa_cons (ev2 vo_mul (pe_op op_mulD (ev_int pe_int) (ev_var (pv 0)))) pa_nil))) (eg_nm (pg_name (i := 4) sc.nd rfl (by first | exact .inl rfl | exact .inr rfl))) (ess_cons (es_set (ps_set (i := 5) sc.nd rfl (by first | exact Or.inl rfl | exact Or.inr rfl) (ev2 vo_mod (pe_op op_modN (evc1 vo_int (pe_callTy call_int1 (by rfl) (T_free_int KX G c) (by decide +kernel) (pa_cons (ev2 vo_add (pe_op op_addD (ev_var (pv 2)) (ev_var (pv 4)))) pa_nil))) (ev_var (pv 0))))))
    (ess_cons (es_if (ps_if (et2 (vo_cmpI _) (pt_cmpR op_ge (ev_var (pv 2)) (ev_var (pv 0)) (nomark _))) (ess_one (es_set (ps_set (i := 5) sc.nd rfl (by first | exact Or.inl rfl | exact Or.inr rfl) (ev2 vo_mod (pe_op op_modN (evc1 vo_int (pe_callTy call_int1 (by rfl) (T_free_int KX G c) (by decide +kernel) (pa_cons (ev2 vo_sub (pe_op op_sub (ev_var (pv 2)) (ev_var (pv 4)))) pa_nil))) (ev_var (pv 0))))))) ess_nil))
    (ess_one (es_expr (ps_expr (ev_append (pe_bm PySem.F.plainAttrs_list PySem.F.slot_list_append PySem.F.type_list_append mt_append (pv 3) (pa_cons (ev2 vo_add (pe_op op_addD (ev_var (pv 5)) (ev2 vo_mul (pe_op op_mulD (ev_var (pv 0)) (evc1 vo_int (pe_callTy call_int1 (by rfl) (T_free_int KX G c) (by decide +kernel) (pa_cons (ev2 vo_ne (pe_cmpR (op_neD (room_u4 hr)) (ev2 (vo_cmpI _) (pe_cmpR op_lt (ev_var (pv 2)) (ev_var (pv 0)) (nomark _))) (ev2 (vo_cmpI _) (pe_cmpR op_lt (ev_var (pv 4)) (ev_var (pv 0)) (nomark _))) (nomark _))) pa_nil))))))) pa_nil))))))))))
    (ess_one (es_expr (ps_expr (ev_append (pe_bm PySem.F.plainAttrs_list PySem.F.slot_list_append PySem.F.type_list_append mt_append (pv 1) (pa_cons (evc1n vo_tuple (pe_callTy call_tupleN (by rfl) (T_free_tuple KX G c) (by decide +kernel) (pa_cons (pv 3) pa_nil))) pa_nil))))))))))
    (ess_one (es_ret (ps_ret (ev_var (pv 1)))))))
theorem sc__law_group : FnScope ["_law_state_here", "_law_most", "_law_pick"] ["_law_state_here", "_law_most"] (defScope (topS 12)) := ⟨rfl, rfl, rfl, by decide +kernel, rfl, by decide +kernel, by decide +kernel⟩
theorem ok__law_group (KX : K.In h) (G : h.Ns mainGlobals mg) (c : Says fa fn xn ex K) : Fk PP w K mg base "_law_group" 2 (He.fAd K ("_law_group", none)) ["_law_state_here", "_law_most"] (spR ⟨K, mg, none, TK⟩ d__law_group) := by
  obtain ⟨fd, F⟩ := c.def_ 9 (d := dd__law_group) rfl
  have sc := sc__law_group
  refine ⟨⟨fd, fn_dataR F sc (by decide) fun cdv A outer s H E hr tk po => ?_, F.bindsN (ps := ["_law_state_here", "_law_most"]) fun _ _ _ _ _ _ us hl => match us, hl with | [_, _], _ => rfl⟩, He.glo_ok KX G (c.fact 17 (f := .glo "_law_group") rfl), F.kp⟩
  exact (ess_cons (es_set (ps_set (i := 2) sc.nd rfl (by first | exact Or.inl rfl | exact Or.inr rfl) (ev_callR (runR_nox _ _ _) ((ok__law_take KX G c).pe (hr.mono (by decide)) (by rfl) tk (pa_cons (pv 0) (ea_cons (ev_int pe_int) ea_nil'))))))
    (ess_cons (es_if (ps_if (PW.pt (et_and (pw_and (et2 vo_eq (pt_cmpR (op_eqD (room_u4 hr)) (ev_var (pv 2)) (ev_int pe_int) (nomark _))) (pw_and1 (et2 (vo_cmpI _) (pt_cmpR op_gt (ev_var (pv 1)) (ev_int pe_int) (nomark _))))))) (ess_one (es_ret (ps_ret (ev_call0 ((ok__law_klein KX G c).pe0 (hr.mono (by decide)) (by rfl) tk))))) ess_nil))
    (ess_cons (es_if (ps_if (PW.pt (et_and (pw_and (et2 vo_eq (pt_cmpR (op_eqD (room_u4 hr)) (ev_var (pv 2)) (ev_int pe_int) (nomark _))) (pw_and1 (et2 (vo_cmpI _) (pt_cmpR op_gt (ev_var (pv 1)) (ev_int pe_int) (nomark _))))))) (ess_one (es_ret (ps_ret (ev_call ((ok__law_dihedral KX G c).pe (hr.mono (by decide)) (by rfl) tk (ea_cons (ev_int pe_int) ea_nil')))))) ess_nil))
    (ess_one (es_ret (ps_ret (ev_call ((ok__law_cyclic KX G c).pe (hr.mono (by decide)) (by rfl) tk (ea_cons (ev2 vo_add (pe_op op_addD (ev_int pe_int) (ev_callR (runR_nox _ _ _) ((ok__law_take KX G c).pe (hr.mono (by decide)) (by rfl) tk (pa_cons (pv 0) (ea_cons (ev_var (pv 1)) ea_nil')))))) ea_nil')))))))))
theorem sc__law_order_of : FnScope ["_law_state_here", "_law_n", "_law_left", "_law_found", "_law_k"] ["_law_state_here", "_law_n"] (defScope (topS 17)) := ⟨rfl, rfl, rfl, by decide +kernel, rfl, by decide +kernel, by decide +kernel⟩
theorem ok__law_order_of (KX : K.In h) (G : h.Ns mainGlobals mg) (c : Says fa fn xn ex K) : Fk PP w K mg base "_law_order_of" 2 (He.fAd K ("_law_order_of", none)) ["_law_state_here", "_law_n"] (spR ⟨K, mg, none, TK⟩ d__law_order_of) := by
  obtain ⟨fd, F⟩ := c.def_ 10 (d := dd__law_order_of) rfl
  have sc := sc__law_order_of
  refine ⟨⟨fd, fn_dataR F sc (by decide) fun cdv A outer s H E hr tk po => ?_, F.bindsN (ps := ["_law_state_here", "_law_n"]) fun _ _ _ _ _ _ us hl => match us, hl with | [_, _], _ => rfl⟩, He.glo_ok KX G (c.fact 18 (f := .glo "_law_order_of") rfl), F.kp⟩
  exact (ess_cons (es_own (ps_set (i := 2) sc.nd rfl (by first | exact Or.inl rfl | exact Or.inr rfl) (evN_rg (pe_listRg rfl (by rfl) (T_free_list KX G c) (erg1 (prg_1 (by rfl) (T_free_range KX G c) (ev_var (pv 1))))))))
    (ess_cons (es_own (ps_set (i := 3) sc.nd rfl (by first | exact Or.inl rfl | exact Or.inr rfl) (evN_lst (pe_lst ea_nil'))))
    (ess_cons (es_for (ps_for po rfl (ei_rng (pi_range1 (by rfl) (T_free_range KX G c) (pa_cons (ev_var (pv 1)) pa_nil))) (eg_nm (pg_name (i := 4) sc.nd rfl (by first | exact .inl rfl | exact .inr rfl))) (ess_one (es_expr (ps_expr (ev_append (pe_bm PySem.F.plainAttrs_list PySem.F.slot_list_append PySem.F.type_list_append mt_append (pv 3) (pa_cons (ev_popAt (pe_bm PySem.F.plainAttrs_list PySem.F.slot_list_pop PySem.F.type_list_pop mt_popAt (pv 2) (pa_cons (ev_callR (runR_nox _ _ _) ((ok__law_take KX G c).pe (hr.mono (by decide)) (by rfl) tk (pa_cons (pv 0) (ea_cons (evc1n vo_len (pe_callB call_lenD (by rfl) (T_free_len KX G c) (by decide +kernel) (pa_cons (pv 2) pa_nil))) ea_nil')))) pa_nil))) pa_nil))))))))
    (ess_one (es_ret (ps_ret (ev_var (pv 3))))))))
theorem sc__law_inner_order : FnScope ["_law_state_here", "_law_n", "_law_x"] ["_law_state_here", "_law_n"] (defScope (topS 13)) := ⟨rfl, rfl, rfl, by decide +kernel, rfl, by decide +kernel, by decide +kernel⟩
theorem ok__law_inner_order (KX : K.In h) (G : h.Ns mainGlobals mg) (c : Says fa fn xn ex K) : Fk PP w K mg base "_law_inner_order" 3 (He.fAd K ("_law_inner_order", none)) ["_law_state_here", "_law_n"] (spR ⟨K, mg, none, TK⟩ d__law_inner_order) := by
  obtain ⟨fd, F⟩ := c.def_ 11 (d := dd__law_inner_order) rfl
  have sc := sc__law_inner_order
  refine ⟨⟨fd, fn_dataR F sc (by decide) fun cdv A outer s H E hr tk po => ?_, F.bindsN (ps := ["_law_state_here", "_law_n"]) fun _ _ _ _ _ _ us hl => match us, hl with | [_, _], _ => rfl⟩, He.glo_ok KX G (c.fact 19 (f := .glo "_law_inner_order") rfl), F.kp⟩
  exact (ess_one (es_ret (ps_ret (ev_frz (evN2 vn_add (pe_op op_addD (ev_frz (evN_lst (pe_lst (ea_cons (ev_int pe_int) ea_nil')))) (ev_frz (ev_comp (pe_lc (own := [("_law_x", 2)]) rfl sc.nd (ei_any (pi_any (ev_callR (runR_nox _ _ _) ((ok__law_order_of KX G c).pe (hr.mono (by decide)) (by rfl) tk (pa_cons (pv 0) (ea_cons (ev2 vo_sub (pe_op op_sub (ev_var (pv 1)) (ev_int pe_int))) ea_nil')))))) (blkOk_by (own := [("_law_x", 2)]) (by first | decide +kernel | rfl)) (fun _ _ _ _ _ => (eg_nm (pg_name (i := 2) sc.nd rfl (by first | exact .inl rfl | exact .inr rfl)))) (fun _ _ _ _ _ => ets_nil) (fun _ _ _ _ _ => (ev2 vo_add (pe_op op_addD (ev_int pe_int) (ev_var (pv 2))))))))))))))
theorem sc_renamed : FnScope ["table", "order", "places", "x", "y"] ["table", "order"] (defScope (topS 4)) := ⟨rfl, rfl, rfl, by decide +kernel, rfl, by decide +kernel, by decide +kernel⟩
theorem ok_renamed (KX : K.In h) (G : h.Ns mainGlobals mg) (c : Says fa fn xn ex K) : Fk PP w K mg base "renamed" 1 (He.fAd K ("renamed", none)) ["table", "order"] (spD ⟨K, mg, none, TK⟩ d_renamed) := by
  obtain ⟨fd, F⟩ := c.def_ 12 (d := dd_renamed) rfl
  have sc := sc_renamed
  refine ⟨⟨fd, fn_data F sc (by decide) fun cdv A outer s H E hr tk po => ?_, F.bindsN (ps := ["table", "order"]) fun _ _ _ _ _ _ us hl => match us, hl with | [_, _], _ => rfl⟩, He.glo_ok KX G (c.fact 20 (f := .glo "renamed") rfl), F.kp⟩
  exact (ess_cons (es_own (ps_set (i := 2) sc.nd rfl (by first | exact Or.inl rfl | exact Or.inr rfl) (evN1n vn_list (pe_callTy call_list_of (by rfl) (T_free_list KX G c) (by decide +kernel) (pa_cons (pv 1) pa_nil)))))
    (ess_one (es_ret (ps_ret (evc1 vo_tuple (pe_callTy call_tupleN (by rfl) (T_free_tuple KX G c) (by decide +kernel) (pa_cons (ev_frz (ev_comp (pe_lc (own := [("x", 3)]) rfl sc.nd (ei_any (pi_any (ev_var (pv 1)))) (blkOk_by (own := [("x", 3)]) (by first | decide +kernel | rfl)) (fun _ _ _ _ _ => (eg_nm (pg_name (i := 3) sc.nd rfl (by first | exact .inl rfl | exact .inr rfl)))) (fun _ _ _ _ _ => ets_nil) (fun _ _ _ _ _ => (evc1 vo_tuple (pe_callTy call_tupleN (by rfl) (T_free_tuple KX G c) (by decide +kernel) (pa_cons (ev_frz (ev_comp (pe_lc (own := [("y", 4)]) rfl sc.nd (ei_any (pi_any (ev_var (pv 1)))) (blkOk_by (own := [("y", 4)]) (by first | decide +kernel | rfl)) (fun _ _ _ _ _ => (eg_nm (pg_name (i := 4) sc.nd rfl (by first | exact .inl rfl | exact .inr rfl)))) (fun _ _ _ _ _ => ets_nil) (fun _ _ _ _ _ => (ev_indexAN rfl (pe_bmA PySem.F.plainAttrs_list PySem.F.slot_list_index PySem.F.type_list_index (mt_indexA (room_u hr)) PySem.F.plainAttrs_tuple PySem.F.slot_tuple_index PySem.F.type_tuple_index mt_indexT (pv 2) (pa_cons (ev2 vo_ix (pe_ix ix_seq (ev2n vo_ix (pe_ix ix_seq (pv 0) (ev_var (pv 3)) (fun _ _ => rfl))) (ev_var (pv 4)) (fun _ _ => rfl))) pa_nil))))))) pa_nil))))))) pa_nil)))))))
theorem sc_enumerated : FnScope ["table", "generators", "found", "at", "g", "y"] ["table", "generators"] (defScope (topS 1)) := ⟨rfl, rfl, rfl, by decide +kernel, rfl, by decide +kernel, by decide +kernel⟩
theorem ok_enumerated (KX : K.In h) (G : h.Ns mainGlobals mg) (c : Says fa fn xn ex K) : Fk PP w K mg base "enumerated" 1 (He.fAd K ("enumerated", none)) ["table", "generators"] (spD ⟨K, mg, none, TK⟩ d_enumerated) := by
  obtain ⟨fd, F⟩ := c.def_ 13 (d := dd_enumerated) rfl
  have sc := sc_enumerated
  refine ⟨⟨fd, fn_data F sc (by decide) fun cdv A outer s H E hr tk po => ?_, F.bindsN (ps := ["table", "generators"]) fun _ _ _ _ _ _ us hl => match us, hl with | [_, _], _ => rfl⟩, He.glo_ok KX G (c.fact 21 (f := .glo "enumerated") rfl), F.kp⟩
  exact (ess_cons (es_own (ps_set (i := 2) sc.nd rfl (by first | exact Or.inl rfl | exact Or.inr rfl) (evN_lst (pe_lst (ea_cons (ev_int pe_int) ea_nil')))))
    (ess_cons (es_set (ps_set (i := 3) sc.nd rfl (by first | exact Or.inl rfl | exact Or.inr rfl) (ev_int pe_int)))
    (ess_cons (es_while (ps_while po (et2 (vo_cmpI _) (pt_cmpR op_lt (ev_var (pv 3)) (evc1n vo_len (pe_callB call_lenD (by rfl) (T_free_len KX G c) (by decide +kernel) (pa_cons (pv 2) pa_nil))) (nomark _))) (ess_cons (es_for (ps_for po rfl (ei_any (pi_any (ev_var (pv 1)))) (eg_nm (pg_name (i := 4) sc.nd rfl (by first | exact .inl rfl | exact .inr rfl))) (ess_cons (es_set (ps_set (i := 5) sc.nd rfl (by first | exact Or.inl rfl | exact Or.inr rfl) (ev2 vo_ix (pe_ix ix_seq (ev2n vo_ix (pe_ix ix_seq (pv 0) (ev2n vo_ix (pe_ix ix_seq (pv 2) (ev_var (pv 3)) (fun _ _ => rfl))) (fun _ _ => rfl))) (ev_var (pv 4)) (fun _ _ => rfl)))))
    (ess_one (es_if (ps_if (et2m vo_notin (pt_cmpR (op_notInA (room_u hr)) (ev_var (pv 5)) (pv 2) (by with_unfolding_all rfl))) (ess_one (es_expr (ps_expr (ev_append (pe_bm PySem.F.plainAttrs_list PySem.F.slot_list_append PySem.F.type_list_append mt_append (pv 2) (pa_cons (ev_var (pv 5)) pa_nil)))))) ess_nil))))))
    (ess_one (es_set (ps_set (i := 3) sc.nd rfl (by first | exact Or.inl rfl | exact Or.inr rfl) (ev2 vo_add (pe_op op_addD (ev_var (pv 3)) (ev_int pe_int)))))))))
    (ess_cons (es_if (ps_if (et2 (vo_cmpI _) (pt_cmpR op_lt (evc1n vo_len (pe_callB call_lenD (by rfl) (T_free_len KX G c) (by decide +kernel) (pa_cons (pv 2) pa_nil))) (evc1n vo_len (pe_callB call_lenD (by rfl) (T_free_len KX G c) (by decide +kernel) (pa_cons (pv 0) pa_nil))) (nomark _))) (ess_one (es_ret (ps_ret (ev_non pe_non)))) ess_nil))
    (ess_one (es_ret (ps_ret (evc1n vo_tuple (pe_callTy call_tupleN (by rfl) (T_free_tuple KX G c) (by decide +kernel) (pa_cons (pv 2) pa_nil))))))))))
theorem sc_tuples_of : FnScope ["n", "size", "found", "_", "row", "x"] ["n", "size"] (defScope (topS 2)) := ⟨rfl, rfl, rfl, by decide +kernel, rfl, by decide +kernel, by decide +kernel⟩
theorem ok_tuples_of (KX : K.In h) (G : h.Ns mainGlobals mg) (c : Says fa fn xn ex K) : Fk PP w K mg base "tuples_of" 1 (He.fAd K ("tuples_of", none)) ["n", "size"] (spD ⟨K, mg, none, TK⟩ d_tuples_of) := by
  obtain ⟨fd, F⟩ := c.def_ 14 (d := dd_tuples_of) rfl
  have sc := sc_tuples_of
  refine ⟨⟨fd, fn_data F sc (by decide) fun cdv A outer s H E hr tk po => ?_, F.bindsN (ps := ["n", "size"]) fun _ _ _ _ _ _ us hl => match us, hl with | [_, _], _ => rfl⟩, He.glo_ok KX G (c.fact 22 (f := .glo "tuples_of") rfl), F.kp⟩
  exact (ess_cons (es_own (ps_set (i := 2) sc.nd rfl (by first | exact Or.inl rfl | exact Or.inr rfl) (evN_lst (pe_lst (ea_cons (ev_tup (pe_tupN ea_nil')) ea_nil')))))
    (ess_cons (es_for (ps_for po rfl (ei_rng (pi_range1 (by rfl) (T_free_range KX G c) (pa_cons (ev_var (pv 1)) pa_nil))) (eg_nm (pg_name (i := 3) sc.nd rfl (by first | exact .inl rfl | exact .inr rfl))) (ess_one (es_ownLc2 (ps_setLc2 (i := 2) (own := [("row", 4), ("x", 5)]) rfl sc.nd rfl rfl (sw_true rfl rfl rfl (by decide +kernel)) (ei_any (pi_any (ev_var (pv 2)))) (blkOk_by (own := [("row", 4), ("x", 5)]) (by first | decide +kernel | rfl)) (vs1 := [5]) (by decide) (fun _ _ _ _ _ => (eg_nm (pg_name (i := 4) sc.nd rfl (by first | exact .inl rfl | exact .inr rfl)))) (fun _ _ _ _ _ => ets_nil) (fun _ _ _ _ _ => (ei_rng2 (pi_range2 (by rfl) (T_free_range KX G c) (pa_cons (ev_int pe_int) (pa_cons (ev_var (pv 0)) pa_nil))))) (fun _ _ _ _ _ => (eg_nm (pg_name (i := 5) sc.nd rfl (by first | exact .inl rfl | exact .inr rfl)))) (fun _ _ _ _ _ => ets_nil) (fun _ _ _ _ _ => (ev2 vo_add (pe_op op_addD (ev_var (pv 4)) (ev_tup (pe_tupN (ea_cons (ev_var (pv 5)) ea_nil')))))))))))
    (ess_one (es_ret (ps_ret (ev_var (pv 2)))))))
theorem sc_orders_of : FnScope ["table", "size", "rows", "found", "generators", "row"] ["table"] (defScope (topS 3)) := ⟨rfl, rfl, rfl, by decide +kernel, rfl, by decide +kernel, by decide +kernel⟩
theorem ok_orders_of (KX : K.In h) (G : h.Ns mainGlobals mg) (c : Says fa fn xn ex K) : Fk PP w K mg base "orders_of" 2 (He.fAd K ("orders_of", none)) ["table"] (spD ⟨K, mg, none, TK⟩ d_orders_of) := by
  obtain ⟨fd, F⟩ := c.def_ 15 (d := dd_orders_of) rfl
  have sc := sc_orders_of
  refine ⟨⟨fd, fn_data F sc (by decide) fun cdv A outer s H E hr tk po => ?_, F.bindsN (ps := ["table"]) fun _ _ _ _ _ _ us hl => match us, hl with | [_], _ => rfl⟩, He.glo_ok KX G (c.fact 23 (f := .glo "orders_of") rfl), F.kp⟩
  exact (ess_cons (es_set (ps_set (i := 1) sc.nd rfl (by first | exact Or.inl rfl | exact Or.inr rfl) (ev_int pe_int)))
    (ess_cons (es_while (ps_while po (et2 (vo_cmpI _) (pt_cmpR op_le (ev_var (pv 1)) (evc1n vo_len (pe_callB call_lenD (by rfl) (T_free_len KX G c) (by decide +kernel) (pa_cons (pv 0) pa_nil))) (nomark _))) (ess_cons (es_ownLc (ps_setLc (i := 2) (own := [("generators", 4)]) rfl sc.nd rfl rfl (sw_true rfl rfl rfl (by decide +kernel)) (ei_any (pi_any (ev_call ((ok_tuples_of KX G c).pe (hr.mono (by decide)) (by rfl) tk (ea_cons (evc1n vo_len (pe_callB call_lenD (by rfl) (T_free_len KX G c) (by decide +kernel) (pa_cons (pv 0) pa_nil))) (ea_cons (ev_var (pv 1)) ea_nil')))))) (blkOk_by (own := [("generators", 4)]) (by first | decide +kernel | rfl)) (fun _ _ _ _ _ => (eg_nm (pg_name (i := 4) sc.nd rfl (by first | exact .inl rfl | exact .inr rfl)))) (fun _ _ _ _ _ => ets_nil) (fun _ _ _ _ _ => (ev_call ((ok_enumerated KX G c).pe (hr.mono (by decide)) (by rfl) takes0 (ea_cons (ev_var (pv 0)) (ea_cons (ev_var (pv 4)) ea_nil')))))))
    (ess_cons (es_ownLc (ps_setLc (i := 3) (own := [("row", 5)]) rfl sc.nd rfl rfl (sw_true rfl rfl rfl (by decide +kernel)) (ei_any (pi_any (ev_var (pv 2)))) (blkOk_by (own := [("row", 5)]) (by first | decide +kernel | rfl)) (fun _ _ _ _ _ => (eg_nm (pg_name (i := 5) sc.nd rfl (by first | exact .inl rfl | exact .inr rfl)))) (fun _ _ _ _ _ => (pts_one (et2 vo_isnot (pt_cmpR op_isNotD (ev_var (pv 5)) (ev_non pe_non) (nomark _))))) (fun _ _ _ _ _ => (ev_var (pv 5)))))
    (ess_cons (es_if (ps_if (et2 (vo_cmpI _) (pt_cmpR op_gt (evc1n vo_len (pe_callB call_lenD (by rfl) (T_free_len KX G c) (by decide +kernel) (pa_cons (pv 3) pa_nil))) (ev_int pe_int) (nomark _))) (ess_one (es_ret (ps_ret (ev_var (pv 3))))) ess_nil))
    (ess_one (es_set (ps_set (i := 1) sc.nd rfl (by first | exact Or.inl rfl | exact Or.inr rfl) (ev2 vo_add (pe_op op_addD (ev_var (pv 1)) (ev_int pe_int)))))))))))
    (ess_one (es_ret (ps_ret (ev_frz (evN_lst (pe_lst ea_nil'))))))))
theorem sc_group_form : FnScope ["table", "order"] ["table"] (defScope (topS 5)) := ⟨rfl, rfl, rfl, by decide +kernel, rfl, by decide +kernel, by decide +kernel⟩
theorem ok_group_form (KX : K.In h) (G : h.Ns mainGlobals mg) (c : Says fa fn xn ex K) : Fk PP w K mg base "group_form" 3 (He.fAd K ("group_form", none)) ["table"] (spD ⟨K, mg, none, TK⟩ d_group_form) := by
  obtain ⟨fd, F⟩ := c.def_ 16 (d := dd_group_form) rfl
  have sc := sc_group_form
  refine ⟨⟨fd, fn_data F sc (by decide) fun cdv A outer s H E hr tk po => ?_, F.bindsN (ps := ["table"]) fun _ _ _ _ _ _ us hl => match us, hl with | [_], _ => rfl⟩, He.glo_ok KX G (c.fact 24 (f := .glo "group_form") rfl), F.kp⟩
  exact (ess_one (es_ret (ps_ret (evc1 vo_minP (pe_callB (cr_minP rfl (room_u4 hr)) (by rfl) (T_free_min KX G c) (by decide +kernel) (pa_cons (ev_frz (ev_comp (pe_lc (own := [("order", 1)]) rfl sc.nd (ei_any (pi_any (ev_call ((ok_orders_of KX G c).pe (hr.mono (by decide)) (by rfl) tk (ea_cons (ev_var (pv 0)) ea_nil'))))) (blkOk_by (own := [("order", 1)]) (by first | decide +kernel | rfl)) (fun _ _ _ _ _ => (eg_nm (pg_name (i := 1) sc.nd rfl (by first | exact .inl rfl | exact .inr rfl)))) (fun _ _ _ _ _ => ets_nil) (fun _ _ _ _ _ => (ev_call ((ok_renamed KX G c).pe (hr.mono (by decide)) (by rfl) takes0 (ea_cons (ev_var (pv 0)) (ea_cons (ev_var (pv 1)) ea_nil')))))))) pa_nil))))))
theorem sc_form_maps : FnScope ["table", "best", "found", "order", "x"] ["table"] (defScope (topS 6)) := ⟨rfl, rfl, rfl, by decide +kernel, rfl, by decide +kernel, by decide +kernel⟩
theorem ok_form_maps (KX : K.In h) (G : h.Ns mainGlobals mg) (c : Says fa fn xn ex K) : Fk PP w K mg base "form_maps" 4 (He.fAd K ("form_maps", none)) ["table"] (spD ⟨K, mg, none, TK⟩ d_form_maps) := by
  obtain ⟨fd, F⟩ := c.def_ 17 (d := dd_form_maps) rfl
  have sc := sc_form_maps
  refine ⟨⟨fd, fn_data F sc (by decide) fun cdv A outer s H E hr tk po => ?_, F.bindsN (ps := ["table"]) fun _ _ _ _ _ _ us hl => match us, hl with | [_], _ => rfl⟩, He.glo_ok KX G (c.fact 25 (f := .glo "form_maps") rfl), F.kp⟩
  exact (ess_cons (es_set (ps_set (i := 1) sc.nd rfl (by first | exact Or.inl rfl | exact Or.inr rfl) (ev_call ((ok_group_form KX G c).pe (hr.mono (by decide)) (by rfl) tk (ea_cons (ev_var (pv 0)) ea_nil')))))
    (ess_cons (es_own (ps_set (i := 2) sc.nd rfl (by first | exact Or.inl rfl | exact Or.inr rfl) (evN_lst (pe_lst ea_nil'))))
    (ess_cons (es_for (ps_for po rfl (ei_any (pi_any (ev_call ((ok_orders_of KX G c).pe (hr.mono (by decide)) (by rfl) tk (ea_cons (ev_var (pv 0)) ea_nil'))))) (eg_nm (pg_name (i := 3) sc.nd rfl (by first | exact .inl rfl | exact .inr rfl))) (ess_one (es_if (ps_if (et2 vo_eq (pt_cmpR (op_eqD (room_u4 hr)) (ev_call ((ok_renamed KX G c).pe (hr.mono (by decide)) (by rfl) tk (ea_cons (ev_var (pv 0)) (ea_cons (ev_var (pv 3)) ea_nil')))) (ev_var (pv 1)) (nomark _))) (ess_one (es_expr (ps_expr (ev_append (pe_bm PySem.F.plainAttrs_list PySem.F.slot_list_append PySem.F.type_list_append mt_append (pv 2) (pa_cons (evc1 vo_tuple (pe_callTy call_tupleN (by rfl) (T_free_tuple KX G c) (by decide +kernel) (pa_cons (ev_frz (ev_comp (pe_lc (own := [("x", 4)]) rfl sc.nd (ei_rng (pi_range1 (by rfl) (T_free_range KX G c) (pa_cons (evc1n vo_len (pe_callB call_lenD (by rfl) (T_free_len KX G c) (by decide +kernel) (pa_cons (pv 0) pa_nil))) pa_nil))) (blkOk_by (own := [("x", 4)]) (by first | decide +kernel | rfl)) (fun _ _ _ _ _ => (eg_nm (pg_name (i := 4) sc.nd rfl (by first | exact .inl rfl | exact .inr rfl)))) (fun _ _ _ _ _ => ets_nil) (fun _ _ _ _ _ => (ev_indexAN rfl (pe_bmA PySem.F.plainAttrs_list PySem.F.slot_list_index PySem.F.type_list_index (mt_indexA (room_u hr)) PySem.F.plainAttrs_tuple PySem.F.slot_tuple_index PySem.F.type_tuple_index mt_indexT (pv 3) (pa_cons (ev_var (pv 4)) pa_nil))))))) pa_nil))) pa_nil)))))) ess_nil)))))
    (ess_one (es_ret (ps_ret (evc1 vo_tuple (pe_callTy call_tupleN (by rfl) (T_free_tuple KX G c) (by decide +kernel) (pa_cons (ev_frz (evN1n vn_sortedA (pe_callB cr_sortedA (by rfl) (T_free_sorted KX G c) (by decide +kernel) (pa_cons (pv 2) pa_nil)))) pa_nil)))))))))
theorem sc__law_arrangements : FnScope ["_law_n", "_law_found", "_law_k", "_law_longer", "_law_row", "_law_x"] ["_law_n"] (defScope (topS 19)) := ⟨rfl, rfl, rfl, by decide +kernel, rfl, by decide +kernel, by decide +kernel⟩
theorem ok__law_arrangements (KX : K.In h) (G : h.Ns mainGlobals mg) (c : Says fa fn xn ex K) : Fk PP w K mg base "_law_arrangements" 1 (He.fAd K ("_law_arrangements", none)) ["_law_n"] (spD ⟨K, mg, none, TK⟩ d__law_arrangements) := by
  obtain ⟨fd, F⟩ := c.def_ 18 (d := dd__law_arrangements) rfl
  have sc := sc__law_arrangements
  refine ⟨⟨fd, fn_data F sc (by decide) fun cdv A outer s H E hr tk po => ?_, F.bindsN (ps := ["_law_n"]) fun _ _ _ _ _ _ us hl => match us, hl with | [_], _ => rfl⟩, He.glo_ok KX G (c.fact 26 (f := .glo "_law_arrangements") rfl), F.kp⟩
  exact (ess_cons (es_own (ps_set (i := 1) sc.nd rfl (by first | exact Or.inl rfl | exact Or.inr rfl) (evN_lst (pe_lst (ea_cons (ev_tup (pe_tupN ea_nil')) ea_nil')))))
    (ess_cons (es_for (ps_for po rfl (ei_rng (pi_range1 (by rfl) (T_free_range KX G c) (pa_cons (ev_var (pv 0)) pa_nil))) (eg_nm (pg_name (i := 2) sc.nd rfl (by first | exact .inl rfl | exact .inr rfl))) (ess_cons (es_own (ps_set (i := 3) sc.nd rfl (by first | exact Or.inl rfl | exact Or.inr rfl) (evN_lst (pe_lst ea_nil'))))
    (ess_cons (es_for (ps_for po rfl (ei_any (pi_any (ev_var (pv 1)))) (eg_nm (pg_name (i := 4) sc.nd rfl (by first | exact .inl rfl | exact .inr rfl))) (ess_one (es_own (ps_set (i := 3) sc.nd rfl (by first | exact Or.inl rfl | exact Or.inr rfl) (evN2 vn_add (pe_op op_addD (ev_var (pv 3)) (ev_frz (ev_comp (pe_lc (own := [("_law_x", 5)]) rfl sc.nd (ei_rng (pi_range1 (by rfl) (T_free_range KX G c) (pa_cons (ev_var (pv 0)) pa_nil))) (blkOk_by (own := [("_law_x", 5)]) (by first | decide +kernel | rfl)) (fun _ _ _ _ _ => (eg_nm (pg_name (i := 5) sc.nd rfl (by first | exact .inl rfl | exact .inr rfl)))) (fun _ _ _ _ _ => (pts_one (et2m vo_notin (pt_cmpR (op_notInA (room_u hr)) (ev_var (pv 5)) (pv 4) (by with_unfolding_all rfl))))) (fun _ _ _ _ _ => (ev2 vo_add (pe_op op_addD (ev_var (pv 4)) (ev_tup (pe_tupN (ea_cons (ev_var (pv 5)) ea_nil'))))))))))))))))
    (ess_one (es_own (ps_set (i := 1) sc.nd rfl (by first | exact Or.inl rfl | exact Or.inr rfl) (evN1n vn_list (pe_callTy call_list_of (by rfl) (T_free_list KX G c) (by decide +kernel) (pa_cons (pv 3) pa_nil))))))))))
    (ess_one (es_ret (ps_ret (ev_var (pv 1)))))))
theorem sc__law_is_iso : FnScope ["_law_one", "_law_two", "_law_images", "_law_x", "_law_y"] ["_law_one", "_law_two", "_law_images"] (defScope (topS 14)) := ⟨rfl, rfl, rfl, by decide +kernel, rfl, by decide +kernel, by decide +kernel⟩
theorem ok__law_is_iso (KX : K.In h) (G : h.Ns mainGlobals mg) (c : Says fa fn xn ex K) : Fk PP w K mg base "_law_is_iso" 1 (He.fAd K ("_law_is_iso", none)) ["_law_one", "_law_two", "_law_images"] (spD ⟨K, mg, none, TK⟩ d__law_is_iso) := by
  obtain ⟨fd, F⟩ := c.def_ 19 (d := dd__law_is_iso) rfl
  have sc := sc__law_is_iso
  refine ⟨⟨fd, fn_data F sc (by decide) fun cdv A outer s H E hr tk po => ?_, F.bindsN (ps := ["_law_one", "_law_two", "_law_images"]) fun _ _ _ _ _ _ us hl => match us, hl with | [_, _, _], _ => rfl⟩, He.glo_ok KX G (c.fact 27 (f := .glo "_law_is_iso") rfl), F.kp⟩
  exact (ess_cons (es_if (ps_if (PW.pt (et_or (pw_or (et2 vo_ne (pt_cmpR (op_neD (room_u4 hr)) (ev_frz (evN1n vn_sortedA (pe_callB cr_sortedA (by rfl) (T_free_sorted KX G c) (by decide +kernel) (pa_cons (pv 2) pa_nil)))) (ev_frz (evN_rg (pe_listRg rfl (by rfl) (T_free_list KX G c) (erg1 (prg_1 (by rfl) (T_free_range KX G c) (evc1n vo_len (pe_callB call_lenD (by rfl) (T_free_len KX G c) (by decide +kernel) (pa_cons (pv 0) pa_nil)))))))) (nomark _))) (pw_or1 (et2 vo_ne (pt_cmpR (op_neD (room_u4 hr)) (evc1n vo_len (pe_callB call_lenD (by rfl) (T_free_len KX G c) (by decide +kernel) (pa_cons (pv 0) pa_nil))) (evc1n vo_len (pe_callB call_lenD (by rfl) (T_free_len KX G c) (by decide +kernel) (pa_cons (pv 1) pa_nil))) (nomark _))))))) (ess_one (es_ret (ps_ret (ev_bl pe_bl)))) ess_nil))
    (ess_cons (es_for (ps_for po rfl (ei_rng (pi_range1 (by rfl) (T_free_range KX G c) (pa_cons (evc1n vo_len (pe_callB call_lenD (by rfl) (T_free_len KX G c) (by decide +kernel) (pa_cons (pv 0) pa_nil))) pa_nil))) (eg_nm (pg_name (i := 3) sc.nd rfl (by first | exact .inl rfl | exact .inr rfl))) (ess_one (es_for (ps_for po rfl (ei_rng (pi_range1 (by rfl) (T_free_range KX G c) (pa_cons (evc1n vo_len (pe_callB call_lenD (by rfl) (T_free_len KX G c) (by decide +kernel) (pa_cons (pv 0) pa_nil))) pa_nil))) (eg_nm (pg_name (i := 4) sc.nd rfl (by first | exact .inl rfl | exact .inr rfl))) (ess_one (es_if (ps_if (et2 vo_ne (pt_cmpR (op_neD (room_u4 hr)) (ev2n vo_ix (pe_ix ix_seq (pv 2) (ev2 vo_ix (pe_ix ix_seq (ev2n vo_ix (pe_ix ix_seq (pv 0) (ev_var (pv 3)) (fun _ _ => rfl))) (ev_var (pv 4)) (fun _ _ => rfl))) (fun _ _ => rfl))) (ev2 vo_ix (pe_ix ix_seq (ev2n vo_ix (pe_ix ix_seq (pv 1) (ev2n vo_ix (pe_ix ix_seq (pv 2) (ev_var (pv 3)) (fun _ _ => rfl))) (fun _ _ => rfl))) (ev2n vo_ix (pe_ix ix_seq (pv 2) (ev_var (pv 4)) (fun _ _ => rfl))) (fun _ _ => rfl))) (nomark _))) (ess_one (es_ret (ps_ret (ev_bl pe_bl)))) ess_nil))))))))
    (ess_one (es_ret (ps_ret (ev_bl pe_bl))))))
theorem sc__law_maps : FnScope ["_law_one", "_law_two", "_law_n", "_law_found", "_law_row", "_law_images", "_law_x"] ["_law_one", "_law_two"] (defScope (topS 23)) := ⟨rfl, rfl, rfl, by decide +kernel, rfl, by decide +kernel, by decide +kernel⟩
theorem ok__law_maps (KX : K.In h) (G : h.Ns mainGlobals mg) (c : Says fa fn xn ex K) : Fk PP w K mg base "_law_maps" 2 (He.fAd K ("_law_maps", none)) ["_law_one", "_law_two"] (spD ⟨K, mg, none, TK⟩ d__law_maps) := by
  obtain ⟨fd, F⟩ := c.def_ 20 (d := dd__law_maps) rfl
  have sc := sc__law_maps
  refine ⟨⟨fd, fn_data F sc (by decide) fun cdv A outer s H E hr tk po => ?_, F.bindsN (ps := ["_law_one", "_law_two"]) fun _ _ _ _ _ _ us hl => match us, hl with | [_, _], _ => rfl⟩, He.glo_ok KX G (c.fact 28 (f := .glo "_law_maps") rfl), F.kp⟩
  exact (ess_cons (es_set (ps_set (i := 2) sc.nd rfl (by first | exact Or.inl rfl | exact Or.inr rfl) (evc1n vo_len (pe_callB call_lenD (by rfl) (T_free_len KX G c) (by decide +kernel) (pa_cons (pv 0) pa_nil)))))
    (ess_cons (es_if (ps_if (et2 vo_ne (pt_cmpR (op_neD (room_u4 hr)) (evc1n vo_len (pe_callB call_lenD (by rfl) (T_free_len KX G c) (by decide +kernel) (pa_cons (pv 1) pa_nil))) (ev_var (pv 2)) (nomark _))) (ess_one (es_ret (ps_ret (ev_tup (pe_tupN ea_nil'))))) ess_nil))
    (ess_cons (es_own (ps_set (i := 3) sc.nd rfl (by first | exact Or.inl rfl | exact Or.inr rfl) (evN_lst (pe_lst ea_nil'))))
    (ess_cons (es_for (ps_for po rfl (ei_any (pi_any (ev_call ((ok__law_arrangements KX G c).pe (hr.mono (by decide)) (by rfl) tk (ea_cons (ev2 vo_sub (pe_op op_sub (ev_var (pv 2)) (ev_int pe_int))) ea_nil'))))) (eg_nm (pg_name (i := 4) sc.nd rfl (by first | exact .inl rfl | exact .inr rfl))) (ess_cons (es_set (ps_set (i := 5) sc.nd rfl (by first | exact Or.inl rfl | exact Or.inr rfl) (ev2 vo_add (pe_op op_addD (ev_tup (pe_tupN (ea_cons (ev_int pe_int) ea_nil'))) (evc1 vo_tuple (pe_callTy call_tupleN (by rfl) (T_free_tuple KX G c) (by decide +kernel) (pa_cons (ev_frz (ev_comp (pe_lc (own := [("_law_x", 6)]) rfl sc.nd (ei_any (pi_any (ev_var (pv 4)))) (blkOk_by (own := [("_law_x", 6)]) (by first | decide +kernel | rfl)) (fun _ _ _ _ _ => (eg_nm (pg_name (i := 6) sc.nd rfl (by first | exact .inl rfl | exact .inr rfl)))) (fun _ _ _ _ _ => ets_nil) (fun _ _ _ _ _ => (ev2 vo_add (pe_op op_addD (ev_int pe_int) (ev_var (pv 6)))))))) pa_nil)))))))
    (ess_one (es_if (ps_if (et_tst (pt_val (ev_call ((ok__law_is_iso KX G c).pe (hr.mono (by decide)) (by rfl) tk (ea_cons (ev_var (pv 0)) (ea_cons (ev_var (pv 1)) (ea_cons (ev_var (pv 5)) ea_nil'))))))) (ess_one (es_expr (ps_expr (ev_append (pe_bm PySem.F.plainAttrs_list PySem.F.slot_list_append PySem.F.type_list_append mt_append (pv 3) (pa_cons (ev_var (pv 5)) pa_nil)))))) ess_nil))))))
    (ess_one (es_ret (ps_ret (evc1n vo_tuple (pe_callTy call_tupleN (by rfl) (T_free_tuple KX G c) (by decide +kernel) (pa_cons (pv 3) pa_nil))))))))))
theorem sc_group_isomorphisms : FnScope ["one", "two", "back", "found", "images", "item"] ["one", "two"] (defScope (topS 7)) := ⟨rfl, rfl, rfl, by decide +kernel, rfl, by decide +kernel, by decide +kernel⟩
theorem ok_group_isomorphisms (KX : K.In h) (G : h.Ns mainGlobals mg) (c : Says fa fn xn ex K) : Fk PP w K mg base "group_isomorphisms" 5 (He.fAd K ("group_isomorphisms", none)) ["one", "two"] (spD ⟨K, mg, none, TK⟩ d_group_isomorphisms) := by
  obtain ⟨fd, F⟩ := c.def_ 21 (d := dd_group_isomorphisms) rfl
  have sc := sc_group_isomorphisms
  refine ⟨⟨fd, fn_data F sc (by decide) fun cdv A outer s H E hr tk po => ?_, F.bindsN (ps := ["one", "two"]) fun _ _ _ _ _ _ us hl => match us, hl with | [_, _], _ => rfl⟩, He.glo_ok KX G (c.fact 29 (f := .glo "group_isomorphisms") rfl), F.kp⟩
  exact (ess_cons (es_if (ps_if (et2 vo_ne (pt_cmpR (op_neD (room_u4 hr)) (ev_call ((ok_group_form KX G c).pe (hr.mono (by decide)) (by rfl) tk (ea_cons (ev_var (pv 0)) ea_nil'))) (ev_call ((ok_group_form KX G c).pe (hr.mono (by decide)) (by rfl) tk (ea_cons (ev_var (pv 1)) ea_nil'))) (nomark _))) (ess_one (es_ret (ps_ret (ev_tup (pe_tupN ea_nil'))))) ess_nil))
    (ess_cons (es_set (ps_set (i := 2) sc.nd rfl (by first | exact Or.inl rfl | exact Or.inr rfl) (ev2 vo_ix (pe_ix ix_seq (ev_call ((ok_form_maps KX G c).pe (hr.mono (by decide)) (by rfl) tk (ea_cons (ev_var (pv 1)) ea_nil'))) (ev_int pe_int) (fun _ _ => rfl)))))
    (ess_cons (es_own (ps_set (i := 3) sc.nd rfl (by first | exact Or.inl rfl | exact Or.inr rfl) (evN_lst (pe_lst ea_nil'))))
    (ess_cons (es_for (ps_for po rfl (ei_any (pi_any (ev_call ((ok_form_maps KX G c).pe (hr.mono (by decide)) (by rfl) tk (ea_cons (ev_var (pv 0)) ea_nil'))))) (eg_nm (pg_name (i := 4) sc.nd rfl (by first | exact .inl rfl | exact .inr rfl))) (ess_one (es_expr (ps_expr (ev_append (pe_bm PySem.F.plainAttrs_list PySem.F.slot_list_append PySem.F.type_list_append mt_append (pv 3) (pa_cons (evc1 vo_tuple (pe_callTy call_tupleN (by rfl) (T_free_tuple KX G c) (by decide +kernel) (pa_cons (ev_frz (ev_comp (pe_lc (own := [("item", 5)]) rfl sc.nd (ei_any (pi_any (ev_var (pv 4)))) (blkOk_by (own := [("item", 5)]) (by first | decide +kernel | rfl)) (fun _ _ _ _ _ => (eg_nm (pg_name (i := 5) sc.nd rfl (by first | exact .inl rfl | exact .inr rfl)))) (fun _ _ _ _ _ => ets_nil) (fun _ _ _ _ _ => (ev_indexAN rfl (pe_bmA PySem.F.plainAttrs_list PySem.F.slot_list_index PySem.F.type_list_index (mt_indexA (room_u hr)) PySem.F.plainAttrs_tuple PySem.F.slot_tuple_index PySem.F.type_tuple_index mt_indexT (pv 2) (pa_cons (ev_var (pv 5)) pa_nil))))))) pa_nil))) pa_nil))))))))
    (ess_one (es_ret (ps_ret (evc1 vo_tuple (pe_callTy call_tupleN (by rfl) (T_free_tuple KX G c) (by decide +kernel) (pa_cons (ev_frz (evN1n vn_sortedA (pe_callB cr_sortedA (by rfl) (T_free_sorted KX G c) (by decide +kernel) (pa_cons (pv 3) pa_nil)))) pa_nil))))))))))
theorem sc_law : FnScope ["_law_script", "_law_state_here", "_law_first", "_law_second", "_law_one", "_law_two", "_law_form", "_law_row"] ["_law_script"] (defScope (topS 24)) := ⟨rfl, rfl, rfl, by decide +kernel, rfl, by decide +kernel, by decide +kernel⟩
theorem ok_law (KX : K.In h) (G : h.Ns mainGlobals mg) (c : Says fa fn xn ex K) : mg ("law" : Str) = some (.ref (He.fAd K ("law", none))) ∧ ∃ fd : FuncData, (∀ (s : Shared) (u : Value), BindsTo s fd ⟨[u], []⟩ [(("_law_script" : Str), u)]) ∧ ∀ base : Heap, FnOk PP w K mg base (L2.CX PP w) 6 (He.fAd K ("law", none)) fd ["_law_script"] (spD ⟨K, mg, none, TK⟩ d_law) := by
  obtain ⟨fd, F⟩ := c.def_ 22 (d := dd_law) rfl
  have sc := sc_law
  have b := FunD.bindsA (ps := ["_law_script"]) F fun _ _ _ _ _ _ us hl => match us, hl with | [_], _ => rfl
  refine ⟨He.glo_ok KX G (c.fact 30 (f := .glo "law") rfl), fd, fun s u => b s [u] rfl, fun base => fn_data F sc (by decide) fun cdv A outer s H E hr tk po => ?_⟩
  exact (ess_cons (es_own (ps_set (i := 1) sc.nd rfl (by first | exact Or.inl rfl | exact Or.inr rfl) (ev_callO ((ok__law_state KX G c).pe (hr.mono (by decide)) (by rfl) tk (ea_cons (ev_var (pv 0)) ea_nil')))))
    (ess_cons (es_par (ps_par (i := 2) (j := 3) rfl sc.nd rfl rfl (by decide) rfl rfl (pa_cons (ev_callR (runR_nox _ _ _) ((ok__law_group KX G c).pe (hr.mono (by decide)) (by rfl) tk (pa_cons (pv 1) (ea_cons (ev_int pe_int) ea_nil')))) (pa_cons (ev_callR (runR_nox _ _ _) ((ok__law_group KX G c).pe (hr.mono (by decide)) (by rfl) tk (pa_cons (pv 1) (ea_cons (ev_int pe_int) ea_nil')))) pa_nil)) (by rfl)))
    (ess_cons (es_if (ps_if (et2 vo_eq (pt_cmpR (op_eqD (room_u4 hr)) (ev_callR (runR_nox _ _ _) ((ok__law_take KX G c).pe (hr.mono (by decide)) (by rfl) tk (pa_cons (pv 1) (ea_cons (ev_int pe_int) ea_nil')))) (ev_int pe_int) (nomark _))) (ess_one (es_set (ps_set (i := 3) sc.nd rfl (by first | exact Or.inl rfl | exact Or.inr rfl) (ev_var (pv 2))))) ess_nil))
    (ess_cons (es_set (ps_set (i := 4) sc.nd rfl (by first | exact Or.inl rfl | exact Or.inr rfl) (ev_call ((ok__law_renamed KX G c).pe (hr.mono (by decide)) (by rfl) tk (ea_cons (ev_var (pv 2)) (ea_cons (ev_callR (runR_nox _ _ _) ((ok__law_inner_order KX G c).pe (hr.mono (by decide)) (by rfl) tk (pa_cons (pv 1) (ea_cons (evc1n vo_len (pe_callB call_lenD (by rfl) (T_free_len KX G c) (by decide +kernel) (pa_cons (pv 2) pa_nil))) ea_nil')))) ea_nil'))))))
    (ess_cons (es_set (ps_set (i := 5) sc.nd rfl (by first | exact Or.inl rfl | exact Or.inr rfl) (ev_call ((ok__law_renamed KX G c).pe (hr.mono (by decide)) (by rfl) tk (ea_cons (ev_var (pv 3)) (ea_cons (ev_callR (runR_nox _ _ _) ((ok__law_inner_order KX G c).pe (hr.mono (by decide)) (by rfl) tk (pa_cons (pv 1) (ea_cons (evc1n vo_len (pe_callB call_lenD (by rfl) (T_free_len KX G c) (by decide +kernel) (pa_cons (pv 3) pa_nil))) ea_nil')))) ea_nil'))))))
    (ess_cons (es_set (ps_set (i := 6) sc.nd rfl (by first | exact Or.inl rfl | exact Or.inr rfl) (ev_call ((ok__law_least KX G c).pe (hr.mono (by decide)) (by rfl) tk (ea_cons (ev_var (pv 4)) ea_nil')))))
    (ess_cons (es_if (ps_if (PW.pt (et_or (pw_or (et2 vo_ne (pt_cmpR (op_neD (room_u4 hr)) (ev_call ((ok_group_form KX G c).pe (hr.mono (by decide)) (by rfl) tk (ea_cons (ev_var (pv 4)) ea_nil'))) (ev_var (pv 6)) (nomark _))) (pw_or1 (et2 vo_ne (pt_cmpR (op_neD (room_u4 hr)) (ev_call ((ok_group_form KX G c).pe (hr.mono (by decide)) (by rfl) tk (ea_cons (evc1 vo_tuple (pe_callTy call_tupleN (by rfl) (T_free_tuple KX G c) (by decide +kernel) (pa_cons (ev_frz (ev_comp (pe_lc (own := [("_law_row", 7)]) rfl sc.nd (ei_any (pi_any (ev_var (pv 4)))) (blkOk_by (own := [("_law_row", 7)]) (by first | decide +kernel | rfl)) (fun _ _ _ _ _ => (eg_nm (pg_name (i := 7) sc.nd rfl (by first | exact .inl rfl | exact .inr rfl)))) (fun _ _ _ _ _ => ets_nil) (fun _ _ _ _ _ => (ev_frz (evN1n vn_list (pe_callTy call_list_of (by rfl) (T_free_list KX G c) (by decide +kernel) (pa_cons (pv 7) pa_nil)))))))) pa_nil))) ea_nil'))) (ev_var (pv 6)) (nomark _))))))) (ess_one (es_ret (ps_ret (ev_bl pe_bl)))) ess_nil))
    (ess_cons (es_if (ps_if (PW.pt (et_or (pw_or (et2 vo_ne (pt_cmpR (op_neD (room_u4 hr)) (ev_call ((ok_form_maps KX G c).pe (hr.mono (by decide)) (by rfl) tk (ea_cons (ev_var (pv 4)) ea_nil'))) (ev_call ((ok__law_maps KX G c).pe (hr.mono (by decide)) (by rfl) tk (ea_cons (ev_var (pv 4)) (ea_cons (ev_var (pv 6)) ea_nil')))) (nomark _))) (pw_or1 (et2 vo_ne (pt_cmpR (op_neD (room_u4 hr)) (ev_call ((ok_group_isomorphisms KX G c).pe (hr.mono (by decide)) (by rfl) tk (ea_cons (ev_var (pv 4)) (ea_cons (ev_var (pv 5)) ea_nil')))) (ev_call ((ok__law_maps KX G c).pe (hr.mono (by decide)) (by rfl) tk (ea_cons (ev_var (pv 4)) (ea_cons (ev_var (pv 5)) ea_nil')))) (nomark _))))))) (ess_one (es_ret (ps_ret (ev_bl pe_bl)))) ess_nil))
    (ess_one (es_ret (ps_ret (ev2 vo_eq (pe_cmpR (op_eqD (room_u4 hr)) (ev2 vo_eq (pe_cmpR (op_eqD (room_u4 hr)) (ev_call ((ok_group_form KX G c).pe (hr.mono (by decide)) (by rfl) tk (ea_cons (ev_var (pv 5)) ea_nil'))) (ev_var (pv 6)) (nomark _))) (ev2 (vo_cmpI _) (pe_cmpR op_gt (evc1 vo_len (pe_callB call_lenD (by rfl) (T_free_len KX G c) (by decide +kernel) (pa_cons (ev_call ((ok__law_maps KX G c).pe (hr.mono (by decide)) (by rfl) tk (ea_cons (ev_var (pv 4)) (ea_cons (ev_var (pv 5)) ea_nil')))) pa_nil))) (ev_int pe_int) (nomark _))) (nomark _))))))))))))))
end
abbrev R : PySem.W.OpenRow := PySem.W.OpenLaw.row PySem.Challenge.rw_reesblocks_k22_whole_normal_forms_of_gro
abbrev hk : PySem.W.Hook := hookB 5 fa fn xn ex
def ob (s : PySem.W.SharedT) : AlB := obsBG 5 fa fn xn ex (HandSHeadRun.getT s)
theorem ob_eq (s : PySem.W.SharedT) : ob s = hk.obs s.abs := obsBG_eq (HandSHeadRun.getT_eq s)
theorem run (w : World) : HandSHeadRun.RunEq R (PySem.W.view R.prog [24]) hk ob 4000 ["enumerated", "tuples_of", "orders_of", "renamed", "group_form", "form_maps", "group_isomorphisms", "_law_cyclic", "_law_klein", "_law_dihedral", "_law_group", "_law_inner_order", "_law_is_iso", "_law_state", "_law_take", "_law_order_of", "_law_renamed", "_law_arrangements", "_law_rows_of", "_law_listed", "_law_least", "_law_maps"] w := by
  intro os
  kernel_rfl
end LAW
namespace LAW
open DL PySem L2
def P__law_state (script : (List Int)) : M (List Int) := M.bind (pfold (fun (x10 : Int) (a11 : (Int × Int)) => M.bind (M.bind (pMul a11.1 1000003) fun c13 => .ok (c13 + (if x10 < 0 then -x10 else x10))) fun c14 => M.bind (M.bind (M.bind (pMul a11.2 48271) fun c15 => .ok (c15 + x10)) fun c17 => pMod c17 2147483647) fun c18 => .ok (c14, c18)) (cutD script none (some 63)) (0, 1)) fun (a19 : (Int × Int)) => .ok [a19.1, a19.2]
theorem S__law_state (script : (List Int)) : DO (d__law_state [D.scr script]) (P__law_state script) eI := fn_O rfl (show RO (sSeq (sSet 1 (dC (.int 0))) (sSeq (sSet 2 (dC (.int 1))) (sSeq (sFor (.nm 3) (dItems (dSln 0 dNoP (dPart (dC (.int 63))))) (sSeq (sSet 1 (dOp2 opAdd (dOp2 opMul (dVar 1) (dC (.int 1000003))) (dOp1n opAbs 3))) (sSet 2 (dOp2 opMod (dOp1 opInt (dOp2 opAdd (dOp2 opMul (dVar 2) (dC (.int 48271))) (dVar 3))) (dC (.int 2147483647)))))) sPass))) (dLst (dCons (dVar 1) (dCons (dVar 2) dNil))) [.sh (D.scr script), .no, .no, .no] (P__law_state script) (List.map eI) from
  (rs_bindP rv_ret (rs_put (st1 := [.sh (D.scr script), .sh (eI 0), .no, .no]) rfl (rs_bindP rv_ret (rs_put (st1 := [.sh (D.scr script), .sh (eI 0), .sh (eI 1), .no]) rfl (rs_bindP (rv_dItems (rv_bind (rv_dSln (rv_bind (rv_rd rfl) (rv_bind rv_ret (rv_bind (rv_dPart (rv_bind rv_ret (rv_lift (y := (some 63)) rfl))) (rv_bind (rv_rd rfl) (rv_lift op_slScr)))))) (rv_lift (y := ((List.map eI) (cutD script none (some 63)))) rfl))) (rs_for0 (e := eI) (xs := (cutD script none (some 63))) (a := (0, 1)) (f := fun (x10 : Int) (a11 : (Int × Int)) => M.bind (M.bind (pMul a11.1 1000003) fun c13 => .ok (c13 + (if x10 < 0 then -x10 else x10))) fun c14 => M.bind (M.bind (M.bind (pMul a11.2 48271) fun c15 => .ok (c15 + x10)) fun c17 => pMod c17 2147483647) fun c18 => .ok (c14, c18)) (fun (a21 : (Int × Int)) (st : DSt) => ∃ (j22 : (Option D)), st = [.sh (D.scr script), .sh (eI a21.1), .sh (eI a21.2), jk j22]) ⟨none, rfl⟩ (fun | x10, a11, _, ⟨j12, rfl⟩ => ⟨[.sh (D.scr script), .sh (eI a11.1), .sh (eI a11.2), .sh (eI x10)], rfl, (rs_bindG (re_dOp2 (re_bindG (re_dOp2 (re_bindP (rv_var rfl) (re_bindP rv_ret (re_lift op_mul)))) fun c13 => (re_bindP (rv_dOp1n (rv_bind (rv_rd rfl) (rv_lift (y := (eI (if x10 < 0 then -x10 else x10))) rfl))) (re_rv (w := eI) (rv_lift (y := (eI (c13 + (if x10 < 0 then -x10 else x10)))) rfl))))) fun c14 => (rs_put (st1 := [.sh (D.scr script), .sh (eI c14), .sh (eI a11.2), .sh (eI x10)]) rfl (rs_last (rs_bindG (re_dOp2 (re_bindG (re_dOp1 (re_tail (w := eI) (re_dOp2 (re_bindG (re_dOp2 (re_bindP (rv_var rfl) (re_bindP rv_ret (re_lift op_mul)))) fun c15 => (re_bindP (rv_var rfl) (re_rv (w := eI) (rv_lift (y := (eI (c15 + x10))) rfl))))) fun c16 => (rv_lift (y := (eI c16)) rfl))) fun c17 => (re_bindP rv_ret (re_lift op_mod)))) fun c18 => (rs_put (st1 := [.sh (D.scr script), .sh (eI c14), .sh (eI c18), .sh (eI x10)]) rfl (rs_end ⟨rfl, (some (eI x10)), rfl⟩))))))⟩) (fun | a19, _, ⟨j20, rfl⟩ => (rs_endO (re_rv (rv_dLst (rv_cons (rv_var rfl) (rv_cons (rv_var rfl) (rv_nil (rv_lift (y := ((List.map eI) [a19.1, a19.2])) (op_lst (by exact Nat.le_of_ble_eq_true rfl) rfl))))))))))))))))
def P__law_take (state_here : (List Int)) (m : Int) : M (Int × (List Int)) := M.bind (M.bind (pAt state_here 0) fun c1 => .ok (decide (c1 > 0))) fun c2 => if c2 = true then M.bind (M.bind (pAt state_here 0) fun c4 => pMod c4 m) fun c5 => M.bind (M.bind (pAt state_here 0) fun c6 => pDiv c6 m) fun c7 => M.bind (pSet state_here 0 c7) fun c8 => .ok (c5, c8) else M.bind (M.bind (M.bind (M.bind (pAt state_here 1) fun c9 => pMul c9 48271) fun c10 => .ok (c10 + 11)) fun c12 => pMod c12 2147483647) fun c13 => M.bind (pSet state_here 1 c13) fun c14 => M.bind (M.bind (M.bind (pAt c14 1) fun c15 => pDiv c15 7) fun c17 => pMod c17 m) fun c18 => .ok (c18, c14)
theorem S__law_take (state_here : (List Int)) (m : Int) : DR (d__law_take (List.map eI state_here) [eI m]) (P__law_take state_here m) eI eI := fn_R rfl (show RS false (sSeq (sIf (dTst (dOp2 opGt (dOp2n opIx 0 (dC (.int 0))) (dC (.int 0)))) (sSeq (sSet 2 (dOp2 opMod (dOp1 opInt (dOp2n opIx 0 (dC (.int 0)))) (dVar 1))) (sSeq (sStore 0 (dC (.int 0)) (dOp2 opDiv (dOp2n opIx 0 (dC (.int 0))) (dVar 1))) (sRet (dVar 2)))) sPass) (sSeq (sStore 0 (dC (.int 1)) (dOp2 opMod (dOp1 opInt (dOp2 opAdd (dOp2 opMul (dOp2n opIx 0 (dC (.int 1))) (dC (.int 48271))) (dC (.int 11)))) (dC (.int 2147483647)))) (sRet (dOp2 opMod (dOp1 opInt (dOp2 opDiv (dOp2n opIx 0 (dC (.int 1))) (dC (.int 7)))) (dVar 1))))) [.rf 0 (List.map eI state_here), .sh (eI m), .no] (P__law_take state_here m) (Kby eI eI) from
  (rs_bindG (re_tst (re_dOp2 (re_bindG (re_dOp2n (re_bindP (rv_rdR rfl) (re_bindP rv_ret (re_bindP (rv_rdR rfl) (re_lift op_atL))))) fun c1 => (re_bindP rv_ret (re_rv (w := eB) (rv_lift (y := (eB (decide (c1 > 0)))) rfl)))))) fun c2 => (rs_ite (fun _ => (rs_seq (rs_bindG (re_dOp2 (re_bindG (re_dOp1 (re_tail (w := eI) (re_dOp2n (re_bindP (rv_rdR rfl) (re_bindP rv_ret (re_bindP (rv_rdR rfl) (re_lift op_atL))))) fun c3 => (rv_lift (y := (eI c3)) rfl))) fun c4 => (re_bindP (rv_var rfl) (re_lift op_mod)))) fun c5 => (rs_put (st1 := [.rf 0 (List.map eI state_here), .sh (eI m), .sh (eI c5)]) rfl (rs_seq (rs_bindG (re_dOp2 (re_bindG (re_dOp2n (re_bindP (rv_rdR rfl) (re_bindP rv_ret (re_bindP (rv_rdR rfl) (re_lift op_atL))))) fun c6 => (re_bindP (rv_var rfl) (re_lift op_div)))) fun c7 => (rs_bindP (rv_rdR rfl) (rs_bindP rv_ret (rs_x (x_setKr (e := eI) (xs := state_here) (k := 0) (v := c7) rfl) fun c8 => rs_st ([.rf 0 (List.map eI c8), .sh (eI m), .sh (eI c5)]) rfl (rs_bindP (rv_var rfl) (rs_ret ⟨.inl rfl, _, rfl⟩))))))))))) (fun _ => (rs_nx (rs_bindG (re_dOp2 (re_bindG (re_dOp1 (re_tail (w := eI) (re_dOp2 (re_bindG (re_dOp2 (re_bindG (re_dOp2n (re_bindP (rv_rdR rfl) (re_bindP rv_ret (re_bindP (rv_rdR rfl) (re_lift op_atL))))) fun c9 => (re_bindP rv_ret (re_lift op_mul)))) fun c10 => (re_bindP rv_ret (re_rv (w := eI) (rv_lift (y := (eI (c10 + 11))) rfl))))) fun c11 => (rv_lift (y := (eI c11)) rfl))) fun c12 => (re_bindP rv_ret (re_lift op_mod)))) fun c13 => (rs_bindP (rv_rdR rfl) (rs_bindP rv_ret (rs_x (x_setKr (e := eI) (xs := state_here) (k := 1) (v := c13) rfl) fun c14 => rs_st ([.rf 0 (List.map eI c14), .sh (eI m), .no]) rfl (rs_last (rs_bindG (re_dOp2 (re_bindG (re_dOp1 (re_tail (w := eI) (re_dOp2 (re_bindG (re_dOp2n (re_bindP (rv_rdR rfl) (re_bindP rv_ret (re_bindP (rv_rdR rfl) (re_lift op_atL))))) fun c15 => (re_bindP rv_ret (re_lift op_div)))) fun c16 => (rv_lift (y := (eI c16)) rfl))) fun c17 => (re_bindP (rv_var rfl) (re_lift op_mod)))) fun c18 => (rs_ret ⟨.inl rfl, _, rfl⟩))))))))))))
def P__law_klein  : M (List (List Int)) := .ok [[0, 1, 2, 3], [1, 0, 3, 2], [2, 3, 0, 1], [3, 2, 1, 0]]
theorem S__law_klein  : DM (d__law_klein []) (P__law_klein ) (eL (eT eI)) := fn_F rfl (show RS true (sRet (dFrz (dLst (dCons (dTup (dCons (dC (.int 0)) (dCons (dC (.int 1)) (dCons (dC (.int 2)) (dCons (dC (.int 3)) dNil))))) (dCons (dTup (dCons (dC (.int 1)) (dCons (dC (.int 0)) (dCons (dC (.int 3)) (dCons (dC (.int 2)) dNil))))) (dCons (dTup (dCons (dC (.int 2)) (dCons (dC (.int 3)) (dCons (dC (.int 0)) (dCons (dC (.int 1)) dNil))))) (dCons (dTup (dCons (dC (.int 3)) (dCons (dC (.int 2)) (dCons (dC (.int 1)) (dCons (dC (.int 0)) dNil))))) dNil))))))) [] (P__law_klein ) (Kfn (eL (eT eI))) from
  (rs_last (rs_bindP (rv_frzN (d := ((eL (eT eI)) [[0, 1, 2, 3], [1, 0, 3, 2], [2, 3, 0, 1], [3, 2, 1, 0]])) (rv_dLst (rv_cons (rv_dTup (rv_cons rv_ret (rv_cons rv_ret (rv_cons rv_ret (rv_cons rv_ret (rv_nil (rv_lift (y := ((eT eI) [0, 1, 2, 3])) (op_tup (by exact Nat.le_of_ble_eq_true rfl) rfl)))))))) (rv_cons (rv_dTup (rv_cons rv_ret (rv_cons rv_ret (rv_cons rv_ret (rv_cons rv_ret (rv_nil (rv_lift (y := ((eT eI) [1, 0, 3, 2])) (op_tup (by exact Nat.le_of_ble_eq_true rfl) rfl)))))))) (rv_cons (rv_dTup (rv_cons rv_ret (rv_cons rv_ret (rv_cons rv_ret (rv_cons rv_ret (rv_nil (rv_lift (y := ((eT eI) [2, 3, 0, 1])) (op_tup (by exact Nat.le_of_ble_eq_true rfl) rfl)))))))) (rv_cons (rv_dTup (rv_cons rv_ret (rv_cons rv_ret (rv_cons rv_ret (rv_cons rv_ret (rv_nil (rv_lift (y := ((eT eI) [3, 2, 1, 0])) (op_tup (by exact Nat.le_of_ble_eq_true rfl) rfl)))))))) (rv_nil (rv_lift (y := ((List.map (eT eI)) [[0, 1, 2, 3], [1, 0, 3, 2], [2, 3, 0, 1], [3, 2, 1, 0]])) (op_lst (by exact Nat.le_of_ble_eq_true rfl) rfl)))))))) rfl) (rs_ret (.inl rfl)))))
def P__law_dihedral (n : Int) : M (List (List Int)) := M.bind (M.bind (pMul 2 n) fun c1 => pRng c1) fun c2 => M.bind (pfold (fun (x105 : Int) (a106 : (List (List Int))) => M.bind (M.bind (pMul 2 n) fun c111 => pRng c111) fun c112 => M.bind (pfold (fun (x137 : Int) (a138 : (List Int)) => M.bind (pMod (x105 + x137) n) fun c141 => M.bind (if (decide (x105 ≥ n)) = true then M.bind (pMod (x105 - x137) n) fun c143 => .ok c143 else .ok c141 : M Int) fun (a144 : Int) => M.bind (M.bind (M.bind (pMul n (if (!decide ((decide (x105 < n)) = (decide (x137 < n)))) = true then (1 : Int) else 0)) fun c145 => .ok (a144 + c145)) fun c147 => pApp a138 c147) fun c146 => .ok c146) c112 []) fun (a149 : (List Int)) => M.bind (pApp a106 a149) fun c152 => .ok c152) c2 []) fun (a156 : (List (List Int))) => .ok a156
theorem S__law_dihedral (n : Int) : DM (d__law_dihedral [eI n]) (P__law_dihedral n) (eL (eT eI)) := fn_F rfl (show RS true (sSeq (sOwn 1 (dLst dNil)) (sSeq (sFor (.nm 2) (dRng (dOp2 opMul (dC (.int 2)) (dVar 0))) (sSeq (sOwn 3 (dLst dNil)) (sSeq (sFor (.nm 4) (dRng (dOp2 opMul (dC (.int 2)) (dVar 0))) (sSeq (sSet 5 (dOp2 opMod (dOp1 opInt (dOp2 opAdd (dVar 2) (dVar 4))) (dVar 0))) (sSeq (sIf (dTst (dOp2 opGe (dVar 2) (dVar 0))) (sSet 5 (dOp2 opMod (dOp1 opInt (dOp2 opSub (dVar 2) (dVar 4))) (dVar 0))) sPass) (sExpr (dAppend 3 (dOp2 opAdd (dVar 5) (dOp2 opMul (dVar 0) (dOp1 opInt (dOp2 opNe (dOp2 opLt (dVar 2) (dVar 0)) (dOp2 opLt (dVar 4) (dVar 0))))))))))) (sExpr (dAppend 1 (dOp1n opTuple 3)))))) (sRet (dVar 1)))) [.sh (eI n), .no, .no, .no, .no, .no] (P__law_dihedral n) (Kfn (eL (eT eI))) from
  (rs_bindP (rv_dLst (rv_nil (rv_lift (y := ((List.map eI) [])) (op_lst (by exact Nat.le_of_ble_eq_true rfl) rfl)))) (rs_put (st1 := [.sh (eI n), .ow (List.map eI []), .no, .no, .no, .no]) rfl (rs_bindG (re_dRng (re_bindG (re_dOp2 (re_bindP rv_ret (re_bindP (rv_var rfl) (re_lift op_mul)))) fun c1 => (re_lift op_rng))) fun c2 => (rs_for0 (e := eI) (xs := c2) (a := []) (f := fun (x105 : Int) (a106 : (List (List Int))) => M.bind (M.bind (pMul 2 n) fun c111 => pRng c111) fun c112 => M.bind (pfold (fun (x137 : Int) (a138 : (List Int)) => M.bind (pMod (x105 + x137) n) fun c141 => M.bind (if (decide (x105 ≥ n)) = true then M.bind (pMod (x105 - x137) n) fun c143 => .ok c143 else .ok c141 : M Int) fun (a144 : Int) => M.bind (M.bind (M.bind (pMul n (if (!decide ((decide (x105 < n)) = (decide (x137 < n)))) = true then (1 : Int) else 0)) fun c145 => .ok (a144 + c145)) fun c147 => pApp a138 c147) fun c146 => .ok c146) c112 []) fun (a149 : (List Int)) => M.bind (pApp a106 a149) fun c152 => .ok c152) (fun (a161 : (List (List Int))) (st : DSt) => ∃ (j162 : (Option D)), ∃ (j163 : Slot), ∃ (j164 : (Option D)), ∃ (j165 : (Option D)), st = [.sh (eI n), .ow (List.map (eT eI) a161), jk j162, j163, jk j164, jk j165]) ⟨none, (.no), none, none, rfl⟩ (fun | x105, a106, _, ⟨j107, j108, j109, j110, rfl⟩ => ⟨[.sh (eI n), .ow (List.map (eT eI) a106), .sh (eI x105), j108, jk j109, jk j110], rfl, (rs_bindP (rv_dLst (rv_nil (rv_lift (y := ((List.map eI) [])) (op_lst (by exact Nat.le_of_ble_eq_true rfl) rfl)))) (rs_put (st1 := [.sh (eI n), .ow (List.map (eT eI) a106), .sh (eI x105), .ow (List.map eI []), jk j109, jk j110]) rfl (rs_bindG (re_dRng (re_bindG (re_dOp2 (re_bindP rv_ret (re_bindP (rv_var rfl) (re_lift op_mul)))) fun c111 => (re_lift op_rng))) fun c112 => (rs_for0 (e := eI) (xs := c112) (a := []) (f := fun (x137 : Int) (a138 : (List Int)) => M.bind (pMod (x105 + x137) n) fun c141 => M.bind (if (decide (x105 ≥ n)) = true then M.bind (pMod (x105 - x137) n) fun c143 => .ok c143 else .ok c141 : M Int) fun (a144 : Int) => M.bind (M.bind (M.bind (pMul n (if (!decide ((decide (x105 < n)) = (decide (x137 < n)))) = true then (1 : Int) else 0)) fun c145 => .ok (a144 + c145)) fun c147 => pApp a138 c147) fun c146 => .ok c146) (fun (a153 : (List Int)) (st : DSt) => ∃ (j154 : (Option D)), ∃ (j155 : (Option D)), st = [.sh (eI n), .ow (List.map (eT eI) a106), .sh (eI x105), .ow (List.map eI a153), jk j154, jk j155]) ⟨j109, j110, rfl⟩ (fun | x137, a138, _, ⟨j139, j140, rfl⟩ => ⟨[.sh (eI n), .ow (List.map (eT eI) a106), .sh (eI x105), .ow (List.map eI a138), .sh (eI x137), jk j140], rfl, (rs_bindG (re_dOp2 (re_bindP (rv_dOp1 (rv_bind (rv_dOp2 (rv_bind (rv_var rfl) (rv_bind (rv_var rfl) (rv_lift (y := (eI (x105 + x137))) rfl)))) (rv_lift (y := (eI (x105 + x137))) rfl))) (re_bindP (rv_var rfl) (re_lift op_mod)))) fun c141 => (rs_put (st1 := [.sh (eI n), .ow (List.map (eT eI) a106), .sh (eI x105), .ow (List.map eI a138), .sh (eI x137), .sh (eI c141)]) rfl (rs_bindP (rv_tst (rv_dOp2 (rv_bind (rv_var rfl) (rv_bind (rv_var rfl) (rv_lift (y := (eB (decide (x105 ≥ n)))) rfl))))) (rs_join (I := (fun (a148 : Int) (st : DSt) => st = [.sh (eI n), .ow (List.map (eT eI) a106), .sh (eI x105), .ow (List.map eI a138), .sh (eI x137), .sh (eI a148)])) (rs_iteN (fun _ => (rs_last (rs_bindG (re_dOp2 (re_bindP (rv_dOp1 (rv_bind (rv_dOp2 (rv_bind (rv_var rfl) (rv_bind (rv_var rfl) (rv_lift (y := (eI (x105 - x137))) rfl)))) (rv_lift (y := (eI (x105 - x137))) rfl))) (re_bindP (rv_var rfl) (re_lift op_mod)))) fun c143 => (rs_put (st1 := [.sh (eI n), .ow (List.map (eT eI) a106), .sh (eI x105), .ow (List.map eI a138), .sh (eI x137), .sh (eI c143)]) rfl (rs_end ⟨rfl, rfl⟩))))) (fun _ => (rs_end ⟨rfl, rfl⟩))) fun | a144, _, rfl => (rs_last (rs_x (x_appG (e := eI) (xs := a138) rfl (re_dOp2 (re_bindP (rv_var rfl) (re_bindG (re_dOp2 (re_bindP (rv_var rfl) (re_bindP (rv_dOp1 (rv_bind (rv_dOp2 (rv_bind (rv_dOp2 (rv_bind (rv_var rfl) (rv_bind (rv_var rfl) (rv_lift (y := (eB (decide (x105 < n)))) rfl)))) (rv_bind (rv_dOp2 (rv_bind (rv_var rfl) (rv_bind (rv_var rfl) (rv_lift (y := (eB (decide (x137 < n)))) rfl)))) (rv_lift (ne_py pyB (x := (decide (x105 < n))) (y := (decide (x137 < n)))))))) (rv_lift (y := (eI (if (!decide ((decide (x105 < n)) = (decide (x137 < n)))) = true then (1 : Int) else 0))) rfl))) (re_lift op_mul)))) fun c145 => (re_rv (w := eI) (rv_lift (y := (eI (a144 + c145))) rfl))))) rfl) fun c146 => rs_st ([.sh (eI n), .ow (List.map (eT eI) a106), .sh (eI x105), .ow (List.map eI c146), .sh (eI x137), .sh (eI a144)]) rfl (rs_end ⟨rfl, (some (eI x137)), (some (eI a144)), rfl⟩)))))))⟩) (fun | a149, _, ⟨j150, j151, rfl⟩ => (rs_last (rs_x (x_appP (e := (eT eI)) (xs := a106) rfl (rv_dOp1n (rv_bind (rv_rdO rfl) (rv_lift (y := ((eT eI) a149)) rfl))) rfl) fun c152 => rs_st ([.sh (eI n), .ow (List.map (eT eI) c152), .sh (eI x105), .ow (List.map eI a149), jk j150, jk j151]) rfl (rs_end ⟨rfl, (some (eI x105)), (.ow (List.map eI a149)), j150, j151, rfl⟩))))))))⟩) (fun | a156, _, ⟨j157, j158, j159, j160, rfl⟩ => (rs_last (rs_bindP (rv_frz rfl) (rs_ret (.inl rfl))))))))))
def P__law_cyclic (n : Int) : M (List (List Int)) := M.bind (M.bind (pRng n) fun c1 => pMap (fun (x2 : Int) => M.bind (pRng n) fun c3 => pMap (fun (x4 : Int) => pMod (x2 + x4) n) c3) c1) fun c6 => .ok c6
theorem S__law_cyclic (n : Int) : DM (d__law_cyclic [eI n]) (P__law_cyclic n) (eL (eT eI)) := fn_F rfl (show RS true (sRet (dFrz (dComp [1] (.nm 1) (dRng (dVar 0)) dYes (dOp1 opTuple (dFrz (dComp [2] (.nm 2) (dRng (dVar 0)) dYes (dOp2 opMod (dOp1 opInt (dOp2 opAdd (dVar 1) (dVar 2))) (dVar 0)))))))) [.sh (eI n), .no, .no] (P__law_cyclic n) (Kfn (eL (eT eI))) from
  (rs_last (rs_bindG (re_frzN (re_bindG (re_dRng (re_bindP (rv_var rfl) (re_lift op_rng))) fun c1 => (re_compM (e := eI) (f := fun (x2 : Int) => M.bind (pRng n) fun c3 => pMap (fun (x4 : Int) => pMod (x2 + x4) n) c3) ([.sh (eI n), .no, .no]) rfl rfl rfl (fun x2 => ⟨[.sh (eI n), .sh (eI x2), .no], [.sh (eI n), .sh (eI x2), .no], rfl, (re_dOp1 (re_tail (w := (eT eI)) (re_frzN (re_bindG (re_dRng (re_bindP (rv_var rfl) (re_lift op_rng))) fun c3 => (re_compM (e := eI) (f := fun (x4 : Int) => pMod (x2 + x4) n) ([.sh (eI n), .sh (eI x2), .no]) rfl rfl rfl (fun x4 => ⟨[.sh (eI n), .sh (eI x2), .sh (eI x4)], [.sh (eI n), .sh (eI x2), .sh (eI x4)], rfl, (re_dOp2 (re_bindP (rv_dOp1 (rv_bind (rv_dOp2 (rv_bind (rv_var rfl) (rv_bind (rv_var rfl) (rv_lift (y := (eI (x2 + x4))) rfl)))) (rv_lift (y := (eI (x2 + x4))) rfl))) (re_bindP (rv_var rfl) (re_lift op_mod)))), rfl, rfl⟩)))) fun c5 => (rv_lift (y := ((eT eI) c5)) rfl))), rfl, rfl⟩)))) fun c6 => (rs_ret (.inl rfl)))))
def P__law_group (state_here : (List Int)) (most : Int) : M ((List (List Int)) × (List Int)) := M.bind (P__law_take state_here 6) fun c2 => if ((decide (c2.1 = 4)) && (decide (most > 3))) = true then M.bind P__law_klein fun c4 => .ok (c4, c2.2) else if ((decide (c2.1 = 5)) && (decide (most > 5))) = true then M.bind (P__law_dihedral 3) fun c5 => .ok (c5, c2.2) else M.bind (M.bind (M.bind (P__law_take c2.2 most) fun c8 => .ok ((1 + c8.1), c8.2)) fun c9 => M.bind (P__law_cyclic c9.1) fun c10 => .ok (c10, c9.2)) fun c11 => .ok (c11.1, c11.2)
theorem S__law_group (state_here : (List Int)) (most : Int) : DR (d__law_group (List.map eI state_here) [eI most]) (P__law_group state_here most) (eL (eT eI)) eI := fn_R rfl (show RS false (sSeq (sSet 2 (dCallR d__law_take 0 (dCons (dC (.int 6)) dNil))) (sSeq (sIf (dAnd (dTst (dOp2 opEq (dVar 2) (dC (.int 4)))) (dTst (dOp2 opGt (dVar 1) (dC (.int 3))))) (sRet (dCall d__law_klein dNil)) sPass) (sSeq (sIf (dAnd (dTst (dOp2 opEq (dVar 2) (dC (.int 5)))) (dTst (dOp2 opGt (dVar 1) (dC (.int 5))))) (sRet (dCall d__law_dihedral (dCons (dC (.int 3)) dNil))) sPass) (sRet (dCall d__law_cyclic (dCons (dOp2 opAdd (dC (.int 1)) (dCallR d__law_take 0 (dCons (dVar 1) dNil))) dNil)))))) [.rf 0 (List.map eI state_here), .sh (eI most), .no] (P__law_group state_here most) (Kby (eL (eT eI)) eI) from
  (rs_bindS (fun (r3 : List Int) => [.rf 0 (List.map eI r3), .sh (eI most), .no]) (rt_dCallR (rt_bindP (rv_owR rfl) (rt_consP rv_ret (rt_nil (rt_callR (S := fun r1 => [.rf 0 (List.map eI r1), .sh (eI most), .no]) rfl (fun _ => rfl) (S__law_take state_here 6)))))) fun c2 => (rs_put (st1 := [.rf 0 (List.map eI c2.2), .sh (eI most), .sh (eI c2.1)]) rfl (rs_bindP (rv_dAnd (rv_bind (rv_tst (rv_dOp2 (rv_bind (rv_var rfl) (rv_bind rv_ret (rv_lift (eq_py pyI (x := c2.1) (y := 4))))))) (rv_and fun _ => (rv_tst (rv_dOp2 (rv_bind (rv_var rfl) (rv_bind rv_ret (rv_lift (y := (eB (decide (most > 3)))) rfl)))))))) (rs_ite (fun _ => (rs_bindG (re_dCall (re_nil (re_liftM (S__law_klein )))) fun c4 => (rs_ret ⟨.inl rfl, _, rfl⟩))) (fun _ => (rs_nx (rs_bindP (rv_dAnd (rv_bind (rv_tst (rv_dOp2 (rv_bind (rv_var rfl) (rv_bind rv_ret (rv_lift (eq_py pyI (x := c2.1) (y := 5))))))) (rv_and fun _ => (rv_tst (rv_dOp2 (rv_bind (rv_var rfl) (rv_bind rv_ret (rv_lift (y := (eB (decide (most > 5)))) rfl)))))))) (rs_ite (fun _ => (rs_bindG (re_dCall (re_consP rv_ret (re_nil (re_liftM (by apply S__law_dihedral))))) fun c5 => (rs_ret ⟨.inl rfl, _, rfl⟩))) (fun _ => (rs_nx (rs_last (rs_bindS (fun (r12 : List Int) => [.rf 0 (List.map eI r12), .sh (eI most), .sh (eI c2.1)]) (rt_dCall (rt_consS (rt_dOp2 (rt_bindP rv_ret (rt_bindS (rt_dCallR (rt_bindP (rv_owR rfl) (rt_consP (rv_var rfl) (rt_nil (rt_callR (S := fun r7 => [.rf 0 (List.map eI r7), .sh (eI most), .sh (eI c2.1)]) rfl (fun _ => rfl) (S__law_take c2.2 most)))))) fun c8 => (rt_rv (v := eI) (rv_lift (y := (eI (1 + c8.1))) rfl))))) fun c9 => (rt_nil (rt_re (re_liftM (S__law_cyclic c9.1)))))) fun c11 => (rs_ret ⟨.inl rfl, _, rfl⟩))))))))))))))
def P__law_order_of (state_here : (List Int)) (n : Int) : M ((List Int) × (List Int)) := M.bind (pRng n) fun c1 => M.bind (pRng n) fun c2 => M.bind (pfold (fun (x19 : Int) (a20 : ((List Int) × (List Int) × (List Int))) => M.bind (P__law_take a20.1 (a20.2.1.length : Int)) fun c23 => M.bind (pPopAt a20.2.1 c23.1) fun c24 => M.bind (pApp a20.2.2 c24.1) fun c25 => .ok (c23.2, c24.2, c25)) c2 (state_here, c1, [])) fun (a27 : ((List Int) × (List Int) × (List Int))) => .ok (a27.2.2, a27.1)
theorem S__law_order_of (state_here : (List Int)) (n : Int) : DR (d__law_order_of (List.map eI state_here) [eI n]) (P__law_order_of state_here n) (eL eI) eI := fn_R rfl (show RS false (sSeq (sOwn 2 (dLstRg (dRg1 (dVar 1)))) (sSeq (sOwn 3 (dLst dNil)) (sSeq (sFor (.nm 4) (dRng (dVar 1)) (sExpr (dAppend 3 (dPopAt 2 (dCallR d__law_take 0 (dCons (dOp1n opLen 2) dNil)))))) (sRet (dVar 3))))) [.rf 0 (List.map eI state_here), .sh (eI n), .no, .no, .no] (P__law_order_of state_here n) (Kby (eL eI) eI) from
  (rs_bindG (re_lrgP (rv_var rfl)) fun c1 => (rs_put (st1 := [.rf 0 (List.map eI state_here), .sh (eI n), .ow (List.map eI c1), .no, .no]) rfl (rs_bindP (rv_dLst (rv_nil (rv_lift (y := ((List.map eI) [])) (op_lst (by exact Nat.le_of_ble_eq_true rfl) rfl)))) (rs_put (st1 := [.rf 0 (List.map eI state_here), .sh (eI n), .ow (List.map eI c1), .ow (List.map eI []), .no]) rfl (rs_bindG (re_dRng (re_bindP (rv_var rfl) (re_lift op_rng))) fun c2 => (rs_for0 (e := eI) (xs := c2) (a := (state_here, c1, [])) (f := fun (x19 : Int) (a20 : ((List Int) × (List Int) × (List Int))) => M.bind (P__law_take a20.1 (a20.2.1.length : Int)) fun c23 => M.bind (pPopAt a20.2.1 c23.1) fun c24 => M.bind (pApp a20.2.2 c24.1) fun c25 => .ok (c23.2, c24.2, c25)) (fun (a29 : ((List Int) × (List Int) × (List Int))) (st : DSt) => ∃ (j30 : (Option D)), st = [.rf 0 (List.map eI a29.1), .sh (eI n), .ow (List.map eI a29.2.1), .ow (List.map eI a29.2.2), jk j30]) ⟨none, rfl⟩ (fun | x19, a20, _, ⟨j21, rfl⟩ => ⟨[.rf 0 (List.map eI a20.1), .sh (eI n), .ow (List.map eI a20.2.1), .ow (List.map eI a20.2.2), .sh (eI x19)], rfl, (rs_last (rs_appPop (e := eI) (xs := a20.2.1) (ys := a20.2.2) (fun (r26 : List Int) => [.rf 0 (List.map eI r26), .sh (eI n), .ow (List.map eI a20.2.1), .ow (List.map eI a20.2.2), .sh (eI x19)]) rfl rfl (rt_dCallR (rt_bindP (rv_owR rfl) (rt_consP (rv_dOp1n (rv_bind (rv_rdO rfl) (rv_lift op_lenL))) (rt_nil (rt_callR (S := fun r22 => [.rf 0 (List.map eI r22), .sh (eI n), .ow (List.map eI a20.2.1), .ow (List.map eI a20.2.2), .sh (eI x19)]) rfl (fun _ => rfl) (S__law_take a20.1 (a20.2.1.length : Int))))))) (fun _ => rfl) (fun _ => rfl) (by decide) fun c23 c24 c25 => rs_st ([.rf 0 (List.map eI c23.2), .sh (eI n), .ow (List.map eI c24.2), .ow (List.map eI c25), .sh (eI x19)]) rfl (rs_end ⟨rfl, (some (eI x19)), rfl⟩)))⟩) (fun | a27, _, ⟨j28, rfl⟩ => (rs_last (rs_bindP (rv_frz rfl) (rs_ret ⟨.inl rfl, _, rfl⟩)))))))))))
def P__law_inner_order (state_here : (List Int)) (n : Int) : M ((List Int) × (List Int)) := M.bind (M.bind (M.bind (P__law_order_of state_here (n - 1)) fun c3 => M.bind (pMap (fun (x4 : Int) => .ok (1 + x4)) c3.1) fun c5 => .ok (c5, c3.2)) fun c6 => M.bind (pCat [0] c6.1) fun c7 => .ok (c7, c6.2)) fun c8 => .ok (c8.1, c8.2)
theorem S__law_inner_order (state_here : (List Int)) (n : Int) : DR (d__law_inner_order (List.map eI state_here) [eI n]) (P__law_inner_order state_here n) (eL eI) eI := fn_R rfl (show RS false (sRet (dFrz (dN2 nAdd (dFrz (dLst (dCons (dC (.int 0)) dNil))) (dFrz (dComp [2] (.nm 2) (dItems (dCallR d__law_order_of 0 (dCons (dOp2 opSub (dVar 1) (dC (.int 1))) dNil))) dYes (dOp2 opAdd (dC (.int 1)) (dVar 2))))))) [.rf 0 (List.map eI state_here), .sh (eI n), .no] (P__law_inner_order state_here n) (Kby (eL eI) eI) from
  (rs_last (rs_bindS (fun (r9 : List Int) => [.rf 0 (List.map eI r9), .sh (eI n), .no]) (rt_frzN (rt_dN2 (rt_bindP (rv_frzN (d := ((eL eI) [0])) (rv_dLst (rv_cons rv_ret (rv_nil (rv_lift (y := ((List.map eI) [0])) (op_lst (by exact Nat.le_of_ble_eq_true rfl) rfl))))) rfl) (rt_bindS (rt_frzN (rt_bindS (rt_dItems (rt_tail (w := (List.map eI)) (rt_dCallR (rt_bindP (rv_owR rfl) (rt_consP (rv_dOp2 (rv_bind (rv_var rfl) (rv_bind rv_ret (rv_lift (y := (eI (n - 1))) rfl)))) (rt_nil (rt_callR (S := fun r1 => [.rf 0 (List.map eI r1), .sh (eI n), .no]) rfl (fun _ => rfl) (S__law_order_of state_here (n - 1))))))) fun c2 => (rv_lift (y := ((List.map eI) c2.1)) rfl))) fun c3 => (rt_re (re_compM (e := eI) (f := fun (x4 : Int) => .ok (1 + x4)) ([.rf 0 (List.map eI c3.2), .sh (eI n), .no]) rfl rfl rfl (fun x4 => ⟨[.rf 0 (List.map eI c3.2), .sh (eI n), .sh (eI x4)], [.rf 0 (List.map eI c3.2), .sh (eI n), .sh (eI x4)], rfl, (re_rv (w := eI) (rv_dOp2 (rv_bind rv_ret (rv_bind (rv_var rfl) (rv_lift (y := (eI (1 + x4))) rfl))))), rfl, rfl⟩))))) fun c6 => (rt_re (re_lift (op_nCat (e := eI) (xs := [0]) (ys := c6.1)))))))) fun c8 => (rs_ret ⟨.inl rfl, _, rfl⟩))))
def P__law_renamed (table : (List (List Int))) (order : (List Int)) : M (List (List Int)) := M.bind (M.bind (pRng (table.length : Int)) fun c1 => pMap (fun (x2 : Int) => M.bind (pRng (table.length : Int)) fun c3 => pMap (fun (x4 : Int) => .ok 0) c3) c1) fun c5 => M.bind (pRng (table.length : Int)) fun c6 => M.bind (pfold (fun (x34 : Int) (a35 : (List (List Int))) => M.bind (pRng (table.length : Int)) fun c38 => M.bind (pfold (fun (x48 : Int) (a49 : (List (List Int))) => M.bind (pNX (M.bind (M.bind (M.bind (pAt table x34) fun c51 => pAt c51 x48) fun c52 => pAt order c52) fun c54 => M.bind (pAt order x34) fun c55 => M.bind (pAt order x48) fun c56 => pSet2 a49 c55 c56 c54)) fun c53 => .ok c53) c38 a35) fun (a57 : (List (List Int))) => .ok a57) c6 c5) fun (a61 : (List (List Int))) => M.bind (pMap (fun (x64 : (List Int)) => .ok x64) a61) fun c65 => .ok c65
theorem S__law_renamed (table : (List (List Int))) (order : (List Int)) : DM (d__law_renamed [(eL (eT eI)) table, (eL eI) order]) (P__law_renamed table order) (eL (eT eI)) := fn_F rfl (show RS true (sSeq (sSet 2 (dOp1n opLen 0)) (sSeq (sOwn2 3 (dComp2 [4] (.nm 4) (dRng (dVar 2)) (dComp [5] (.nm 5) (dRng (dVar 2)) dYes (dC (.int 0))))) (sSeq (sFor (.nm 4) (dRng (dVar 2)) (sFor (.nm 5) (dRng (dVar 2)) (sStore2 3 (dOp2n opIx 1 (dVar 4)) (dOp2n opIx 1 (dVar 5)) (dOp2n opIx 1 (dOp2 opIx (dOp2n opIx 0 (dVar 4)) (dVar 5)))))) (sRet (dFrz (dComp [6] (.nm 6) (dItems (dVar 3)) dYes (dOp1n opTuple 6))))))) [.sh ((eL (eT eI)) table), .sh ((eL eI) order), .no, .no, .no, .no, .no] (P__law_renamed table order) (Kfn (eL (eT eI))) from
  (rs_bindP (rv_dOp1n (rv_bind (rv_rd rfl) (rv_lift op_lenL))) (rs_put (st1 := [.sh ((eL (eT eI)) table), .sh ((eL eI) order), .sh (eI (table.length : Int)), .no, .no, .no, .no]) rfl (rs_bindG (re_bindG (re_dRng (re_bindP (rv_var rfl) (re_lift op_rng))) fun c1 => (re_comp2 (e := eI) (f := fun (x2 : Int) => M.bind (pRng (table.length : Int)) fun c3 => pMap (fun (x4 : Int) => .ok 0) c3) ([.sh ((eL (eT eI)) table), .sh ((eL eI) order), .sh (eI (table.length : Int)), .no, .no, .no, .no]) rfl rfl rfl (fun x2 => ⟨[.sh ((eL (eT eI)) table), .sh ((eL eI) order), .sh (eI (table.length : Int)), .no, .sh (eI x2), .no, .no], [.sh ((eL (eT eI)) table), .sh ((eL eI) order), .sh (eI (table.length : Int)), .no, .sh (eI x2), .no, .no], rfl, (re_bindG (re_dRng (re_bindP (rv_var rfl) (re_lift op_rng))) fun c3 => (re_compM (e := eI) (f := fun (x4 : Int) => .ok 0) ([.sh ((eL (eT eI)) table), .sh ((eL eI) order), .sh (eI (table.length : Int)), .no, .sh (eI x2), .no, .no]) rfl rfl rfl (fun x4 => ⟨[.sh ((eL (eT eI)) table), .sh ((eL eI) order), .sh (eI (table.length : Int)), .no, .sh (eI x2), .sh (eI x4), .no], [.sh ((eL (eT eI)) table), .sh ((eL eI) order), .sh (eI (table.length : Int)), .no, .sh (eI x2), .sh (eI x4), .no], rfl, (re_rv (w := eI) rv_ret), rfl, rfl⟩))), rfl, rfl⟩))) fun c5 => (rs_put2 (st1 := [.sh ((eL (eT eI)) table), .sh ((eL eI) order), .sh (eI (table.length : Int)), .o2 (List.map (List.map eI) c5), .no, .no, .no]) rfl (rs_bindG (re_dRng (re_bindP (rv_var rfl) (re_lift op_rng))) fun c6 => (rs_for0 (e := eI) (xs := c6) (a := c5) (f := fun (x34 : Int) (a35 : (List (List Int))) => M.bind (pRng (table.length : Int)) fun c38 => M.bind (pfold (fun (x48 : Int) (a49 : (List (List Int))) => M.bind (pNX (M.bind (M.bind (M.bind (pAt table x34) fun c51 => pAt c51 x48) fun c52 => pAt order c52) fun c54 => M.bind (pAt order x34) fun c55 => M.bind (pAt order x48) fun c56 => pSet2 a49 c55 c56 c54)) fun c53 => .ok c53) c38 a35) fun (a57 : (List (List Int))) => .ok a57) (fun (a66 : (List (List Int))) (st : DSt) => ∃ (j67 : (Option D)), ∃ (j68 : (Option D)), st = [.sh ((eL (eT eI)) table), .sh ((eL eI) order), .sh (eI (table.length : Int)), .o2 (List.map (List.map eI) a66), jk j67, jk j68, .no]) ⟨none, none, rfl⟩ (fun | x34, a35, _, ⟨j36, j37, rfl⟩ => ⟨[.sh ((eL (eT eI)) table), .sh ((eL eI) order), .sh (eI (table.length : Int)), .o2 (List.map (List.map eI) a35), .sh (eI x34), jk j37, .no], rfl, (rs_last (rs_bindG (re_dRng (re_bindP (rv_var rfl) (re_lift op_rng))) fun c38 => (rs_for0 (e := eI) (xs := c38) (a := a35) (f := fun (x48 : Int) (a49 : (List (List Int))) => M.bind (pNX (M.bind (M.bind (M.bind (pAt table x34) fun c51 => pAt c51 x48) fun c52 => pAt order c52) fun c54 => M.bind (pAt order x34) fun c55 => M.bind (pAt order x48) fun c56 => pSet2 a49 c55 c56 c54)) fun c53 => .ok c53) (fun (a59 : (List (List Int))) (st : DSt) => ∃ (j60 : (Option D)), st = [.sh ((eL (eT eI)) table), .sh ((eL eI) order), .sh (eI (table.length : Int)), .o2 (List.map (List.map eI) a59), .sh (eI x34), jk j60, .no]) ⟨j37, rfl⟩ (fun | x48, a49, _, ⟨j50, rfl⟩ => ⟨[.sh ((eL (eT eI)) table), .sh ((eL eI) order), .sh (eI (table.length : Int)), .o2 (List.map (List.map eI) a49), .sh (eI x34), .sh (eI x48), .no], rfl, (rs_last (rs_x (x_set2G (e := eI) rfl (re_dOp2n (re_bindP (rv_rd rfl) (re_bindG (re_dOp2 (re_bindG (re_dOp2n (re_bindP (rv_rd rfl) (re_bindP (rv_var rfl) (re_bindP (rv_rd rfl) (re_lift op_atL))))) fun c51 => (re_bindP (rv_var rfl) (re_lift op_atT)))) fun c52 => (re_bindP (rv_rd rfl) (re_lift op_atL))))) (re_dOp2n (re_bindP (rv_rd rfl) (re_bindP (rv_var rfl) (re_bindP (rv_rd rfl) (re_lift op_atL))))) (re_dOp2n (re_bindP (rv_rd rfl) (re_bindP (rv_var rfl) (re_bindP (rv_rd rfl) (re_lift op_atL)))))) fun c53 => rs_st ([.sh ((eL (eT eI)) table), .sh ((eL eI) order), .sh (eI (table.length : Int)), .o2 (List.map (List.map eI) c53), .sh (eI x34), .sh (eI x48), .no]) rfl (rs_end ⟨rfl, (some (eI x48)), rfl⟩)))⟩) (fun | a57, _, ⟨j58, rfl⟩ => (rs_end ⟨rfl, (some (eI x34)), j58, rfl⟩)))))⟩) (fun | a61, _, ⟨j62, j63, rfl⟩ => (rs_last (rs_bindG (re_frzN (re_bindP (rv_dItems (rv_bind (rv_frzL (e := eI) (xss := a61) rfl) (rv_lift (y := ((List.map (eL eI)) a61)) rfl))) (re_compM (e := (eL eI)) (f := fun (x64 : (List Int)) => .ok x64) ([.sh ((eL (eT eI)) table), .sh ((eL eI) order), .sh (eI (table.length : Int)), .sh ((eL (eL eI)) a61), jk j62, jk j63, .no]) rfl rfl rfl (fun x64 => ⟨[.sh ((eL (eT eI)) table), .sh ((eL eI) order), .sh (eI (table.length : Int)), .sh ((eL (eL eI)) a61), jk j62, jk j63, .sh ((eL eI) x64)], [.sh ((eL (eT eI)) table), .sh ((eL eI) order), .sh (eI (table.length : Int)), .sh ((eL (eL eI)) a61), jk j62, jk j63, .sh ((eL eI) x64)], rfl, (re_rv (w := (eT eI)) (rv_dOp1n (rv_bind (rv_rd rfl) (rv_lift (y := ((eT eI) x64)) rfl)))), rfl, rfl⟩)))) fun c65 => (rs_ret (.inl rfl))))))))))))
def P__law_rows_of (n : Int) (count : Int) : M (List (List Int)) := M.bind (pRng count) fun c1 => M.bind (pfold (fun (x62 : Int) (a63 : (List (List Int))) => M.bind (pfold (fun (x81 : (List Int)) (a82 : (List (List Int))) => M.bind (M.bind (M.bind (pRng n) fun c84 => pMap (fun (x85 : Int) => pCat x81 [x85]) c84) fun c86 => pCat a82 c86) fun c87 => .ok c87) a63 []) fun (a88 : (List (List Int))) => .ok a88) c1 [[]]) fun (a92 : (List (List Int))) => .ok a92
theorem S__law_rows_of (n : Int) (count : Int) : DM (d__law_rows_of [eI n, eI count]) (P__law_rows_of n count) (eL (eT eI)) := fn_F rfl (show RS true (sSeq (sOwn 2 (dLst (dCons (dTup dNil) dNil))) (sSeq (sFor (.nm 3) (dRng (dVar 1)) (sSeq (sOwn 4 (dLst dNil)) (sSeq (sFor (.nm 5) (dItems (dVar 2)) (sOwn 4 (dN2 nAdd (dVar 4) (dFrz (dComp [6] (.nm 6) (dRng (dVar 0)) dYes (dOp2 opAdd (dVar 5) (dTup (dCons (dVar 6) dNil)))))))) (sOwn 2 (dN1n nList 4))))) (sRet (dVar 2)))) [.sh (eI n), .sh (eI count), .no, .no, .no, .no, .no] (P__law_rows_of n count) (Kfn (eL (eT eI))) from
  (rs_bindP (rv_dLst (rv_cons (rv_dTup (rv_nil (rv_lift (y := ((eT eI) [])) (op_tup (by exact Nat.le_of_ble_eq_true rfl) rfl)))) (rv_nil (rv_lift (y := ((List.map (eT eI)) [[]])) (op_lst (by exact Nat.le_of_ble_eq_true rfl) rfl))))) (rs_put (st1 := [.sh (eI n), .sh (eI count), .ow (List.map (eT eI) [[]]), .no, .no, .no, .no]) rfl (rs_bindG (re_dRng (re_bindP (rv_var rfl) (re_lift op_rng))) fun c1 => (rs_for0 (e := eI) (xs := c1) (a := [[]]) (f := fun (x62 : Int) (a63 : (List (List Int))) => M.bind (pfold (fun (x81 : (List Int)) (a82 : (List (List Int))) => M.bind (M.bind (M.bind (pRng n) fun c84 => pMap (fun (x85 : Int) => pCat x81 [x85]) c84) fun c86 => pCat a82 c86) fun c87 => .ok c87) a63 []) fun (a88 : (List (List Int))) => .ok a88) (fun (a96 : (List (List Int))) (st : DSt) => ∃ (j97 : (Option D)), ∃ (j98 : Slot), ∃ (j99 : (Option D)), st = [.sh (eI n), .sh (eI count), .ow (List.map (eT eI) a96), jk j97, j98, jk j99, .no]) ⟨none, (.no), none, rfl⟩ (fun | x62, a63, _, ⟨j64, j65, j66, rfl⟩ => ⟨[.sh (eI n), .sh (eI count), .ow (List.map (eT eI) a63), .sh (eI x62), j65, jk j66, .no], rfl, (rs_bindP (rv_dLst (rv_nil (rv_lift (y := ((List.map eI) [])) (op_lst (by exact Nat.le_of_ble_eq_true rfl) rfl)))) (rs_put (st1 := [.sh (eI n), .sh (eI count), .ow (List.map (eT eI) a63), .sh (eI x62), .ow (List.map eI []), jk j66, .no]) rfl (rs_bindP (rv_dItems (rv_bind (rv_frz rfl) (rv_lift (y := ((List.map (eT eI)) a63)) rfl))) (rs_for0 (e := (eT eI)) (xs := a63) (a := []) (f := fun (x81 : (List Int)) (a82 : (List (List Int))) => M.bind (M.bind (M.bind (pRng n) fun c84 => pMap (fun (x85 : Int) => pCat x81 [x85]) c84) fun c86 => pCat a82 c86) fun c87 => .ok c87) (fun (a90 : (List (List Int))) (st : DSt) => ∃ (j91 : (Option D)), st = [.sh (eI n), .sh (eI count), .sh ((eL (eT eI)) a63), .sh (eI x62), .ow (List.map (eT eI) a90), jk j91, .no]) ⟨j66, rfl⟩ (fun | x81, a82, _, ⟨j83, rfl⟩ => ⟨[.sh (eI n), .sh (eI count), .sh ((eL (eT eI)) a63), .sh (eI x62), .ow (List.map (eT eI) a82), .sh ((eT eI) x81), .no], rfl, (rs_last (rs_bindG (re_dN2 (re_bindP (rv_frz rfl) (re_bindG (re_frzN (re_bindG (re_dRng (re_bindP (rv_var rfl) (re_lift op_rng))) fun c84 => (re_compM (e := eI) (f := fun (x85 : Int) => pCat x81 [x85]) ([.sh (eI n), .sh (eI count), .sh ((eL (eT eI)) a63), .sh (eI x62), .sh ((eL (eT eI)) a82), .sh ((eT eI) x81), .no]) rfl rfl rfl (fun x85 => ⟨[.sh (eI n), .sh (eI count), .sh ((eL (eT eI)) a63), .sh (eI x62), .sh ((eL (eT eI)) a82), .sh ((eT eI) x81), .sh (eI x85)], [.sh (eI n), .sh (eI count), .sh ((eL (eT eI)) a63), .sh (eI x62), .sh ((eL (eT eI)) a82), .sh ((eT eI) x81), .sh (eI x85)], rfl, (re_dOp2 (re_bindP (rv_var rfl) (re_bindP (rv_dTup (rv_cons (rv_var rfl) (rv_nil (rv_lift (y := ((eT eI) [x85])) (op_tup (by exact Nat.le_of_ble_eq_true rfl) rfl))))) (re_lift (op_catT (e := eI) (xs := x81) (ys := [x85])))))), rfl, rfl⟩)))) fun c86 => (re_lift (op_nCat (e := (eT eI)) (xs := a82) (ys := c86)))))) fun c87 => (rs_put (st1 := [.sh (eI n), .sh (eI count), .sh ((eL (eT eI)) a63), .sh (eI x62), .ow (List.map (eT eI) c87), .sh ((eT eI) x81), .no]) rfl (rs_end ⟨rfl, (some ((eT eI) x81)), rfl⟩))))⟩) (fun | a88, _, ⟨j89, rfl⟩ => (rs_last (rs_bindP (rv_dN1n (rv_bind (rv_rdO rfl) (rv_lift (y := ((List.map (eT eI)) a88)) rfl))) (rs_put (st1 := [.sh (eI n), .sh (eI count), .ow (List.map (eT eI) a88), .sh (eI x62), .ow (List.map (eT eI) a88), jk j89, .no]) rfl (rs_end ⟨rfl, (some (eI x62)), (.ow (List.map (eT eI) a88)), j89, rfl⟩)))))))))⟩) (fun | a92, _, ⟨j93, j94, j95, rfl⟩ => (rs_last (rs_bindP (rv_frz rfl) (rs_ret (.inl rfl))))))))))
def P__law_listed (table : (List (List Int))) (generators : (List Int)) : M (List Int) := M.bind (pRng (table.length : Int)) fun c1 => M.bind (pfold (fun (x32 : Int) (a33 : (List Int)) => if (decide (x32 < (a33.length : Int))) = true then M.bind (pfold (fun (x47 : Int) (a48 : (List Int)) => M.bind (M.bind (M.bind (M.bind (pAt a48 x32) fun c50 => pAt table c50) fun c51 => pAt c51 x47) fun c52 => .ok (!has c52 a48)) fun c53 => if c53 = true then M.bind (M.bind (M.bind (M.bind (pAt a48 x32) fun c54 => pAt table c54) fun c55 => pAt c55 x47) fun c57 => pApp a48 c57) fun c56 => .ok c56 else .ok a48) generators a33) fun (a58 : (List Int)) => .ok a58 else .ok a33) c1 [0]) fun (a62 : (List Int)) => .ok a62
theorem S__law_listed (table : (List (List Int))) (generators : (List Int)) : DM (d__law_listed [(eL (eT eI)) table, (eT eI) generators]) (P__law_listed table generators) (eL eI) := fn_F rfl (show RS true (sSeq (sOwn 2 (dLst (dCons (dC (.int 0)) dNil))) (sSeq (sFor (.nm 3) (dRng (dOp1n opLen 0)) (sIf (dTst (dOp2 opLt (dVar 3) (dOp1n opLen 2))) (sFor (.nm 4) (dItems (dVar 1)) (sIf (dTst (dOp2m opNotIn (dOp2 opIx (dOp2n opIx 0 (dOp2n opIx 2 (dVar 3))) (dVar 4)) 2)) (sExpr (dAppend 2 (dOp2 opIx (dOp2n opIx 0 (dOp2n opIx 2 (dVar 3))) (dVar 4)))) sPass)) sPass)) (sRet (dVar 2)))) [.sh ((eL (eT eI)) table), .sh ((eT eI) generators), .no, .no, .no] (P__law_listed table generators) (Kfn (eL eI)) from
  (rs_bindP (rv_dLst (rv_cons rv_ret (rv_nil (rv_lift (y := ((List.map eI) [0])) (op_lst (by exact Nat.le_of_ble_eq_true rfl) rfl))))) (rs_put (st1 := [.sh ((eL (eT eI)) table), .sh ((eT eI) generators), .ow (List.map eI [0]), .no, .no]) rfl (rs_bindG (re_dRng (re_bindP (rv_dOp1n (rv_bind (rv_rd rfl) (rv_lift op_lenL))) (re_lift op_rng))) fun c1 => (rs_for0 (e := eI) (xs := c1) (a := [0]) (f := fun (x32 : Int) (a33 : (List Int)) => if (decide (x32 < (a33.length : Int))) = true then M.bind (pfold (fun (x47 : Int) (a48 : (List Int)) => M.bind (M.bind (M.bind (M.bind (pAt a48 x32) fun c50 => pAt table c50) fun c51 => pAt c51 x47) fun c52 => .ok (!has c52 a48)) fun c53 => if c53 = true then M.bind (M.bind (M.bind (M.bind (pAt a48 x32) fun c54 => pAt table c54) fun c55 => pAt c55 x47) fun c57 => pApp a48 c57) fun c56 => .ok c56 else .ok a48) generators a33) fun (a58 : (List Int)) => .ok a58 else .ok a33) (fun (a65 : (List Int)) (st : DSt) => ∃ (j66 : (Option D)), ∃ (j67 : (Option D)), st = [.sh ((eL (eT eI)) table), .sh ((eT eI) generators), .ow (List.map eI a65), jk j66, jk j67]) ⟨none, none, rfl⟩ (fun | x32, a33, _, ⟨j34, j35, rfl⟩ => ⟨[.sh ((eL (eT eI)) table), .sh ((eT eI) generators), .ow (List.map eI a33), .sh (eI x32), jk j35], rfl, (rs_last (rs_bindP (rv_tst (rv_dOp2 (rv_bind (rv_var rfl) (rv_bind (rv_dOp1n (rv_bind (rv_rdO rfl) (rv_lift op_lenL))) (rv_lift (y := (eB (decide (x32 < (a33.length : Int))))) rfl))))) (rs_ite (fun _ => (rs_bindP (rv_dItems (rv_bind (rv_var rfl) (rv_lift (y := ((List.map eI) generators)) rfl))) (rs_for0 (e := eI) (xs := generators) (a := a33) (f := fun (x47 : Int) (a48 : (List Int)) => M.bind (M.bind (M.bind (M.bind (pAt a48 x32) fun c50 => pAt table c50) fun c51 => pAt c51 x47) fun c52 => .ok (!has c52 a48)) fun c53 => if c53 = true then M.bind (M.bind (M.bind (M.bind (pAt a48 x32) fun c54 => pAt table c54) fun c55 => pAt c55 x47) fun c57 => pApp a48 c57) fun c56 => .ok c56 else .ok a48) (fun (a60 : (List Int)) (st : DSt) => ∃ (j61 : (Option D)), st = [.sh ((eL (eT eI)) table), .sh ((eT eI) generators), .ow (List.map eI a60), .sh (eI x32), jk j61]) ⟨j35, rfl⟩ (fun | x47, a48, _, ⟨j49, rfl⟩ => ⟨[.sh ((eL (eT eI)) table), .sh ((eT eI) generators), .ow (List.map eI a48), .sh (eI x32), .sh (eI x47)], rfl, (rs_last (rs_bindG (re_tst (re_dOp2m (re_bindG (re_dOp2 (re_bindG (re_dOp2n (re_bindP (rv_rd rfl) (re_bindG (re_dOp2n (re_bindP (rv_rdO rfl) (re_bindP (rv_var rfl) (re_bindP (rv_rdO rfl) (re_lift op_atL))))) fun c50 => (re_bindP (rv_rd rfl) (re_lift op_atL))))) fun c51 => (re_bindP (rv_var rfl) (re_lift op_atT)))) fun c52 => (re_bindP (rv_rdO rfl) (re_rv (w := eB) (rv_lift (ninL_ (in_fl (x := c52) (xs := a48) fl_I).1))))))) fun c53 => (rs_ite (fun _ => (rs_x (x_appG (e := eI) (xs := a48) rfl (re_dOp2 (re_bindG (re_dOp2n (re_bindP (rv_rd rfl) (re_bindG (re_dOp2n (re_bindP (rv_rdO rfl) (re_bindP (rv_var rfl) (re_bindP (rv_rdO rfl) (re_lift op_atL))))) fun c54 => (re_bindP (rv_rd rfl) (re_lift op_atL))))) fun c55 => (re_bindP (rv_var rfl) (re_lift op_atT)))) rfl) fun c56 => rs_st ([.sh ((eL (eT eI)) table), .sh ((eT eI) generators), .ow (List.map eI c56), .sh (eI x32), .sh (eI x47)]) rfl (rs_end ⟨rfl, (some (eI x47)), rfl⟩))) (fun _ => (rs_nx (rs_end ⟨rfl, (some (eI x47)), rfl⟩))))))⟩) (fun | a58, _, ⟨j59, rfl⟩ => (rs_end ⟨rfl, (some (eI x32)), j59, rfl⟩))))) (fun _ => (rs_nx (rs_end ⟨rfl, (some (eI x32)), j35, rfl⟩))))))⟩) (fun | a62, _, ⟨j63, j64, rfl⟩ => (rs_last (rs_bindP (rv_frz rfl) (rs_ret (.inl rfl))))))))))
def P__law_least (table : (List (List Int))) : M (Option (List (List Int))) := M.bind (pRng 4) fun c1 => M.bind (pfold (fun (x48 : Int) (a49 : (Option (List (List Int)))) => if a49.isNone = true then M.bind (P__law_rows_of (table.length : Int) x48) fun c55 => M.bind (pfold (fun (x71 : (List Int)) (a72 : (Option (List (List Int)))) => M.bind (P__law_listed table x71) fun c76 => if ((decide ((c76.length : Int) = (table.length : Int))) && (!has 0 x71)) = true then M.bind (pMap (fun (x77 : Int) => pMap (fun (x78 : Int) => M.bind (M.bind (pAt table x77) fun c79 => pAt c79 x78) fun c80 => pIndex c76 c80) c76) c76) fun c83 => M.bind (if a72.isNone = true then .ok true else M.bind (oM a72) fun c84 => .ok (tabLt c83 c84)) fun c85 => if c85 = true then .ok (some c83) else .ok a72 else .ok a72) c55 a49) fun (a86 : (Option (List (List Int)))) => .ok a86 else .ok a49) c1 none) fun (a94 : (Option (List (List Int)))) => .ok a94
theorem S__law_least (table : (List (List Int))) : DM (d__law_least [(eL (eT eI)) table]) (P__law_least table) (eO (eT (eT eI))) := fn_F rfl (show RS true (sSeq (sSet 1 (dOp1n opLen 0)) (sSeq (sSet 2 (dC .non)) (sSeq (sFor (.nm 3) (dRng (dC (.int 4))) (sIf (dTst (dOp2 opIs (dVar 2) (dC .non))) (sFor (.nm 4) (dItems (dCall d__law_rows_of (dCons (dVar 1) (dCons (dVar 3) dNil)))) (sSeq (sSet 5 (dCall d__law_listed (dCons (dVar 0) (dCons (dVar 4) dNil)))) (sIf (dAnd (dTst (dOp2 opEq (dOp1n opLen 5) (dVar 1))) (dTst (dOp2m opNotIn (dC (.int 0)) 4))) (sSeq (sSet 6 (dOp1 opTuple (dFrz (dComp [7] (.nm 7) (dItems (dVar 5)) dYes (dOp1 opTuple (dFrz (dComp [8] (.nm 8) (dItems (dVar 5)) dYes (dIndexAN 5 (dOp2 opIx (dOp2n opIx 0 (dVar 7)) (dVar 8)))))))))) (sIf (dOr (dTst (dOp2 opIs (dVar 2) (dC .non))) (dTst (dOp2 opLtP (dVar 6) (dVar 2)))) (sSet 2 (dVar 6)) sPass)) sPass))) sPass)) (sRet (dVar 2))))) [.sh ((eL (eT eI)) table), .no, .no, .no, .no, .no, .no, .no, .no] (P__law_least table) (Kfn (eO (eT (eT eI)))) from
  (rs_bindP (rv_dOp1n (rv_bind (rv_rd rfl) (rv_lift op_lenL))) (rs_put (st1 := [.sh ((eL (eT eI)) table), .sh (eI (table.length : Int)), .no, .no, .no, .no, .no, .no, .no]) rfl (rs_bindP (rv_eq rv_ret rfl) (rs_put (st1 := [.sh ((eL (eT eI)) table), .sh (eI (table.length : Int)), .sh ((eO (eT (eT eI))) none), .no, .no, .no, .no, .no, .no]) rfl (rs_bindG (re_dRng (re_bindP rv_ret (re_lift op_rng))) fun c1 => (rs_for0 (e := eI) (xs := c1) (a := none) (f := fun (x48 : Int) (a49 : (Option (List (List Int)))) => if a49.isNone = true then M.bind (P__law_rows_of (table.length : Int) x48) fun c55 => M.bind (pfold (fun (x71 : (List Int)) (a72 : (Option (List (List Int)))) => M.bind (P__law_listed table x71) fun c76 => if ((decide ((c76.length : Int) = (table.length : Int))) && (!has 0 x71)) = true then M.bind (pMap (fun (x77 : Int) => pMap (fun (x78 : Int) => M.bind (M.bind (pAt table x77) fun c79 => pAt c79 x78) fun c80 => pIndex c76 c80) c76) c76) fun c83 => M.bind (if a72.isNone = true then .ok true else M.bind (oM a72) fun c84 => .ok (tabLt c83 c84)) fun c85 => if c85 = true then .ok (some c83) else .ok a72 else .ok a72) c55 a49) fun (a86 : (Option (List (List Int)))) => .ok a86 else .ok a49) (fun (a99 : (Option (List (List Int)))) (st : DSt) => ∃ (j100 : (Option D)), ∃ (j101 : (Option D)), ∃ (j102 : (Option D)), ∃ (j103 : (Option D)), st = [.sh ((eL (eT eI)) table), .sh (eI (table.length : Int)), .sh ((eO (eT (eT eI))) a99), jk j100, jk j101, jk j102, jk j103, .no, .no]) ⟨none, none, none, none, rfl⟩ (fun | x48, a49, _, ⟨j50, j51, j52, j53, rfl⟩ => ⟨[.sh ((eL (eT eI)) table), .sh (eI (table.length : Int)), .sh ((eO (eT (eT eI))) a49), .sh (eI x48), jk j51, jk j52, jk j53, .no, .no], rfl, (rs_last (rs_bindP (rv_tst (rv_dOp2 (rv_bind (rv_var rfl) (rv_bind rv_ret (rv_lift (by cases a49 <;> rfl)))))) (rs_ite (fun _ => (rs_bindG (re_dItems (re_tail (w := (List.map (eT eI))) (re_dCall (re_consP (rv_var rfl) (re_consP (rv_var rfl) (re_nil (re_liftM (S__law_rows_of (table.length : Int) x48)))))) fun c54 => (rv_lift (y := ((List.map (eT eI)) c54)) rfl))) fun c55 => (rs_for0 (e := (eT eI)) (xs := c55) (a := a49) (f := fun (x71 : (List Int)) (a72 : (Option (List (List Int)))) => M.bind (P__law_listed table x71) fun c76 => if ((decide ((c76.length : Int) = (table.length : Int))) && (!has 0 x71)) = true then M.bind (pMap (fun (x77 : Int) => pMap (fun (x78 : Int) => M.bind (M.bind (pAt table x77) fun c79 => pAt c79 x78) fun c80 => pIndex c76 c80) c76) c76) fun c83 => M.bind (if a72.isNone = true then .ok true else M.bind (oM a72) fun c84 => .ok (tabLt c83 c84)) fun c85 => if c85 = true then .ok (some c83) else .ok a72 else .ok a72) (fun (a90 : (Option (List (List Int)))) (st : DSt) => ∃ (j91 : (Option D)), ∃ (j92 : (Option D)), ∃ (j93 : (Option D)), st = [.sh ((eL (eT eI)) table), .sh (eI (table.length : Int)), .sh ((eO (eT (eT eI))) a90), .sh (eI x48), jk j91, jk j92, jk j93, .no, .no]) ⟨j51, j52, j53, rfl⟩ (fun | x71, a72, _, ⟨j73, j74, j75, rfl⟩ => ⟨[.sh ((eL (eT eI)) table), .sh (eI (table.length : Int)), .sh ((eO (eT (eT eI))) a72), .sh (eI x48), .sh ((eT eI) x71), jk j74, jk j75, .no, .no], rfl, (rs_bindG (re_dCall (re_consP (rv_var rfl) (re_consP (rv_var rfl) (re_nil (re_liftM (S__law_listed table x71)))))) fun c76 => (rs_put (st1 := [.sh ((eL (eT eI)) table), .sh (eI (table.length : Int)), .sh ((eO (eT (eT eI))) a72), .sh (eI x48), .sh ((eT eI) x71), .sh ((eL eI) c76), jk j75, .no, .no]) rfl (rs_last (rs_bindP (rv_dAnd (rv_bind (rv_tst (rv_dOp2 (rv_bind (rv_dOp1n (rv_bind (rv_rd rfl) (rv_lift op_lenL))) (rv_bind (rv_var rfl) (rv_lift (eq_py pyI (x := (c76.length : Int)) (y := (table.length : Int)))))))) (rv_and fun _ => (rv_tst (rv_dOp2m (rv_bind rv_ret (rv_bind (rv_rd rfl) (rv_lift (ninL_ (in_fl (x := 0) (xs := x71) fl_I).2))))))))) (rs_ite (fun _ => (rs_seq (rs_bindG (re_dOp1 (re_tail (w := (eT (eT eI))) (re_frzN (re_bindP (rv_dItems (rv_bind (rv_var rfl) (rv_lift (y := ((List.map eI) c76)) rfl))) (re_compM (e := eI) (f := fun (x77 : Int) => pMap (fun (x78 : Int) => M.bind (M.bind (pAt table x77) fun c79 => pAt c79 x78) fun c80 => pIndex c76 c80) c76) ([.sh ((eL (eT eI)) table), .sh (eI (table.length : Int)), .sh ((eO (eT (eT eI))) a72), .sh (eI x48), .sh ((eT eI) x71), .sh ((eL eI) c76), jk j75, .no, .no]) rfl rfl rfl (fun x77 => ⟨[.sh ((eL (eT eI)) table), .sh (eI (table.length : Int)), .sh ((eO (eT (eT eI))) a72), .sh (eI x48), .sh ((eT eI) x71), .sh ((eL eI) c76), jk j75, .sh (eI x77), .no], [.sh ((eL (eT eI)) table), .sh (eI (table.length : Int)), .sh ((eO (eT (eT eI))) a72), .sh (eI x48), .sh ((eT eI) x71), .sh ((eL eI) c76), jk j75, .sh (eI x77), .no], rfl, (re_dOp1 (re_tail (w := (eT eI)) (re_frzN (re_bindP (rv_dItems (rv_bind (rv_var rfl) (rv_lift (y := ((List.map eI) c76)) rfl))) (re_compM (e := eI) (f := fun (x78 : Int) => M.bind (M.bind (pAt table x77) fun c79 => pAt c79 x78) fun c80 => pIndex c76 c80) ([.sh ((eL (eT eI)) table), .sh (eI (table.length : Int)), .sh ((eO (eT (eT eI))) a72), .sh (eI x48), .sh ((eT eI) x71), .sh ((eL eI) c76), jk j75, .sh (eI x77), .no]) rfl rfl rfl (fun x78 => ⟨[.sh ((eL (eT eI)) table), .sh (eI (table.length : Int)), .sh ((eO (eT (eT eI))) a72), .sh (eI x48), .sh ((eT eI) x71), .sh ((eL eI) c76), jk j75, .sh (eI x77), .sh (eI x78)], [.sh ((eL (eT eI)) table), .sh (eI (table.length : Int)), .sh ((eO (eT (eT eI))) a72), .sh (eI x48), .sh ((eT eI) x71), .sh ((eL eI) c76), jk j75, .sh (eI x77), .sh (eI x78)], rfl, (re_dIndexAN (re_bindP (rv_rd rfl) (re_bindP (rv_lift rfl) (re_bindG (re_dOp2 (re_bindG (re_dOp2n (re_bindP (rv_rd rfl) (re_bindP (rv_var rfl) (re_bindP (rv_rd rfl) (re_lift op_atL))))) fun c79 => (re_bindP (rv_var rfl) (re_lift op_atT)))) fun c80 => (re_bindP (rv_rd rfl) (re_lift (indexA_L (ks := c76) (index_fl (x := c80) (xs := c76) fl_I)))))))), rfl, rfl⟩)))) fun c81 => (rv_lift (y := ((eT eI) c81)) rfl))), rfl, rfl⟩)))) fun c82 => (rv_lift (y := ((eT (eT eI)) c82)) rfl))) fun c83 => (rs_put (st1 := [.sh ((eL (eT eI)) table), .sh (eI (table.length : Int)), .sh ((eO (eT (eT eI))) a72), .sh (eI x48), .sh ((eT eI) x71), .sh ((eL eI) c76), .sh ((eT (eT eI)) c83), .no, .no]) rfl (rs_bindG (re_dOr (re_bindP (rv_tst (rv_dOp2 (rv_bind (rv_var rfl) (rv_bind rv_ret (rv_lift (by cases a72 <;> rfl)))))) (re_ite (fun _ => re_rv rv_ret) (fun _ => (re_tst (re_dOp2 (re_bindP (rv_var rfl) (re_bindG (re_get (rv_var rfl)) fun c84 => (re_rv (w := eB) (rv_lift op_ltPT)))))))))) fun c85 => (rs_ite (fun _ => (rs_bindP (rv_eq (rv_var rfl) rfl) (rs_put (st1 := [.sh ((eL (eT eI)) table), .sh (eI (table.length : Int)), .sh ((eO (eT (eT eI))) (some c83)), .sh (eI x48), .sh ((eT eI) x71), .sh ((eL eI) c76), .sh ((eT (eT eI)) c83), .no, .no]) rfl (rs_end ⟨rfl, (some ((eT eI) x71)), (some ((eL eI) c76)), (some ((eT (eT eI)) c83)), rfl⟩)))) (fun _ => (rs_nx (rs_end ⟨rfl, (some ((eT eI) x71)), (some ((eL eI) c76)), (some ((eT (eT eI)) c83)), rfl⟩))))))))) (fun _ => (rs_nx (rs_end ⟨rfl, (some ((eT eI) x71)), (some ((eL eI) c76)), j75, rfl⟩))))))))⟩) (fun | a86, _, ⟨j87, j88, j89, rfl⟩ => (rs_end ⟨rfl, (some (eI x48)), j87, j88, j89, rfl⟩))))) (fun _ => (rs_nx (rs_end ⟨rfl, (some (eI x48)), j51, j52, j53, rfl⟩))))))⟩) (fun | a94, _, ⟨j95, j96, j97, j98, rfl⟩ => (rs_last (rs_bindP (rv_var rfl) (rs_ret (.inl rfl))))))))))))
def P_tuples_of (n : Int) (size : Int) : M (List (List Int)) := M.bind (pRng size) fun c1 => M.bind (pfold (fun (x14 : Int) (a15 : (List (List Int))) => M.bind (pFilB (fun (x17 : (List Int)) => .ok true) (fun (x17 : (List Int)) => pRng2 1 n) (fun (x17 : (List Int)) (y18 : Int) => .ok true) (fun (x17 : (List Int)) (y18 : Int) => pCat x17 [y18]) a15) fun c19 => .ok c19) c1 [[]]) fun (a20 : (List (List Int))) => .ok a20
theorem S_tuples_of (n : Int) (size : Int) : DM (d_tuples_of [eI n, eI size]) (P_tuples_of n size) (eL (eT eI)) := fn_F rfl (show RS true (sSeq (sOwn 2 (dLst (dCons (dTup dNil) dNil))) (sSeq (sFor (.nm 3) (dRng (dVar 1)) (sOwn 2 (dCompB [4, 5] [5] (.nm 4) (dItems (dVar 2)) dYes (.nm 5) (dRng2 (dC (.int 1)) (dVar 0)) dYes (dOp2 opAdd (dVar 4) (dTup (dCons (dVar 5) dNil)))))) (sRet (dVar 2)))) [.sh (eI n), .sh (eI size), .no, .no, .no, .no] (P_tuples_of n size) (Kfn (eL (eT eI))) from
  (rs_bindP (rv_dLst (rv_cons (rv_dTup (rv_nil (rv_lift (y := ((eT eI) [])) (op_tup (by exact Nat.le_of_ble_eq_true rfl) rfl)))) (rv_nil (rv_lift (y := ((List.map (eT eI)) [[]])) (op_lst (by exact Nat.le_of_ble_eq_true rfl) rfl))))) (rs_put (st1 := [.sh (eI n), .sh (eI size), .ow (List.map (eT eI) [[]]), .no, .no, .no]) rfl (rs_bindG (re_dRng (re_bindP (rv_var rfl) (re_lift op_rng))) fun c1 => (rs_for0 (e := eI) (xs := c1) (a := [[]]) (f := fun (x14 : Int) (a15 : (List (List Int))) => M.bind (pFilB (fun (x17 : (List Int)) => .ok true) (fun (x17 : (List Int)) => pRng2 1 n) (fun (x17 : (List Int)) (y18 : Int) => .ok true) (fun (x17 : (List Int)) (y18 : Int) => pCat x17 [y18]) a15) fun c19 => .ok c19) (fun (a22 : (List (List Int))) (st : DSt) => ∃ (j23 : (Option D)), st = [.sh (eI n), .sh (eI size), .ow (List.map (eT eI) a22), jk j23, .no, .no]) ⟨none, rfl⟩ (fun | x14, a15, _, ⟨j16, rfl⟩ => ⟨[.sh (eI n), .sh (eI size), .ow (List.map (eT eI) a15), .sh (eI x14), .no, .no], rfl, (rs_last (rs_bindG (re_bindP (rv_dItems (rv_bind (rv_frz rfl) (rv_lift (y := ((List.map (eT eI)) a15)) rfl))) (re_compB (e := (eT eI)) (e1 := eI) (p := fun (x17 : (List Int)) => .ok true) (g := fun (x17 : (List Int)) => pRng2 1 n) (q := fun (x17 : (List Int)) (y18 : Int) => .ok true) (f := fun (x17 : (List Int)) (y18 : Int) => pCat x17 [y18]) ([.sh (eI n), .sh (eI size), .sh ((eL (eT eI)) a15), .sh (eI x14), .no, .no]) rfl rfl rfl (fun x17 => ⟨[.sh (eI n), .sh (eI size), .sh ((eL (eT eI)) a15), .sh (eI x14), .sh ((eT eI) x17), .no], [.sh (eI n), .sh (eI size), .sh ((eL (eT eI)) a15), .sh (eI x14), .sh ((eT eI) x17), .no], [.sh (eI n), .sh (eI size), .sh ((eL (eT eI)) a15), .sh (eI x14), .sh ((eT eI) x17), .no], [.sh (eI n), .sh (eI size), .sh ((eL (eT eI)) a15), .sh (eI x14), .sh ((eT eI) x17), .no], rfl, (re_rv rv_ret), (re_dRng2 (re_bindP rv_ret (re_bindP (rv_var rfl) (re_lift op_rng2)))), rfl, rfl, rfl, (fun y18 => ⟨[.sh (eI n), .sh (eI size), .sh ((eL (eT eI)) a15), .sh (eI x14), .sh ((eT eI) x17), .sh (eI y18)], [.sh (eI n), .sh (eI size), .sh ((eL (eT eI)) a15), .sh (eI x14), .sh ((eT eI) x17), .sh (eI y18)], [.sh (eI n), .sh (eI size), .sh ((eL (eT eI)) a15), .sh (eI x14), .sh ((eT eI) x17), .sh (eI y18)], rfl, (re_rv rv_ret), (re_dOp2 (re_bindP (rv_var rfl) (re_bindP (rv_dTup (rv_cons (rv_var rfl) (rv_nil (rv_lift (y := ((eT eI) [y18])) (op_tup (by exact Nat.le_of_ble_eq_true rfl) rfl))))) (re_lift (op_catT (e := eI) (xs := x17) (ys := [y18])))))), rfl, rfl⟩)⟩))) fun c19 => (rs_put (st1 := [.sh (eI n), .sh (eI size), .ow (List.map (eT eI) c19), .sh (eI x14), .no, .no]) rfl (rs_end ⟨rfl, (some (eI x14)), rfl⟩))))⟩) (fun | a20, _, ⟨j21, rfl⟩ => (rs_last (rs_bindP (rv_frz rfl) (rs_ret (.inl rfl))))))))))
def P_enumerated (table : (List (List Int))) (generators : (List Int)) : M (Option (List Int)) := M.bind (pwhile (fun (a26 : ((List Int) × Int)) => .ok (decide (a26.2 < (a26.1.length : Int)))) (fun (a26 : ((List Int) × Int)) => M.bind (pfold (fun (x37 : Int) (a38 : (List Int)) => M.bind (M.bind (M.bind (pAt a38 a26.2) fun c41 => pAt table c41) fun c42 => pAt c42 x37) fun c43 => if (!has c43 a38) = true then M.bind (pApp a38 c43) fun c44 => .ok c44 else .ok a38) generators a26.1) fun (a45 : (List Int)) => .ok (a45, (a26.2 + 1))) fuel ([0], 0)) fun (a51 : ((List Int) × Int)) => if (decide ((a51.1.length : Int) < (table.length : Int))) = true then .ok none else .ok (some a51.1)
theorem S_enumerated (table : (List (List Int))) (generators : (List Int)) : DM (d_enumerated [(eL (eT eI)) table, (eT eI) generators]) (P_enumerated table generators) (eO (eT eI)) := fn_F rfl (show RS true (sSeq (sOwn 2 (dLst (dCons (dC (.int 0)) dNil))) (sSeq (sSet 3 (dC (.int 0))) (sSeq (sWhile (dTst (dOp2 opLt (dVar 3) (dOp1n opLen 2))) (sSeq (sFor (.nm 4) (dItems (dVar 1)) (sSeq (sSet 5 (dOp2 opIx (dOp2n opIx 0 (dOp2n opIx 2 (dVar 3))) (dVar 4))) (sIf (dTst (dOp2m opNotIn (dVar 5) 2)) (sExpr (dAppend 2 (dVar 5))) sPass))) (sSet 3 (dOp2 opAdd (dVar 3) (dC (.int 1))))) fuel) (sSeq (sIf (dTst (dOp2 opLt (dOp1n opLen 2) (dOp1n opLen 0))) (sRet (dC .non)) sPass) (sRet (dOp1n opTuple 2)))))) [.sh ((eL (eT eI)) table), .sh ((eT eI) generators), .no, .no, .no, .no] (P_enumerated table generators) (Kfn (eO (eT eI))) from
  (rs_bindP (rv_dLst (rv_cons rv_ret (rv_nil (rv_lift (y := ((List.map eI) [0])) (op_lst (by exact Nat.le_of_ble_eq_true rfl) rfl))))) (rs_put (st1 := [.sh ((eL (eT eI)) table), .sh ((eT eI) generators), .ow (List.map eI [0]), .no, .no, .no]) rfl (rs_bindP rv_ret (rs_put (st1 := [.sh ((eL (eT eI)) table), .sh ((eT eI) generators), .ow (List.map eI [0]), .sh (eI 0), .no, .no]) rfl (rs_while0 (a := ([0], 0)) (fun (a54 : ((List Int) × Int)) (st : DSt) => ∃ (j55 : (Option D)), ∃ (j56 : (Option D)), st = [.sh ((eL (eT eI)) table), .sh ((eT eI) generators), .ow (List.map eI a54.1), .sh (eI a54.2), jk j55, jk j56]) ⟨none, none, rfl⟩ (fun | a26, _, ⟨j27, j28, rfl⟩ => (re_rv (w := (fun b : Bool => b)) (rv_tst (rv_dOp2 (rv_bind (rv_var rfl) (rv_bind (rv_dOp1n (rv_bind (rv_rdO rfl) (rv_lift op_lenL))) (rv_lift (y := (eB (decide (a26.2 < (a26.1.length : Int))))) rfl))))))) (fun | a26, _, ⟨j27, j28, rfl⟩ => (rs_bindP (rv_dItems (rv_bind (rv_var rfl) (rv_lift (y := ((List.map eI) generators)) rfl))) (rs_for0 (e := eI) (xs := generators) (a := a26.1) (f := fun (x37 : Int) (a38 : (List Int)) => M.bind (M.bind (M.bind (pAt a38 a26.2) fun c41 => pAt table c41) fun c42 => pAt c42 x37) fun c43 => if (!has c43 a38) = true then M.bind (pApp a38 c43) fun c44 => .ok c44 else .ok a38) (fun (a48 : (List Int)) (st : DSt) => ∃ (j49 : (Option D)), ∃ (j50 : (Option D)), st = [.sh ((eL (eT eI)) table), .sh ((eT eI) generators), .ow (List.map eI a48), .sh (eI a26.2), jk j49, jk j50]) ⟨j27, j28, rfl⟩ (fun | x37, a38, _, ⟨j39, j40, rfl⟩ => ⟨[.sh ((eL (eT eI)) table), .sh ((eT eI) generators), .ow (List.map eI a38), .sh (eI a26.2), .sh (eI x37), jk j40], rfl, (rs_bindG (re_dOp2 (re_bindG (re_dOp2n (re_bindP (rv_rd rfl) (re_bindG (re_dOp2n (re_bindP (rv_rdO rfl) (re_bindP (rv_var rfl) (re_bindP (rv_rdO rfl) (re_lift op_atL))))) fun c41 => (re_bindP (rv_rd rfl) (re_lift op_atL))))) fun c42 => (re_bindP (rv_var rfl) (re_lift op_atT)))) fun c43 => (rs_put (st1 := [.sh ((eL (eT eI)) table), .sh ((eT eI) generators), .ow (List.map eI a38), .sh (eI a26.2), .sh (eI x37), .sh (eI c43)]) rfl (rs_last (rs_bindP (rv_tst (rv_dOp2m (rv_bind (rv_var rfl) (rv_bind (rv_rdO rfl) (rv_lift (ninL_ (in_fl (x := c43) (xs := a38) fl_I).1)))))) (rs_ite (fun _ => (rs_x (x_appP (e := eI) (xs := a38) rfl (rv_var rfl) rfl) fun c44 => rs_st ([.sh ((eL (eT eI)) table), .sh ((eT eI) generators), .ow (List.map eI c44), .sh (eI a26.2), .sh (eI x37), .sh (eI c43)]) rfl (rs_end ⟨rfl, (some (eI x37)), (some (eI c43)), rfl⟩))) (fun _ => (rs_nx (rs_end ⟨rfl, (some (eI x37)), (some (eI c43)), rfl⟩))))))))⟩) (fun | a45, _, ⟨j46, j47, rfl⟩ => (rs_last (rs_bindP (rv_dOp2 (rv_bind (rv_var rfl) (rv_bind rv_ret (rv_lift (y := (eI (a26.2 + 1))) rfl)))) (rs_put (st1 := [.sh ((eL (eT eI)) table), .sh ((eT eI) generators), .ow (List.map eI a45), .sh (eI (a26.2 + 1)), jk j46, jk j47]) rfl (rs_end ⟨rfl, j46, j47, rfl⟩)))))))) (fun | a51, _, ⟨j52, j53, rfl⟩ => (rs_bindP (rv_tst (rv_dOp2 (rv_bind (rv_dOp1n (rv_bind (rv_rdO rfl) (rv_lift op_lenL))) (rv_bind (rv_dOp1n (rv_bind (rv_rd rfl) (rv_lift op_lenL))) (rv_lift (y := (eB (decide ((a51.1.length : Int) < (table.length : Int))))) rfl))))) (rs_ite (fun _ => (rs_bindP (rv_eq rv_ret rfl) (rs_ret (.inl rfl)))) (fun _ => (rs_nx (rs_last (rs_bindP (rv_eq (rv_dOp1n (rv_bind (rv_rdO rfl) (rv_lift (y := ((eT eI) a51.1)) rfl))) rfl) (rs_ret (.inl rfl)))))))))))))))
def P_orders_of (table : (List (List Int))) : M (List (List Int)) := M.bind (pwhileF (fun (a19 : Int) => .ok (decide (a19 ≤ (table.length : Int)))) (fun (a19 : Int) => M.bind (M.bind (P_tuples_of (table.length : Int) a19) fun c23 => pMap (fun (x24 : (List Int)) => P_enumerated table x24) c23) fun c25 => M.bind (pFil (fun (x26 : (Option (List Int))) => .ok x26.isSome) (fun (x26 : (Option (List Int))) => oM x26) c25) fun c27 => if (decide ((c27.length : Int) > 0)) = true then .ok (.ret c27) else .ok (.nx (a19 + 1))) fuel 0) fun r => pK r (fun (a28 : Int) => .ok []) (fun q => q)
theorem S_orders_of (table : (List (List Int))) : DM (d_orders_of [(eL (eT eI)) table]) (P_orders_of table) (eL (eT eI)) := fn_F rfl (show RS true (sSeq (sSet 1 (dC (.int 0))) (sSeq (sWhile (dTst (dOp2 opLe (dVar 1) (dOp1n opLen 0))) (sSeq (sOwn 2 (dComp [4] (.nm 4) (dItems (dCall d_tuples_of (dCons (dOp1n opLen 0) (dCons (dVar 1) dNil)))) dYes (dCall d_enumerated (dCons (dVar 0) (dCons (dVar 4) dNil))))) (sSeq (sOwn 3 (dComp [5] (.nm 5) (dItems (dVar 2)) (dTst (dOp2 opIsNot (dVar 5) (dC .non))) (dVar 5))) (sSeq (sIf (dTst (dOp2 opGt (dOp1n opLen 3) (dC (.int 0)))) (sRet (dVar 3)) sPass) (sSet 1 (dOp2 opAdd (dVar 1) (dC (.int 1))))))) fuel) (sRet (dFrz (dLst dNil))))) [.sh ((eL (eT eI)) table), .no, .no, .no, .no, .no] (P_orders_of table) (Kfn (eL (eT eI))) from
  (rs_bindP rv_ret (rs_put (st1 := [.sh ((eL (eT eI)) table), .sh (eI 0), .no, .no, .no, .no]) rfl (rs_while1 (a := 0) (h := (fun q => q)) (fun (a31 : Int) (st : DSt) => ∃ (j32 : (Option D)), ∃ (j33 : Slot), st = [.sh ((eL (eT eI)) table), .sh (eI a31), jk j32, j33, .no, .no]) ⟨none, (.no), rfl⟩ (fun | a19, _, ⟨j20, j21, rfl⟩ => (re_rv (w := (fun b : Bool => b)) (rv_tst (rv_dOp2 (rv_bind (rv_var rfl) (rv_bind (rv_dOp1n (rv_bind (rv_rd rfl) (rv_lift op_lenL))) (rv_lift (y := (eB (decide (a19 ≤ (table.length : Int))))) rfl))))))) (fun | a19, _, ⟨j20, j21, rfl⟩ => (rs_bindG (re_bindG (re_dItems (re_tail (w := (List.map (eT eI))) (re_dCall (re_consP (rv_dOp1n (rv_bind (rv_rd rfl) (rv_lift op_lenL))) (re_consP (rv_var rfl) (re_nil (re_liftM (S_tuples_of (table.length : Int) a19)))))) fun c22 => (rv_lift (y := ((List.map (eT eI)) c22)) rfl))) fun c23 => (re_compM (e := (eT eI)) (f := fun (x24 : (List Int)) => P_enumerated table x24) ([.sh ((eL (eT eI)) table), .sh (eI a19), jk j20, j21, .no, .no]) rfl rfl rfl (fun x24 => ⟨[.sh ((eL (eT eI)) table), .sh (eI a19), jk j20, j21, .sh ((eT eI) x24), .no], [.sh ((eL (eT eI)) table), .sh (eI a19), jk j20, j21, .sh ((eT eI) x24), .no], rfl, (re_dCall (re_consP (rv_var rfl) (re_consP (rv_var rfl) (re_nil (re_liftM (S_enumerated table x24)))))), rfl, rfl⟩))) fun c25 => (rs_put (st1 := [.sh ((eL (eT eI)) table), .sh (eI a19), .ow (List.map (eO (eT eI)) c25), j21, .no, .no]) rfl (rs_bindG (re_bindP (rv_dItems (rv_bind (rv_frz rfl) (rv_lift (y := ((List.map (eO (eT eI))) c25)) rfl))) (re_compF (e := (eO (eT eI))) (p := fun (x26 : (Option (List Int))) => .ok x26.isSome) (f := fun (x26 : (Option (List Int))) => oM x26) ([.sh ((eL (eT eI)) table), .sh (eI a19), .sh ((eL (eO (eT eI))) c25), j21, .no, .no]) rfl rfl rfl (fun x26 => ⟨[.sh ((eL (eT eI)) table), .sh (eI a19), .sh ((eL (eO (eT eI))) c25), j21, .no, .sh ((eO (eT eI)) x26)], [.sh ((eL (eT eI)) table), .sh (eI a19), .sh ((eL (eO (eT eI))) c25), j21, .no, .sh ((eO (eT eI)) x26)], [.sh ((eL (eT eI)) table), .sh (eI a19), .sh ((eL (eO (eT eI))) c25), j21, .no, .sh ((eO (eT eI)) x26)], rfl, (re_rv (w := (fun b : Bool => b)) (rv_tst (rv_dOp2 (rv_bind (rv_var rfl) (rv_bind rv_ret (rv_lift (by cases x26 <;> rfl))))))), (re_get (rv_var rfl)), rfl, rfl⟩))) fun c27 => (rs_put (st1 := [.sh ((eL (eT eI)) table), .sh (eI a19), .sh ((eL (eO (eT eI))) c25), .ow (List.map (eT eI) c27), .no, .no]) rfl (rs_bindP (rv_tst (rv_dOp2 (rv_bind (rv_dOp1n (rv_bind (rv_rdO rfl) (rv_lift op_lenL))) (rv_bind rv_ret (rv_lift (y := (eB (decide ((c27.length : Int) > 0)))) rfl))))) (rs_ite (fun _ => (rs_bindP (rv_frz rfl) (rs_ret ⟨⟨_, rfl⟩, (.inl rfl)⟩))) (fun _ => (rs_nx (rs_last (rs_bindP (rv_dOp2 (rv_bind (rv_var rfl) (rv_bind rv_ret (rv_lift (y := (eI (a19 + 1))) rfl)))) (rs_put (st1 := [.sh ((eL (eT eI)) table), .sh (eI (a19 + 1)), .sh ((eL (eO (eT eI))) c25), .ow (List.map (eT eI) c27), .no, .no]) rfl (rs_end ⟨rfl, (some ((eL (eO (eT eI))) c25)), (.ow (List.map (eT eI) c27)), rfl⟩))))))))))))) (fun | a28, _, ⟨j29, j30, rfl⟩ => (rs_last (rs_bindP (rv_frzN (d := ((eL (eT eI)) [])) (rv_dLst (rv_nil (rv_lift (y := ((List.map (eT eI)) [])) (op_lst (by exact Nat.le_of_ble_eq_true rfl) rfl)))) rfl) (rs_ret (.inl rfl)))))))))
def P_renamed (table : (List (List Int))) (order : (List Int)) : M (List (List Int)) := M.bind (pMap (fun (x1 : Int) => pMap (fun (x2 : Int) => M.bind (M.bind (pAt table x1) fun c3 => pAt c3 x2) fun c4 => pIndex order c4) order) order) fun c7 => .ok c7
theorem S_renamed (table : (List (List Int))) (order : (List Int)) : DM (d_renamed [(eL (eT eI)) table, (eT eI) order]) (P_renamed table order) (eT (eT eI)) := fn_F rfl (show RS true (sSeq (sOwn 2 (dN1n nList 1)) (sRet (dOp1 opTuple (dFrz (dComp [3] (.nm 3) (dItems (dVar 1)) dYes (dOp1 opTuple (dFrz (dComp [4] (.nm 4) (dItems (dVar 1)) dYes (dIndexAN 2 (dOp2 opIx (dOp2n opIx 0 (dVar 3)) (dVar 4))))))))))) [.sh ((eL (eT eI)) table), .sh ((eT eI) order), .no, .no, .no] (P_renamed table order) (Kfn (eT (eT eI))) from
  (rs_bindP (rv_dN1n (rv_bind (rv_rd rfl) (rv_lift (y := ((List.map eI) order)) rfl))) (rs_put (st1 := [.sh ((eL (eT eI)) table), .sh ((eT eI) order), .ow (List.map eI order), .no, .no]) rfl (rs_last (rs_bindG (re_dOp1 (re_tail (w := (eT (eT eI))) (re_frzN (re_bindP (rv_dItems (rv_bind (rv_var rfl) (rv_lift (y := ((List.map eI) order)) rfl))) (re_compM (e := eI) (f := fun (x1 : Int) => pMap (fun (x2 : Int) => M.bind (M.bind (pAt table x1) fun c3 => pAt c3 x2) fun c4 => pIndex order c4) order) ([.sh ((eL (eT eI)) table), .sh ((eT eI) order), .ow (List.map eI order), .no, .no]) rfl rfl rfl (fun x1 => ⟨[.sh ((eL (eT eI)) table), .sh ((eT eI) order), .ow (List.map eI order), .sh (eI x1), .no], [.sh ((eL (eT eI)) table), .sh ((eT eI) order), .ow (List.map eI order), .sh (eI x1), .no], rfl, (re_dOp1 (re_tail (w := (eT eI)) (re_frzN (re_bindP (rv_dItems (rv_bind (rv_var rfl) (rv_lift (y := ((List.map eI) order)) rfl))) (re_compM (e := eI) (f := fun (x2 : Int) => M.bind (M.bind (pAt table x1) fun c3 => pAt c3 x2) fun c4 => pIndex order c4) ([.sh ((eL (eT eI)) table), .sh ((eT eI) order), .ow (List.map eI order), .sh (eI x1), .no]) rfl rfl rfl (fun x2 => ⟨[.sh ((eL (eT eI)) table), .sh ((eT eI) order), .ow (List.map eI order), .sh (eI x1), .sh (eI x2)], [.sh ((eL (eT eI)) table), .sh ((eT eI) order), .ow (List.map eI order), .sh (eI x1), .sh (eI x2)], rfl, (re_dIndexAN (re_bindP (rv_rdO rfl) (re_bindP (rv_lift rfl) (re_bindG (re_dOp2 (re_bindG (re_dOp2n (re_bindP (rv_rd rfl) (re_bindP (rv_var rfl) (re_bindP (rv_rd rfl) (re_lift op_atL))))) fun c3 => (re_bindP (rv_var rfl) (re_lift op_atT)))) fun c4 => (re_bindP (rv_rdO rfl) (re_lift (indexA_L (ks := order) (index_fl (x := c4) (xs := order) fl_I)))))))), rfl, rfl⟩)))) fun c5 => (rv_lift (y := ((eT eI) c5)) rfl))), rfl, rfl⟩)))) fun c6 => (rv_lift (y := ((eT (eT eI)) c6)) rfl))) fun c7 => (rs_ret (.inl rfl)))))))
def P_group_form (table : (List (List Int))) : M (List (List Int)) := M.bind (M.bind (M.bind (P_orders_of table) fun c2 => pMap (fun (x3 : (List Int)) => P_renamed table x3) c2) fun c4 => pMinT c4) fun c5 => .ok c5
theorem S_group_form (table : (List (List Int))) : DM (d_group_form [(eL (eT eI)) table]) (P_group_form table) (eT (eT eI)) := fn_F rfl (show RS true (sRet (dOp1 opMinP (dFrz (dComp [1] (.nm 1) (dItems (dCall d_orders_of (dCons (dVar 0) dNil))) dYes (dCall d_renamed (dCons (dVar 0) (dCons (dVar 1) dNil))))))) [.sh ((eL (eT eI)) table), .no] (P_group_form table) (Kfn (eT (eT eI))) from
  (rs_last (rs_bindG (re_dOp1 (re_bindG (re_frzN (re_bindG (re_dItems (re_tail (w := (List.map (eT eI))) (re_dCall (re_consP (rv_var rfl) (re_nil (re_liftM (S_orders_of table))))) fun c1 => (rv_lift (y := ((List.map (eT eI)) c1)) rfl))) fun c2 => (re_compM (e := (eT eI)) (f := fun (x3 : (List Int)) => P_renamed table x3) ([.sh ((eL (eT eI)) table), .no]) rfl rfl rfl (fun x3 => ⟨[.sh ((eL (eT eI)) table), .sh ((eT eI) x3)], [.sh ((eL (eT eI)) table), .sh ((eT eI) x3)], rfl, (re_dCall (re_consP (rv_var rfl) (re_consP (rv_var rfl) (re_nil (re_liftM (S_renamed table x3)))))), rfl, rfl⟩)))) fun c4 => (re_lift op_minPT))) fun c5 => (rs_ret (.inl rfl)))))
def P_enumerated_2 (table : (List (List Int))) (generators : (List Int)) : M (Option (List Int)) := M.bind (pwhile (fun (a26 : ((List Int) × Int)) => .ok (decide (a26.2 < (a26.1.length : Int)))) (fun (a26 : ((List Int) × Int)) => M.bind (pfold (fun (x37 : Int) (a38 : (List Int)) => M.bind (M.bind (M.bind (pAt a38 a26.2) fun c41 => pAt table c41) fun c42 => pAt c42 x37) fun c43 => if (!has c43 a38) = true then M.bind (pApp a38 c43) fun c44 => .ok c44 else .ok a38) generators a26.1) fun (a45 : (List Int)) => .ok (a45, (a26.2 + 1))) fuel ([0], 0)) fun (a51 : ((List Int) × Int)) => if (decide ((a51.1.length : Int) < (table.length : Int))) = true then .ok none else .ok (some a51.1)
theorem S_enumerated_2 (table : (List (List Int))) (generators : (List Int)) : DM (d_enumerated [(eT (eL eI)) table, (eT eI) generators]) (P_enumerated_2 table generators) (eO (eT eI)) := fn_F rfl (show RS true (sSeq (sOwn 2 (dLst (dCons (dC (.int 0)) dNil))) (sSeq (sSet 3 (dC (.int 0))) (sSeq (sWhile (dTst (dOp2 opLt (dVar 3) (dOp1n opLen 2))) (sSeq (sFor (.nm 4) (dItems (dVar 1)) (sSeq (sSet 5 (dOp2 opIx (dOp2n opIx 0 (dOp2n opIx 2 (dVar 3))) (dVar 4))) (sIf (dTst (dOp2m opNotIn (dVar 5) 2)) (sExpr (dAppend 2 (dVar 5))) sPass))) (sSet 3 (dOp2 opAdd (dVar 3) (dC (.int 1))))) fuel) (sSeq (sIf (dTst (dOp2 opLt (dOp1n opLen 2) (dOp1n opLen 0))) (sRet (dC .non)) sPass) (sRet (dOp1n opTuple 2)))))) [.sh ((eT (eL eI)) table), .sh ((eT eI) generators), .no, .no, .no, .no] (P_enumerated_2 table generators) (Kfn (eO (eT eI))) from
  (rs_bindP (rv_dLst (rv_cons rv_ret (rv_nil (rv_lift (y := ((List.map eI) [0])) (op_lst (by exact Nat.le_of_ble_eq_true rfl) rfl))))) (rs_put (st1 := [.sh ((eT (eL eI)) table), .sh ((eT eI) generators), .ow (List.map eI [0]), .no, .no, .no]) rfl (rs_bindP rv_ret (rs_put (st1 := [.sh ((eT (eL eI)) table), .sh ((eT eI) generators), .ow (List.map eI [0]), .sh (eI 0), .no, .no]) rfl (rs_while0 (a := ([0], 0)) (fun (a54 : ((List Int) × Int)) (st : DSt) => ∃ (j55 : (Option D)), ∃ (j56 : (Option D)), st = [.sh ((eT (eL eI)) table), .sh ((eT eI) generators), .ow (List.map eI a54.1), .sh (eI a54.2), jk j55, jk j56]) ⟨none, none, rfl⟩ (fun | a26, _, ⟨j27, j28, rfl⟩ => (re_rv (w := (fun b : Bool => b)) (rv_tst (rv_dOp2 (rv_bind (rv_var rfl) (rv_bind (rv_dOp1n (rv_bind (rv_rdO rfl) (rv_lift op_lenL))) (rv_lift (y := (eB (decide (a26.2 < (a26.1.length : Int))))) rfl))))))) (fun | a26, _, ⟨j27, j28, rfl⟩ => (rs_bindP (rv_dItems (rv_bind (rv_var rfl) (rv_lift (y := ((List.map eI) generators)) rfl))) (rs_for0 (e := eI) (xs := generators) (a := a26.1) (f := fun (x37 : Int) (a38 : (List Int)) => M.bind (M.bind (M.bind (pAt a38 a26.2) fun c41 => pAt table c41) fun c42 => pAt c42 x37) fun c43 => if (!has c43 a38) = true then M.bind (pApp a38 c43) fun c44 => .ok c44 else .ok a38) (fun (a48 : (List Int)) (st : DSt) => ∃ (j49 : (Option D)), ∃ (j50 : (Option D)), st = [.sh ((eT (eL eI)) table), .sh ((eT eI) generators), .ow (List.map eI a48), .sh (eI a26.2), jk j49, jk j50]) ⟨j27, j28, rfl⟩ (fun | x37, a38, _, ⟨j39, j40, rfl⟩ => ⟨[.sh ((eT (eL eI)) table), .sh ((eT eI) generators), .ow (List.map eI a38), .sh (eI a26.2), .sh (eI x37), jk j40], rfl, (rs_bindG (re_dOp2 (re_bindG (re_dOp2n (re_bindP (rv_rd rfl) (re_bindG (re_dOp2n (re_bindP (rv_rdO rfl) (re_bindP (rv_var rfl) (re_bindP (rv_rdO rfl) (re_lift op_atL))))) fun c41 => (re_bindP (rv_rd rfl) (re_lift op_atT))))) fun c42 => (re_bindP (rv_var rfl) (re_lift op_atL)))) fun c43 => (rs_put (st1 := [.sh ((eT (eL eI)) table), .sh ((eT eI) generators), .ow (List.map eI a38), .sh (eI a26.2), .sh (eI x37), .sh (eI c43)]) rfl (rs_last (rs_bindP (rv_tst (rv_dOp2m (rv_bind (rv_var rfl) (rv_bind (rv_rdO rfl) (rv_lift (ninL_ (in_fl (x := c43) (xs := a38) fl_I).1)))))) (rs_ite (fun _ => (rs_x (x_appP (e := eI) (xs := a38) rfl (rv_var rfl) rfl) fun c44 => rs_st ([.sh ((eT (eL eI)) table), .sh ((eT eI) generators), .ow (List.map eI c44), .sh (eI a26.2), .sh (eI x37), .sh (eI c43)]) rfl (rs_end ⟨rfl, (some (eI x37)), (some (eI c43)), rfl⟩))) (fun _ => (rs_nx (rs_end ⟨rfl, (some (eI x37)), (some (eI c43)), rfl⟩))))))))⟩) (fun | a45, _, ⟨j46, j47, rfl⟩ => (rs_last (rs_bindP (rv_dOp2 (rv_bind (rv_var rfl) (rv_bind rv_ret (rv_lift (y := (eI (a26.2 + 1))) rfl)))) (rs_put (st1 := [.sh ((eT (eL eI)) table), .sh ((eT eI) generators), .ow (List.map eI a45), .sh (eI (a26.2 + 1)), jk j46, jk j47]) rfl (rs_end ⟨rfl, j46, j47, rfl⟩)))))))) (fun | a51, _, ⟨j52, j53, rfl⟩ => (rs_bindP (rv_tst (rv_dOp2 (rv_bind (rv_dOp1n (rv_bind (rv_rdO rfl) (rv_lift op_lenL))) (rv_bind (rv_dOp1n (rv_bind (rv_rd rfl) (rv_lift op_lenT))) (rv_lift (y := (eB (decide ((a51.1.length : Int) < (table.length : Int))))) rfl))))) (rs_ite (fun _ => (rs_bindP (rv_eq rv_ret rfl) (rs_ret (.inl rfl)))) (fun _ => (rs_nx (rs_last (rs_bindP (rv_eq (rv_dOp1n (rv_bind (rv_rdO rfl) (rv_lift (y := ((eT eI) a51.1)) rfl))) rfl) (rs_ret (.inl rfl)))))))))))))))
def P_orders_of_2 (table : (List (List Int))) : M (List (List Int)) := M.bind (pwhileF (fun (a19 : Int) => .ok (decide (a19 ≤ (table.length : Int)))) (fun (a19 : Int) => M.bind (M.bind (P_tuples_of (table.length : Int) a19) fun c23 => pMap (fun (x24 : (List Int)) => P_enumerated_2 table x24) c23) fun c25 => M.bind (pFil (fun (x26 : (Option (List Int))) => .ok x26.isSome) (fun (x26 : (Option (List Int))) => oM x26) c25) fun c27 => if (decide ((c27.length : Int) > 0)) = true then .ok (.ret c27) else .ok (.nx (a19 + 1))) fuel 0) fun r => pK r (fun (a28 : Int) => .ok []) (fun q => q)
theorem S_orders_of_2 (table : (List (List Int))) : DM (d_orders_of [(eT (eL eI)) table]) (P_orders_of_2 table) (eL (eT eI)) := fn_F rfl (show RS true (sSeq (sSet 1 (dC (.int 0))) (sSeq (sWhile (dTst (dOp2 opLe (dVar 1) (dOp1n opLen 0))) (sSeq (sOwn 2 (dComp [4] (.nm 4) (dItems (dCall d_tuples_of (dCons (dOp1n opLen 0) (dCons (dVar 1) dNil)))) dYes (dCall d_enumerated (dCons (dVar 0) (dCons (dVar 4) dNil))))) (sSeq (sOwn 3 (dComp [5] (.nm 5) (dItems (dVar 2)) (dTst (dOp2 opIsNot (dVar 5) (dC .non))) (dVar 5))) (sSeq (sIf (dTst (dOp2 opGt (dOp1n opLen 3) (dC (.int 0)))) (sRet (dVar 3)) sPass) (sSet 1 (dOp2 opAdd (dVar 1) (dC (.int 1))))))) fuel) (sRet (dFrz (dLst dNil))))) [.sh ((eT (eL eI)) table), .no, .no, .no, .no, .no] (P_orders_of_2 table) (Kfn (eL (eT eI))) from
  (rs_bindP rv_ret (rs_put (st1 := [.sh ((eT (eL eI)) table), .sh (eI 0), .no, .no, .no, .no]) rfl (rs_while1 (a := 0) (h := (fun q => q)) (fun (a31 : Int) (st : DSt) => ∃ (j32 : (Option D)), ∃ (j33 : Slot), st = [.sh ((eT (eL eI)) table), .sh (eI a31), jk j32, j33, .no, .no]) ⟨none, (.no), rfl⟩ (fun | a19, _, ⟨j20, j21, rfl⟩ => (re_rv (w := (fun b : Bool => b)) (rv_tst (rv_dOp2 (rv_bind (rv_var rfl) (rv_bind (rv_dOp1n (rv_bind (rv_rd rfl) (rv_lift op_lenT))) (rv_lift (y := (eB (decide (a19 ≤ (table.length : Int))))) rfl))))))) (fun | a19, _, ⟨j20, j21, rfl⟩ => (rs_bindG (re_bindG (re_dItems (re_tail (w := (List.map (eT eI))) (re_dCall (re_consP (rv_dOp1n (rv_bind (rv_rd rfl) (rv_lift op_lenT))) (re_consP (rv_var rfl) (re_nil (re_liftM (S_tuples_of (table.length : Int) a19)))))) fun c22 => (rv_lift (y := ((List.map (eT eI)) c22)) rfl))) fun c23 => (re_compM (e := (eT eI)) (f := fun (x24 : (List Int)) => P_enumerated_2 table x24) ([.sh ((eT (eL eI)) table), .sh (eI a19), jk j20, j21, .no, .no]) rfl rfl rfl (fun x24 => ⟨[.sh ((eT (eL eI)) table), .sh (eI a19), jk j20, j21, .sh ((eT eI) x24), .no], [.sh ((eT (eL eI)) table), .sh (eI a19), jk j20, j21, .sh ((eT eI) x24), .no], rfl, (re_dCall (re_consP (rv_var rfl) (re_consP (rv_var rfl) (re_nil (re_liftM (S_enumerated_2 table x24)))))), rfl, rfl⟩))) fun c25 => (rs_put (st1 := [.sh ((eT (eL eI)) table), .sh (eI a19), .ow (List.map (eO (eT eI)) c25), j21, .no, .no]) rfl (rs_bindG (re_bindP (rv_dItems (rv_bind (rv_frz rfl) (rv_lift (y := ((List.map (eO (eT eI))) c25)) rfl))) (re_compF (e := (eO (eT eI))) (p := fun (x26 : (Option (List Int))) => .ok x26.isSome) (f := fun (x26 : (Option (List Int))) => oM x26) ([.sh ((eT (eL eI)) table), .sh (eI a19), .sh ((eL (eO (eT eI))) c25), j21, .no, .no]) rfl rfl rfl (fun x26 => ⟨[.sh ((eT (eL eI)) table), .sh (eI a19), .sh ((eL (eO (eT eI))) c25), j21, .no, .sh ((eO (eT eI)) x26)], [.sh ((eT (eL eI)) table), .sh (eI a19), .sh ((eL (eO (eT eI))) c25), j21, .no, .sh ((eO (eT eI)) x26)], [.sh ((eT (eL eI)) table), .sh (eI a19), .sh ((eL (eO (eT eI))) c25), j21, .no, .sh ((eO (eT eI)) x26)], rfl, (re_rv (w := (fun b : Bool => b)) (rv_tst (rv_dOp2 (rv_bind (rv_var rfl) (rv_bind rv_ret (rv_lift (by cases x26 <;> rfl))))))), (re_get (rv_var rfl)), rfl, rfl⟩))) fun c27 => (rs_put (st1 := [.sh ((eT (eL eI)) table), .sh (eI a19), .sh ((eL (eO (eT eI))) c25), .ow (List.map (eT eI) c27), .no, .no]) rfl (rs_bindP (rv_tst (rv_dOp2 (rv_bind (rv_dOp1n (rv_bind (rv_rdO rfl) (rv_lift op_lenL))) (rv_bind rv_ret (rv_lift (y := (eB (decide ((c27.length : Int) > 0)))) rfl))))) (rs_ite (fun _ => (rs_bindP (rv_frz rfl) (rs_ret ⟨⟨_, rfl⟩, (.inl rfl)⟩))) (fun _ => (rs_nx (rs_last (rs_bindP (rv_dOp2 (rv_bind (rv_var rfl) (rv_bind rv_ret (rv_lift (y := (eI (a19 + 1))) rfl)))) (rs_put (st1 := [.sh ((eT (eL eI)) table), .sh (eI (a19 + 1)), .sh ((eL (eO (eT eI))) c25), .ow (List.map (eT eI) c27), .no, .no]) rfl (rs_end ⟨rfl, (some ((eL (eO (eT eI))) c25)), (.ow (List.map (eT eI) c27)), rfl⟩))))))))))))) (fun | a28, _, ⟨j29, j30, rfl⟩ => (rs_last (rs_bindP (rv_frzN (d := ((eL (eT eI)) [])) (rv_dLst (rv_nil (rv_lift (y := ((List.map (eT eI)) [])) (op_lst (by exact Nat.le_of_ble_eq_true rfl) rfl)))) rfl) (rs_ret (.inl rfl)))))))))
def P_renamed_2 (table : (List (List Int))) (order : (List Int)) : M (List (List Int)) := M.bind (pMap (fun (x1 : Int) => pMap (fun (x2 : Int) => M.bind (M.bind (pAt table x1) fun c3 => pAt c3 x2) fun c4 => pIndex order c4) order) order) fun c7 => .ok c7
theorem S_renamed_2 (table : (List (List Int))) (order : (List Int)) : DM (d_renamed [(eT (eL eI)) table, (eT eI) order]) (P_renamed_2 table order) (eT (eT eI)) := fn_F rfl (show RS true (sSeq (sOwn 2 (dN1n nList 1)) (sRet (dOp1 opTuple (dFrz (dComp [3] (.nm 3) (dItems (dVar 1)) dYes (dOp1 opTuple (dFrz (dComp [4] (.nm 4) (dItems (dVar 1)) dYes (dIndexAN 2 (dOp2 opIx (dOp2n opIx 0 (dVar 3)) (dVar 4))))))))))) [.sh ((eT (eL eI)) table), .sh ((eT eI) order), .no, .no, .no] (P_renamed_2 table order) (Kfn (eT (eT eI))) from
  (rs_bindP (rv_dN1n (rv_bind (rv_rd rfl) (rv_lift (y := ((List.map eI) order)) rfl))) (rs_put (st1 := [.sh ((eT (eL eI)) table), .sh ((eT eI) order), .ow (List.map eI order), .no, .no]) rfl (rs_last (rs_bindG (re_dOp1 (re_tail (w := (eT (eT eI))) (re_frzN (re_bindP (rv_dItems (rv_bind (rv_var rfl) (rv_lift (y := ((List.map eI) order)) rfl))) (re_compM (e := eI) (f := fun (x1 : Int) => pMap (fun (x2 : Int) => M.bind (M.bind (pAt table x1) fun c3 => pAt c3 x2) fun c4 => pIndex order c4) order) ([.sh ((eT (eL eI)) table), .sh ((eT eI) order), .ow (List.map eI order), .no, .no]) rfl rfl rfl (fun x1 => ⟨[.sh ((eT (eL eI)) table), .sh ((eT eI) order), .ow (List.map eI order), .sh (eI x1), .no], [.sh ((eT (eL eI)) table), .sh ((eT eI) order), .ow (List.map eI order), .sh (eI x1), .no], rfl, (re_dOp1 (re_tail (w := (eT eI)) (re_frzN (re_bindP (rv_dItems (rv_bind (rv_var rfl) (rv_lift (y := ((List.map eI) order)) rfl))) (re_compM (e := eI) (f := fun (x2 : Int) => M.bind (M.bind (pAt table x1) fun c3 => pAt c3 x2) fun c4 => pIndex order c4) ([.sh ((eT (eL eI)) table), .sh ((eT eI) order), .ow (List.map eI order), .sh (eI x1), .no]) rfl rfl rfl (fun x2 => ⟨[.sh ((eT (eL eI)) table), .sh ((eT eI) order), .ow (List.map eI order), .sh (eI x1), .sh (eI x2)], [.sh ((eT (eL eI)) table), .sh ((eT eI) order), .ow (List.map eI order), .sh (eI x1), .sh (eI x2)], rfl, (re_dIndexAN (re_bindP (rv_rdO rfl) (re_bindP (rv_lift rfl) (re_bindG (re_dOp2 (re_bindG (re_dOp2n (re_bindP (rv_rd rfl) (re_bindP (rv_var rfl) (re_bindP (rv_rd rfl) (re_lift op_atT))))) fun c3 => (re_bindP (rv_var rfl) (re_lift op_atL)))) fun c4 => (re_bindP (rv_rdO rfl) (re_lift (indexA_L (ks := order) (index_fl (x := c4) (xs := order) fl_I)))))))), rfl, rfl⟩)))) fun c5 => (rv_lift (y := ((eT eI) c5)) rfl))), rfl, rfl⟩)))) fun c6 => (rv_lift (y := ((eT (eT eI)) c6)) rfl))) fun c7 => (rs_ret (.inl rfl)))))))
def P_group_form_2 (table : (List (List Int))) : M (List (List Int)) := M.bind (M.bind (M.bind (P_orders_of_2 table) fun c2 => pMap (fun (x3 : (List Int)) => P_renamed_2 table x3) c2) fun c4 => pMinT c4) fun c5 => .ok c5
theorem S_group_form_2 (table : (List (List Int))) : DM (d_group_form [(eT (eL eI)) table]) (P_group_form_2 table) (eT (eT eI)) := fn_F rfl (show RS true (sRet (dOp1 opMinP (dFrz (dComp [1] (.nm 1) (dItems (dCall d_orders_of (dCons (dVar 0) dNil))) dYes (dCall d_renamed (dCons (dVar 0) (dCons (dVar 1) dNil))))))) [.sh ((eT (eL eI)) table), .no] (P_group_form_2 table) (Kfn (eT (eT eI))) from
  (rs_last (rs_bindG (re_dOp1 (re_bindG (re_frzN (re_bindG (re_dItems (re_tail (w := (List.map (eT eI))) (re_dCall (re_consP (rv_var rfl) (re_nil (re_liftM (S_orders_of_2 table))))) fun c1 => (rv_lift (y := ((List.map (eT eI)) c1)) rfl))) fun c2 => (re_compM (e := (eT eI)) (f := fun (x3 : (List Int)) => P_renamed_2 table x3) ([.sh ((eT (eL eI)) table), .no]) rfl rfl rfl (fun x3 => ⟨[.sh ((eT (eL eI)) table), .sh ((eT eI) x3)], [.sh ((eT (eL eI)) table), .sh ((eT eI) x3)], rfl, (re_dCall (re_consP (rv_var rfl) (re_consP (rv_var rfl) (re_nil (re_liftM (S_renamed_2 table x3)))))), rfl, rfl⟩)))) fun c4 => (re_lift op_minPT))) fun c5 => (rs_ret (.inl rfl)))))
def P_form_maps (table : (List (List Int))) : M (List (List Int)) := M.bind (P_group_form table) fun c1 => M.bind (P_orders_of table) fun c3 => M.bind (pfold (fun (x24 : (List Int)) (a25 : (List (List Int))) => M.bind (M.bind (P_renamed table x24) fun c27 => .ok (decide (c27 = c1))) fun c28 => if c28 = true then M.bind (M.bind (M.bind (pRng (table.length : Int)) fun c29 => pMap (fun (x30 : Int) => pIndex x24 x30) c29) fun c33 => pApp a25 c33) fun c32 => .ok c32 else .ok a25) c3 []) fun (a34 : (List (List Int))) => M.bind (pSortT a34) fun c37 => .ok c37
theorem S_form_maps (table : (List (List Int))) : DM (d_form_maps [(eL (eT eI)) table]) (P_form_maps table) (eT (eT eI)) := fn_F rfl (show RS true (sSeq (sSet 1 (dCall d_group_form (dCons (dVar 0) dNil))) (sSeq (sOwn 2 (dLst dNil)) (sSeq (sFor (.nm 3) (dItems (dCall d_orders_of (dCons (dVar 0) dNil))) (sIf (dTst (dOp2 opEq (dCall d_renamed (dCons (dVar 0) (dCons (dVar 3) dNil))) (dVar 1))) (sExpr (dAppend 2 (dOp1 opTuple (dFrz (dComp [4] (.nm 4) (dRng (dOp1n opLen 0)) dYes (dIndexAN 3 (dVar 4))))))) sPass)) (sRet (dOp1 opTuple (dFrz (dN1n nSortedA 2))))))) [.sh ((eL (eT eI)) table), .no, .no, .no, .no] (P_form_maps table) (Kfn (eT (eT eI))) from
  (rs_bindG (re_dCall (re_consP (rv_var rfl) (re_nil (re_liftM (S_group_form table))))) fun c1 => (rs_put (st1 := [.sh ((eL (eT eI)) table), .sh ((eT (eT eI)) c1), .no, .no, .no]) rfl (rs_bindP (rv_dLst (rv_nil (rv_lift (y := ((List.map eI) [])) (op_lst (by exact Nat.le_of_ble_eq_true rfl) rfl)))) (rs_put (st1 := [.sh ((eL (eT eI)) table), .sh ((eT (eT eI)) c1), .ow (List.map eI []), .no, .no]) rfl (rs_bindG (re_dItems (re_tail (w := (List.map (eT eI))) (re_dCall (re_consP (rv_var rfl) (re_nil (re_liftM (S_orders_of table))))) fun c2 => (rv_lift (y := ((List.map (eT eI)) c2)) rfl))) fun c3 => (rs_for0 (e := (eT eI)) (xs := c3) (a := []) (f := fun (x24 : (List Int)) (a25 : (List (List Int))) => M.bind (M.bind (P_renamed table x24) fun c27 => .ok (decide (c27 = c1))) fun c28 => if c28 = true then M.bind (M.bind (M.bind (pRng (table.length : Int)) fun c29 => pMap (fun (x30 : Int) => pIndex x24 x30) c29) fun c33 => pApp a25 c33) fun c32 => .ok c32 else .ok a25) (fun (a38 : (List (List Int))) (st : DSt) => ∃ (j39 : (Option D)), st = [.sh ((eL (eT eI)) table), .sh ((eT (eT eI)) c1), .ow (List.map (eT eI) a38), jk j39, .no]) ⟨none, rfl⟩ (fun | x24, a25, _, ⟨j26, rfl⟩ => ⟨[.sh ((eL (eT eI)) table), .sh ((eT (eT eI)) c1), .ow (List.map (eT eI) a25), .sh ((eT eI) x24), .no], rfl, (rs_last (rs_bindG (re_tst (re_dOp2 (re_bindG (re_dCall (re_consP (rv_var rfl) (re_consP (rv_var rfl) (re_nil (re_liftM (S_renamed table x24)))))) fun c27 => (re_bindP (rv_var rfl) (re_rv (w := eB) (rv_lift (eq_py (pyT (pyT pyI)) (x := c27) (y := c1)))))))) fun c28 => (rs_ite (fun _ => (rs_x (x_appG (e := (eT eI)) (xs := a25) rfl (re_dOp1 (re_tail (w := (eT eI)) (re_frzN (re_bindG (re_dRng (re_bindP (rv_dOp1n (rv_bind (rv_rd rfl) (rv_lift op_lenL))) (re_lift op_rng))) fun c29 => (re_compM (e := eI) (f := fun (x30 : Int) => pIndex x24 x30) ([.sh ((eL (eT eI)) table), .sh ((eT (eT eI)) c1), .ow (List.map (eT eI) a25), .sh ((eT eI) x24), .no]) rfl rfl rfl (fun x30 => ⟨[.sh ((eL (eT eI)) table), .sh ((eT (eT eI)) c1), .ow (List.map (eT eI) a25), .sh ((eT eI) x24), .sh (eI x30)], [.sh ((eL (eT eI)) table), .sh ((eT (eT eI)) c1), .ow (List.map (eT eI) a25), .sh ((eT eI) x24), .sh (eI x30)], rfl, (re_dIndexAN (re_bindP (rv_rd rfl) (re_bindP (rv_lift rfl) (re_bindP (rv_var rfl) (re_bindP (rv_rd rfl) (re_lift (indexA_T (ks := x24) (x := x30) (xs := x24) fl_I))))))), rfl, rfl⟩)))) fun c31 => (rv_lift (y := ((eT eI) c31)) rfl))) rfl) fun c32 => rs_st ([.sh ((eL (eT eI)) table), .sh ((eT (eT eI)) c1), .ow (List.map (eT eI) c32), .sh ((eT eI) x24), .no]) rfl (rs_end ⟨rfl, (some ((eT eI) x24)), rfl⟩))) (fun _ => (rs_nx (rs_end ⟨rfl, (some ((eT eI) x24)), rfl⟩))))))⟩) (fun | a34, _, ⟨j35, rfl⟩ => (rs_last (rs_bindG (re_dOp1 (re_tail (w := (eT (eT eI))) (re_frzN (re_dN1n (re_bindP (rv_rdO rfl) (re_lift op_sortT)))) fun c36 => (rv_lift (y := ((eT (eT eI)) c36)) rfl))) fun c37 => (rs_ret (.inl rfl))))))))))))
def P__law_arrangements (n : Int) : M (List (List Int)) := M.bind (pRng n) fun c1 => M.bind (pfold (fun (x62 : Int) (a63 : (List (List Int))) => M.bind (pfold (fun (x81 : (List Int)) (a82 : (List (List Int))) => M.bind (M.bind (M.bind (pRng n) fun c84 => pFil (fun (x85 : Int) => .ok (!has x85 x81)) (fun (x85 : Int) => pCat x81 [x85]) c84) fun c86 => pCat a82 c86) fun c87 => .ok c87) a63 []) fun (a88 : (List (List Int))) => .ok a88) c1 [[]]) fun (a92 : (List (List Int))) => .ok a92
theorem S__law_arrangements (n : Int) : DM (d__law_arrangements [eI n]) (P__law_arrangements n) (eL (eT eI)) := fn_F rfl (show RS true (sSeq (sOwn 1 (dLst (dCons (dTup dNil) dNil))) (sSeq (sFor (.nm 2) (dRng (dVar 0)) (sSeq (sOwn 3 (dLst dNil)) (sSeq (sFor (.nm 4) (dItems (dVar 1)) (sOwn 3 (dN2 nAdd (dVar 3) (dFrz (dComp [5] (.nm 5) (dRng (dVar 0)) (dTst (dOp2m opNotIn (dVar 5) 4)) (dOp2 opAdd (dVar 4) (dTup (dCons (dVar 5) dNil)))))))) (sOwn 1 (dN1n nList 3))))) (sRet (dVar 1)))) [.sh (eI n), .no, .no, .no, .no, .no] (P__law_arrangements n) (Kfn (eL (eT eI))) from
  (rs_bindP (rv_dLst (rv_cons (rv_dTup (rv_nil (rv_lift (y := ((eT eI) [])) (op_tup (by exact Nat.le_of_ble_eq_true rfl) rfl)))) (rv_nil (rv_lift (y := ((List.map (eT eI)) [[]])) (op_lst (by exact Nat.le_of_ble_eq_true rfl) rfl))))) (rs_put (st1 := [.sh (eI n), .ow (List.map (eT eI) [[]]), .no, .no, .no, .no]) rfl (rs_bindG (re_dRng (re_bindP (rv_var rfl) (re_lift op_rng))) fun c1 => (rs_for0 (e := eI) (xs := c1) (a := [[]]) (f := fun (x62 : Int) (a63 : (List (List Int))) => M.bind (pfold (fun (x81 : (List Int)) (a82 : (List (List Int))) => M.bind (M.bind (M.bind (pRng n) fun c84 => pFil (fun (x85 : Int) => .ok (!has x85 x81)) (fun (x85 : Int) => pCat x81 [x85]) c84) fun c86 => pCat a82 c86) fun c87 => .ok c87) a63 []) fun (a88 : (List (List Int))) => .ok a88) (fun (a96 : (List (List Int))) (st : DSt) => ∃ (j97 : (Option D)), ∃ (j98 : Slot), ∃ (j99 : (Option D)), st = [.sh (eI n), .ow (List.map (eT eI) a96), jk j97, j98, jk j99, .no]) ⟨none, (.no), none, rfl⟩ (fun | x62, a63, _, ⟨j64, j65, j66, rfl⟩ => ⟨[.sh (eI n), .ow (List.map (eT eI) a63), .sh (eI x62), j65, jk j66, .no], rfl, (rs_bindP (rv_dLst (rv_nil (rv_lift (y := ((List.map eI) [])) (op_lst (by exact Nat.le_of_ble_eq_true rfl) rfl)))) (rs_put (st1 := [.sh (eI n), .ow (List.map (eT eI) a63), .sh (eI x62), .ow (List.map eI []), jk j66, .no]) rfl (rs_bindP (rv_dItems (rv_bind (rv_frz rfl) (rv_lift (y := ((List.map (eT eI)) a63)) rfl))) (rs_for0 (e := (eT eI)) (xs := a63) (a := []) (f := fun (x81 : (List Int)) (a82 : (List (List Int))) => M.bind (M.bind (M.bind (pRng n) fun c84 => pFil (fun (x85 : Int) => .ok (!has x85 x81)) (fun (x85 : Int) => pCat x81 [x85]) c84) fun c86 => pCat a82 c86) fun c87 => .ok c87) (fun (a90 : (List (List Int))) (st : DSt) => ∃ (j91 : (Option D)), st = [.sh (eI n), .sh ((eL (eT eI)) a63), .sh (eI x62), .ow (List.map (eT eI) a90), jk j91, .no]) ⟨j66, rfl⟩ (fun | x81, a82, _, ⟨j83, rfl⟩ => ⟨[.sh (eI n), .sh ((eL (eT eI)) a63), .sh (eI x62), .ow (List.map (eT eI) a82), .sh ((eT eI) x81), .no], rfl, (rs_last (rs_bindG (re_dN2 (re_bindP (rv_frz rfl) (re_bindG (re_frzN (re_bindG (re_dRng (re_bindP (rv_var rfl) (re_lift op_rng))) fun c84 => (re_compF (e := eI) (p := fun (x85 : Int) => .ok (!has x85 x81)) (f := fun (x85 : Int) => pCat x81 [x85]) ([.sh (eI n), .sh ((eL (eT eI)) a63), .sh (eI x62), .sh ((eL (eT eI)) a82), .sh ((eT eI) x81), .no]) rfl rfl rfl (fun x85 => ⟨[.sh (eI n), .sh ((eL (eT eI)) a63), .sh (eI x62), .sh ((eL (eT eI)) a82), .sh ((eT eI) x81), .sh (eI x85)], [.sh (eI n), .sh ((eL (eT eI)) a63), .sh (eI x62), .sh ((eL (eT eI)) a82), .sh ((eT eI) x81), .sh (eI x85)], [.sh (eI n), .sh ((eL (eT eI)) a63), .sh (eI x62), .sh ((eL (eT eI)) a82), .sh ((eT eI) x81), .sh (eI x85)], rfl, (re_rv (w := (fun b : Bool => b)) (rv_tst (rv_dOp2m (rv_bind (rv_var rfl) (rv_bind (rv_rd rfl) (rv_lift (ninL_ (in_fl (x := x85) (xs := x81) fl_I).2))))))), (re_dOp2 (re_bindP (rv_var rfl) (re_bindP (rv_dTup (rv_cons (rv_var rfl) (rv_nil (rv_lift (y := ((eT eI) [x85])) (op_tup (by exact Nat.le_of_ble_eq_true rfl) rfl))))) (re_lift (op_catT (e := eI) (xs := x81) (ys := [x85])))))), rfl, rfl⟩)))) fun c86 => (re_lift (op_nCat (e := (eT eI)) (xs := a82) (ys := c86)))))) fun c87 => (rs_put (st1 := [.sh (eI n), .sh ((eL (eT eI)) a63), .sh (eI x62), .ow (List.map (eT eI) c87), .sh ((eT eI) x81), .no]) rfl (rs_end ⟨rfl, (some ((eT eI) x81)), rfl⟩))))⟩) (fun | a88, _, ⟨j89, rfl⟩ => (rs_last (rs_bindP (rv_dN1n (rv_bind (rv_rdO rfl) (rv_lift (y := ((List.map (eT eI)) a88)) rfl))) (rs_put (st1 := [.sh (eI n), .ow (List.map (eT eI) a88), .sh (eI x62), .ow (List.map (eT eI) a88), jk j89, .no]) rfl (rs_end ⟨rfl, (some (eI x62)), (.ow (List.map (eT eI) a88)), j89, rfl⟩)))))))))⟩) (fun | a92, _, ⟨j93, j94, j95, rfl⟩ => (rs_last (rs_bindP (rv_frz rfl) (rs_ret (.inl rfl))))))))))
def P__law_is_iso (one : (List (List Int))) (two : (Option (List (List Int)))) (images : (List Int)) : M Bool := M.bind (M.bind (M.bind (pSortTu images) fun c1 => M.bind (pRng (one.length : Int)) fun c2 => .ok (!decide (c1 = c2))) fun c3 => if c3 = true then .ok true else M.bind (oM (opLen ((eO (eT (eT eI))) two))) fun c4 => pNe (eI (one.length : Int)) c4) fun c5 => if c5 = true then .ok false else M.bind (pRng (one.length : Int)) fun c6 => M.bind (pfor (fun (x48 : Int) (a49 : Unit) => M.bind (pRng (one.length : Int)) fun c52 => M.bind (pfor (fun (x69 : Int) (a70 : Unit) => M.bind (M.bind (M.bind (M.bind (pAt one x48) fun c72 => pAt c72 x69) fun c73 => pAt images c73) fun c78 => M.bind (M.bind (M.bind (pAt images x48) fun c79 => M.bind (oM two) fun c80 => pAt c80 c79) fun c81 => M.bind (pAt images x69) fun c82 => pAt c81 c82) fun c83 => .ok (!decide (c78 = c83))) fun c84 => if c84 = true then .ok (.ret false) else .ok (.nx ())) c52 ()) fun r => pK r (fun (a85 : Unit) => .ok (.nx ())) F.ret) c6 ()) fun r => pK r (fun (a89 : Unit) => .ok true) (fun q => q)
theorem S__law_is_iso (one : (List (List Int))) (two : (Option (List (List Int)))) (images : (List Int)) : DM (d__law_is_iso [(eL (eT eI)) one, (eO (eT (eT eI))) two, (eT eI) images]) (P__law_is_iso one two images) eB := fn_F rfl (show RS true (sSeq (sIf (dOr (dTst (dOp2 opNe (dFrz (dN1n nSortedA 2)) (dFrz (dLstRg (dRg1 (dOp1n opLen 0)))))) (dTst (dOp2 opNe (dOp1n opLen 0) (dOp1n opLen 1)))) (sRet (dC (.bl false))) sPass) (sSeq (sFor (.nm 3) (dRng (dOp1n opLen 0)) (sFor (.nm 4) (dRng (dOp1n opLen 0)) (sIf (dTst (dOp2 opNe (dOp2n opIx 2 (dOp2 opIx (dOp2n opIx 0 (dVar 3)) (dVar 4))) (dOp2 opIx (dOp2n opIx 1 (dOp2n opIx 2 (dVar 3))) (dOp2n opIx 2 (dVar 4))))) (sRet (dC (.bl false))) sPass))) (sRet (dC (.bl true))))) [.sh ((eL (eT eI)) one), .sh ((eO (eT (eT eI))) two), .sh ((eT eI) images), .no, .no] (P__law_is_iso one two images) (Kfn eB) from
  (rs_bindG (re_dOr (re_bindG (re_tst (re_dOp2 (re_bindG (re_frzN (re_dN1n (re_bindP (rv_rd rfl) (re_lift (op_sortTu (xs := images)))))) fun c1 => (re_bindG (re_frzN (re_lrgP (rv_dOp1n (rv_bind (rv_rd rfl) (rv_lift op_lenL))))) fun c2 => (re_rv (w := eB) (rv_lift (ne_py (pyL pyI) (x := c1) (y := c2)))))))) fun c3 => (re_ite (fun _ => re_rv rv_ret) (fun _ => (re_tst (re_dOp2 (re_bindP (rv_dOp1n (rv_bind (rv_rd rfl) (rv_lift op_lenL))) (re_bindG (re_dOp1n (re_bindP (rv_rd rfl) (by first | exact re_lift op_D | exact re_lift op_DL))) fun c4 => (re_lift op_neD))))))))) fun c5 => (rs_ite (fun _ => (rs_bindP rv_ret (rs_ret (.inl rfl)))) (fun _ => (rs_nx (rs_bindG (re_dRng (re_bindP (rv_dOp1n (rv_bind (rv_rd rfl) (rv_lift op_lenL))) (re_lift op_rng))) fun c6 => (rs_for1 (e := eI) (xs := c6) (a := ()) (f := fun (x48 : Int) (a49 : Unit) => M.bind (pRng (one.length : Int)) fun c52 => M.bind (pfor (fun (x69 : Int) (a70 : Unit) => M.bind (M.bind (M.bind (M.bind (pAt one x48) fun c72 => pAt c72 x69) fun c73 => pAt images c73) fun c78 => M.bind (M.bind (M.bind (pAt images x48) fun c79 => M.bind (oM two) fun c80 => pAt c80 c79) fun c81 => M.bind (pAt images x69) fun c82 => pAt c81 c82) fun c83 => .ok (!decide (c78 = c83))) fun c84 => if c84 = true then .ok (.ret false) else .ok (.nx ())) c52 ()) fun r => pK r (fun (a85 : Unit) => .ok (.nx ())) F.ret) (h := (fun q => q)) (fun (a92 : Unit) (st : DSt) => ∃ (j93 : (Option D)), ∃ (j94 : (Option D)), st = [.sh ((eL (eT eI)) one), .sh ((eO (eT (eT eI))) two), .sh ((eT eI) images), jk j93, jk j94]) ⟨none, none, rfl⟩ (fun | x48, a49, _, ⟨j50, j51, rfl⟩ => ⟨[.sh ((eL (eT eI)) one), .sh ((eO (eT (eT eI))) two), .sh ((eT eI) images), .sh (eI x48), jk j51], rfl, (rs_last (rs_bindG (re_dRng (re_bindP (rv_dOp1n (rv_bind (rv_rd rfl) (rv_lift op_lenL))) (re_lift op_rng))) fun c52 => (rs_for1 (e := eI) (xs := c52) (a := ()) (f := fun (x69 : Int) (a70 : Unit) => M.bind (M.bind (M.bind (M.bind (pAt one x48) fun c72 => pAt c72 x69) fun c73 => pAt images c73) fun c78 => M.bind (M.bind (M.bind (pAt images x48) fun c79 => M.bind (oM two) fun c80 => pAt c80 c79) fun c81 => M.bind (pAt images x69) fun c82 => pAt c81 c82) fun c83 => .ok (!decide (c78 = c83))) fun c84 => if c84 = true then .ok (.ret false) else .ok (.nx ())) (h := F.ret) (fun (a87 : Unit) (st : DSt) => ∃ (j88 : (Option D)), st = [.sh ((eL (eT eI)) one), .sh ((eO (eT (eT eI))) two), .sh ((eT eI) images), .sh (eI x48), jk j88]) ⟨j51, rfl⟩ (fun | x69, a70, _, ⟨j71, rfl⟩ => ⟨[.sh ((eL (eT eI)) one), .sh ((eO (eT (eT eI))) two), .sh ((eT eI) images), .sh (eI x48), .sh (eI x69)], rfl, (rs_last (rs_bindG (re_tst (re_dOp2 (re_bindG (re_dOp2n (re_bindP (rv_rd rfl) (re_bindG (re_dOp2 (re_bindG (re_dOp2n (re_bindP (rv_rd rfl) (re_bindP (rv_var rfl) (re_bindP (rv_rd rfl) (re_lift op_atL))))) fun c72 => (re_bindP (rv_var rfl) (re_lift op_atT)))) fun c73 => (re_bindP (rv_rd rfl) (re_lift op_atT))))) fun c78 => (re_bindG (re_dOp2 (re_bindG (re_dOp2n (re_bindP (rv_rd rfl) (re_bindG (re_dOp2n (re_bindP (rv_rd rfl) (re_bindP (rv_var rfl) (re_bindP (rv_rd rfl) (re_lift op_atT))))) fun c79 => (re_bindG (re_get (rv_rd rfl)) fun c80 => (re_lift op_atT))))) fun c81 => (re_bindG (re_dOp2n (re_bindP (rv_rd rfl) (re_bindP (rv_var rfl) (re_bindP (rv_rd rfl) (re_lift op_atT))))) fun c82 => (re_lift op_atT)))) fun c83 => (re_rv (w := eB) (rv_lift (ne_py pyI (x := c78) (y := c83)))))))) fun c84 => (rs_ite (fun _ => (rs_bindP rv_ret (rs_ret ⟨⟨_, rfl⟩, ⟨⟨_, rfl⟩, (.inl rfl)⟩⟩))) (fun _ => (rs_nx (rs_end ⟨rfl, (some (eI x69)), rfl⟩))))))⟩) (fun | a85, _, ⟨j86, rfl⟩ => (rs_end ⟨rfl, (some (eI x48)), j86, rfl⟩)))))⟩) (fun | a89, _, ⟨j90, j91, rfl⟩ => (rs_last (rs_bindP rv_ret (rs_ret (.inl rfl))))))))))))
def P__law_maps (one : (List (List Int))) (two : (Option (List (List Int)))) : M (List (List Int)) := M.bind (M.bind (oM (opLen ((eO (eT (eT eI))) two))) fun c1 => pNe c1 (eI (one.length : Int))) fun c2 => if c2 = true then .ok [] else M.bind (P__law_arrangements ((one.length : Int) - 1)) fun c4 => M.bind (pfold (fun (x29 : (List Int)) (a30 : (List (List Int))) => M.bind (M.bind (pMap (fun (x35 : Int) => .ok (1 + x35)) x29) fun c37 => pCat [0] c37) fun c38 => M.bind (P__law_is_iso one two c38) fun c39 => if c39 = true then M.bind (pApp a30 c38) fun c40 => .ok c40 else .ok a30) c4 []) fun (a41 : (List (List Int))) => .ok a41
theorem S__law_maps (one : (List (List Int))) (two : (Option (List (List Int)))) : DM (d__law_maps [(eL (eT eI)) one, (eO (eT (eT eI))) two]) (P__law_maps one two) (eT (eT eI)) := fn_F rfl (show RS true (sSeq (sSet 2 (dOp1n opLen 0)) (sSeq (sIf (dTst (dOp2 opNe (dOp1n opLen 1) (dVar 2))) (sRet (dTup dNil)) sPass) (sSeq (sOwn 3 (dLst dNil)) (sSeq (sFor (.nm 4) (dItems (dCall d__law_arrangements (dCons (dOp2 opSub (dVar 2) (dC (.int 1))) dNil))) (sSeq (sSet 5 (dOp2 opAdd (dTup (dCons (dC (.int 0)) dNil)) (dOp1 opTuple (dFrz (dComp [6] (.nm 6) (dItems (dVar 4)) dYes (dOp2 opAdd (dC (.int 1)) (dVar 6))))))) (sIf (dTst (dCall d__law_is_iso (dCons (dVar 0) (dCons (dVar 1) (dCons (dVar 5) dNil))))) (sExpr (dAppend 3 (dVar 5))) sPass))) (sRet (dOp1n opTuple 3)))))) [.sh ((eL (eT eI)) one), .sh ((eO (eT (eT eI))) two), .no, .no, .no, .no, .no] (P__law_maps one two) (Kfn (eT (eT eI))) from
  (rs_bindP (rv_dOp1n (rv_bind (rv_rd rfl) (rv_lift op_lenL))) (rs_put (st1 := [.sh ((eL (eT eI)) one), .sh ((eO (eT (eT eI))) two), .sh (eI (one.length : Int)), .no, .no, .no, .no]) rfl (rs_bindG (re_tst (re_dOp2 (re_bindG (re_dOp1n (re_bindP (rv_rd rfl) (by first | exact re_lift op_D | exact re_lift op_DL))) fun c1 => (re_bindP (rv_var rfl) (re_lift op_neD))))) fun c2 => (rs_ite (fun _ => (rs_bindP (rv_dTup (rv_nil (rv_lift (y := ((eT (eT eI)) [])) (op_tup (by exact Nat.le_of_ble_eq_true rfl) rfl)))) (rs_ret (.inl rfl)))) (fun _ => (rs_nx (rs_bindP (rv_dLst (rv_nil (rv_lift (y := ((List.map eI) [])) (op_lst (by exact Nat.le_of_ble_eq_true rfl) rfl)))) (rs_put (st1 := [.sh ((eL (eT eI)) one), .sh ((eO (eT (eT eI))) two), .sh (eI (one.length : Int)), .ow (List.map eI []), .no, .no, .no]) rfl (rs_bindG (re_dItems (re_tail (w := (List.map (eT eI))) (re_dCall (re_consP (rv_dOp2 (rv_bind (rv_var rfl) (rv_bind rv_ret (rv_lift (y := (eI ((one.length : Int) - 1))) rfl)))) (re_nil (re_liftM (S__law_arrangements ((one.length : Int) - 1)))))) fun c3 => (rv_lift (y := ((List.map (eT eI)) c3)) rfl))) fun c4 => (rs_for0 (e := (eT eI)) (xs := c4) (a := []) (f := fun (x29 : (List Int)) (a30 : (List (List Int))) => M.bind (M.bind (pMap (fun (x35 : Int) => .ok (1 + x35)) x29) fun c37 => pCat [0] c37) fun c38 => M.bind (P__law_is_iso one two c38) fun c39 => if c39 = true then M.bind (pApp a30 c38) fun c40 => .ok c40 else .ok a30) (fun (a44 : (List (List Int))) (st : DSt) => ∃ (j45 : (Option D)), ∃ (j46 : (Option D)), st = [.sh ((eL (eT eI)) one), .sh ((eO (eT (eT eI))) two), .sh (eI (one.length : Int)), .ow (List.map (eT eI) a44), jk j45, jk j46, .no]) ⟨none, none, rfl⟩ (fun | x29, a30, _, ⟨j31, j32, rfl⟩ => ⟨[.sh ((eL (eT eI)) one), .sh ((eO (eT (eT eI))) two), .sh (eI (one.length : Int)), .ow (List.map (eT eI) a30), .sh ((eT eI) x29), jk j32, .no], rfl, (rs_bindG (re_dOp2 (re_bindP (rv_dTup (rv_cons rv_ret (rv_nil (rv_lift (y := ((eT eI) [0])) (op_tup (by exact Nat.le_of_ble_eq_true rfl) rfl))))) (re_bindG (re_dOp1 (re_tail (w := (eT eI)) (re_frzN (re_bindP (rv_dItems (rv_bind (rv_var rfl) (rv_lift (y := ((List.map eI) x29)) rfl))) (re_compM (e := eI) (f := fun (x35 : Int) => .ok (1 + x35)) ([.sh ((eL (eT eI)) one), .sh ((eO (eT (eT eI))) two), .sh (eI (one.length : Int)), .ow (List.map (eT eI) a30), .sh ((eT eI) x29), jk j32, .no]) rfl rfl rfl (fun x35 => ⟨[.sh ((eL (eT eI)) one), .sh ((eO (eT (eT eI))) two), .sh (eI (one.length : Int)), .ow (List.map (eT eI) a30), .sh ((eT eI) x29), jk j32, .sh (eI x35)], [.sh ((eL (eT eI)) one), .sh ((eO (eT (eT eI))) two), .sh (eI (one.length : Int)), .ow (List.map (eT eI) a30), .sh ((eT eI) x29), jk j32, .sh (eI x35)], rfl, (re_rv (w := eI) (rv_dOp2 (rv_bind rv_ret (rv_bind (rv_var rfl) (rv_lift (y := (eI (1 + x35))) rfl))))), rfl, rfl⟩)))) fun c36 => (rv_lift (y := ((eT eI) c36)) rfl))) fun c37 => (re_lift (op_catT (e := eI) (xs := [0]) (ys := c37)))))) fun c38 => (rs_put (st1 := [.sh ((eL (eT eI)) one), .sh ((eO (eT (eT eI))) two), .sh (eI (one.length : Int)), .ow (List.map (eT eI) a30), .sh ((eT eI) x29), .sh ((eT eI) c38), .no]) rfl (rs_last (rs_bindG (re_tst (re_dCall (re_consP (rv_var rfl) (re_consP (rv_var rfl) (re_consP (rv_var rfl) (re_nil (re_liftM (S__law_is_iso one two c38)))))))) fun c39 => (rs_ite (fun _ => (rs_x (x_appP (e := (eT eI)) (xs := a30) rfl (rv_var rfl) rfl) fun c40 => rs_st ([.sh ((eL (eT eI)) one), .sh ((eO (eT (eT eI))) two), .sh (eI (one.length : Int)), .ow (List.map (eT eI) c40), .sh ((eT eI) x29), .sh ((eT eI) c38), .no]) rfl (rs_end ⟨rfl, (some ((eT eI) x29)), (some ((eT eI) c38)), rfl⟩))) (fun _ => (rs_nx (rs_end ⟨rfl, (some ((eT eI) x29)), (some ((eT eI) c38)), rfl⟩))))))))⟩) (fun | a41, _, ⟨j42, j43, rfl⟩ => (rs_last (rs_bindP (rv_dOp1n (rv_bind (rv_rdO rfl) (rv_lift (y := ((eT (eT eI)) a41)) rfl))) (rs_ret (.inl rfl))))))))))))))))
def P_group_isomorphisms (one : (List (List Int))) (two : (List (List Int))) : M (List (List Int)) := M.bind (M.bind (P_group_form one) fun c1 => M.bind (P_group_form two) fun c2 => .ok (!decide (c1 = c2))) fun c3 => if c3 = true then .ok [] else M.bind (M.bind (P_form_maps two) fun c4 => pAt c4 0) fun c5 => M.bind (P_form_maps one) fun c7 => M.bind (pfold (fun (x22 : (List Int)) (a23 : (List (List Int))) => M.bind (M.bind (pMap (fun (x25 : Int) => pIndex c5 x25) x22) fun c28 => pApp a23 c28) fun c27 => .ok c27) c7 []) fun (a29 : (List (List Int))) => M.bind (pSortT a29) fun c32 => .ok c32
theorem S_group_isomorphisms (one : (List (List Int))) (two : (List (List Int))) : DM (d_group_isomorphisms [(eL (eT eI)) one, (eL (eT eI)) two]) (P_group_isomorphisms one two) (eT (eT eI)) := fn_F rfl (show RS true (sSeq (sIf (dTst (dOp2 opNe (dCall d_group_form (dCons (dVar 0) dNil)) (dCall d_group_form (dCons (dVar 1) dNil)))) (sRet (dTup dNil)) sPass) (sSeq (sSet 2 (dOp2 opIx (dCall d_form_maps (dCons (dVar 1) dNil)) (dC (.int 0)))) (sSeq (sOwn 3 (dLst dNil)) (sSeq (sFor (.nm 4) (dItems (dCall d_form_maps (dCons (dVar 0) dNil))) (sExpr (dAppend 3 (dOp1 opTuple (dFrz (dComp [5] (.nm 5) (dItems (dVar 4)) dYes (dIndexAN 2 (dVar 5)))))))) (sRet (dOp1 opTuple (dFrz (dN1n nSortedA 3)))))))) [.sh ((eL (eT eI)) one), .sh ((eL (eT eI)) two), .no, .no, .no, .no] (P_group_isomorphisms one two) (Kfn (eT (eT eI))) from
  (rs_bindG (re_tst (re_dOp2 (re_bindG (re_dCall (re_consP (rv_var rfl) (re_nil (re_liftM (S_group_form one))))) fun c1 => (re_bindG (re_dCall (re_consP (rv_var rfl) (re_nil (re_liftM (S_group_form two))))) fun c2 => (re_rv (w := eB) (rv_lift (ne_py (pyT (pyT pyI)) (x := c1) (y := c2)))))))) fun c3 => (rs_ite (fun _ => (rs_bindP (rv_dTup (rv_nil (rv_lift (y := ((eT (eT eI)) [])) (op_tup (by exact Nat.le_of_ble_eq_true rfl) rfl)))) (rs_ret (.inl rfl)))) (fun _ => (rs_nx (rs_bindG (re_dOp2 (re_bindG (re_dCall (re_consP (rv_var rfl) (re_nil (re_liftM (S_form_maps two))))) fun c4 => (re_bindP rv_ret (re_lift op_atT)))) fun c5 => (rs_put (st1 := [.sh ((eL (eT eI)) one), .sh ((eL (eT eI)) two), .sh ((eT eI) c5), .no, .no, .no]) rfl (rs_bindP (rv_dLst (rv_nil (rv_lift (y := ((List.map eI) [])) (op_lst (by exact Nat.le_of_ble_eq_true rfl) rfl)))) (rs_put (st1 := [.sh ((eL (eT eI)) one), .sh ((eL (eT eI)) two), .sh ((eT eI) c5), .ow (List.map eI []), .no, .no]) rfl (rs_bindG (re_dItems (re_tail (w := (List.map (eT eI))) (re_dCall (re_consP (rv_var rfl) (re_nil (re_liftM (S_form_maps one))))) fun c6 => (rv_lift (y := ((List.map (eT eI)) c6)) rfl))) fun c7 => (rs_for0 (e := (eT eI)) (xs := c7) (a := []) (f := fun (x22 : (List Int)) (a23 : (List (List Int))) => M.bind (M.bind (pMap (fun (x25 : Int) => pIndex c5 x25) x22) fun c28 => pApp a23 c28) fun c27 => .ok c27) (fun (a33 : (List (List Int))) (st : DSt) => ∃ (j34 : (Option D)), st = [.sh ((eL (eT eI)) one), .sh ((eL (eT eI)) two), .sh ((eT eI) c5), .ow (List.map (eT eI) a33), jk j34, .no]) ⟨none, rfl⟩ (fun | x22, a23, _, ⟨j24, rfl⟩ => ⟨[.sh ((eL (eT eI)) one), .sh ((eL (eT eI)) two), .sh ((eT eI) c5), .ow (List.map (eT eI) a23), .sh ((eT eI) x22), .no], rfl, (rs_last (rs_x (x_appG (e := (eT eI)) (xs := a23) rfl (re_dOp1 (re_tail (w := (eT eI)) (re_frzN (re_bindP (rv_dItems (rv_bind (rv_var rfl) (rv_lift (y := ((List.map eI) x22)) rfl))) (re_compM (e := eI) (f := fun (x25 : Int) => pIndex c5 x25) ([.sh ((eL (eT eI)) one), .sh ((eL (eT eI)) two), .sh ((eT eI) c5), .ow (List.map (eT eI) a23), .sh ((eT eI) x22), .no]) rfl rfl rfl (fun x25 => ⟨[.sh ((eL (eT eI)) one), .sh ((eL (eT eI)) two), .sh ((eT eI) c5), .ow (List.map (eT eI) a23), .sh ((eT eI) x22), .sh (eI x25)], [.sh ((eL (eT eI)) one), .sh ((eL (eT eI)) two), .sh ((eT eI) c5), .ow (List.map (eT eI) a23), .sh ((eT eI) x22), .sh (eI x25)], rfl, (re_dIndexAN (re_bindP (rv_rd rfl) (re_bindP (rv_lift rfl) (re_bindP (rv_var rfl) (re_bindP (rv_rd rfl) (re_lift (indexA_T (ks := c5) (x := x25) (xs := c5) fl_I))))))), rfl, rfl⟩)))) fun c26 => (rv_lift (y := ((eT eI) c26)) rfl))) rfl) fun c27 => rs_st ([.sh ((eL (eT eI)) one), .sh ((eL (eT eI)) two), .sh ((eT eI) c5), .ow (List.map (eT eI) c27), .sh ((eT eI) x22), .no]) rfl (rs_end ⟨rfl, (some ((eT eI) x22)), rfl⟩)))⟩) (fun | a29, _, ⟨j30, rfl⟩ => (rs_last (rs_bindG (re_dOp1 (re_tail (w := (eT (eT eI))) (re_frzN (re_dN1n (re_bindP (rv_rdO rfl) (re_lift op_sortT)))) fun c31 => (rv_lift (y := ((eT (eT eI)) c31)) rfl))) fun c32 => (rs_ret (.inl rfl))))))))))))))))
def P__law_is_iso_2 (one : (List (List Int))) (two : (List (List Int))) (images : (List Int)) : M Bool := M.bind (M.bind (M.bind (pSortTu images) fun c1 => M.bind (pRng (one.length : Int)) fun c2 => .ok (!decide (c1 = c2))) fun c3 => .ok (c3 || (!decide ((one.length : Int) = (two.length : Int))))) fun c4 => if c4 = true then .ok false else M.bind (pRng (one.length : Int)) fun c5 => M.bind (pfor (fun (x43 : Int) (a44 : Unit) => M.bind (pRng (one.length : Int)) fun c47 => M.bind (pfor (fun (x62 : Int) (a63 : Unit) => M.bind (M.bind (M.bind (M.bind (pAt one x43) fun c65 => pAt c65 x62) fun c66 => pAt images c66) fun c70 => M.bind (M.bind (M.bind (pAt images x43) fun c71 => pAt two c71) fun c72 => M.bind (pAt images x62) fun c73 => pAt c72 c73) fun c74 => .ok (!decide (c70 = c74))) fun c75 => if c75 = true then .ok (.ret false) else .ok (.nx ())) c47 ()) fun r => pK r (fun (a76 : Unit) => .ok (.nx ())) F.ret) c5 ()) fun r => pK r (fun (a80 : Unit) => .ok true) (fun q => q)
theorem S__law_is_iso_2 (one : (List (List Int))) (two : (List (List Int))) (images : (List Int)) : DM (d__law_is_iso [(eL (eT eI)) one, (eL (eT eI)) two, (eT eI) images]) (P__law_is_iso_2 one two images) eB := fn_F rfl (show RS true (sSeq (sIf (dOr (dTst (dOp2 opNe (dFrz (dN1n nSortedA 2)) (dFrz (dLstRg (dRg1 (dOp1n opLen 0)))))) (dTst (dOp2 opNe (dOp1n opLen 0) (dOp1n opLen 1)))) (sRet (dC (.bl false))) sPass) (sSeq (sFor (.nm 3) (dRng (dOp1n opLen 0)) (sFor (.nm 4) (dRng (dOp1n opLen 0)) (sIf (dTst (dOp2 opNe (dOp2n opIx 2 (dOp2 opIx (dOp2n opIx 0 (dVar 3)) (dVar 4))) (dOp2 opIx (dOp2n opIx 1 (dOp2n opIx 2 (dVar 3))) (dOp2n opIx 2 (dVar 4))))) (sRet (dC (.bl false))) sPass))) (sRet (dC (.bl true))))) [.sh ((eL (eT eI)) one), .sh ((eL (eT eI)) two), .sh ((eT eI) images), .no, .no] (P__law_is_iso_2 one two images) (Kfn eB) from
  (rs_bindG (re_dOr (re_bindG (re_tst (re_dOp2 (re_bindG (re_frzN (re_dN1n (re_bindP (rv_rd rfl) (re_lift (op_sortTu (xs := images)))))) fun c1 => (re_bindG (re_frzN (re_lrgP (rv_dOp1n (rv_bind (rv_rd rfl) (rv_lift op_lenL))))) fun c2 => (re_rv (w := eB) (rv_lift (ne_py (pyL pyI) (x := c1) (y := c2)))))))) fun c3 => (re_rv (w := (fun b : Bool => b)) (rv_or fun _ => (rv_tst (rv_dOp2 (rv_bind (rv_dOp1n (rv_bind (rv_rd rfl) (rv_lift op_lenL))) (rv_bind (rv_dOp1n (rv_bind (rv_rd rfl) (rv_lift op_lenL))) (rv_lift (ne_py pyI (x := (one.length : Int)) (y := (two.length : Int)))))))))))) fun c4 => (rs_ite (fun _ => (rs_bindP rv_ret (rs_ret (.inl rfl)))) (fun _ => (rs_nx (rs_bindG (re_dRng (re_bindP (rv_dOp1n (rv_bind (rv_rd rfl) (rv_lift op_lenL))) (re_lift op_rng))) fun c5 => (rs_for1 (e := eI) (xs := c5) (a := ()) (f := fun (x43 : Int) (a44 : Unit) => M.bind (pRng (one.length : Int)) fun c47 => M.bind (pfor (fun (x62 : Int) (a63 : Unit) => M.bind (M.bind (M.bind (M.bind (pAt one x43) fun c65 => pAt c65 x62) fun c66 => pAt images c66) fun c70 => M.bind (M.bind (M.bind (pAt images x43) fun c71 => pAt two c71) fun c72 => M.bind (pAt images x62) fun c73 => pAt c72 c73) fun c74 => .ok (!decide (c70 = c74))) fun c75 => if c75 = true then .ok (.ret false) else .ok (.nx ())) c47 ()) fun r => pK r (fun (a76 : Unit) => .ok (.nx ())) F.ret) (h := (fun q => q)) (fun (a83 : Unit) (st : DSt) => ∃ (j84 : (Option D)), ∃ (j85 : (Option D)), st = [.sh ((eL (eT eI)) one), .sh ((eL (eT eI)) two), .sh ((eT eI) images), jk j84, jk j85]) ⟨none, none, rfl⟩ (fun | x43, a44, _, ⟨j45, j46, rfl⟩ => ⟨[.sh ((eL (eT eI)) one), .sh ((eL (eT eI)) two), .sh ((eT eI) images), .sh (eI x43), jk j46], rfl, (rs_last (rs_bindG (re_dRng (re_bindP (rv_dOp1n (rv_bind (rv_rd rfl) (rv_lift op_lenL))) (re_lift op_rng))) fun c47 => (rs_for1 (e := eI) (xs := c47) (a := ()) (f := fun (x62 : Int) (a63 : Unit) => M.bind (M.bind (M.bind (M.bind (pAt one x43) fun c65 => pAt c65 x62) fun c66 => pAt images c66) fun c70 => M.bind (M.bind (M.bind (pAt images x43) fun c71 => pAt two c71) fun c72 => M.bind (pAt images x62) fun c73 => pAt c72 c73) fun c74 => .ok (!decide (c70 = c74))) fun c75 => if c75 = true then .ok (.ret false) else .ok (.nx ())) (h := F.ret) (fun (a78 : Unit) (st : DSt) => ∃ (j79 : (Option D)), st = [.sh ((eL (eT eI)) one), .sh ((eL (eT eI)) two), .sh ((eT eI) images), .sh (eI x43), jk j79]) ⟨j46, rfl⟩ (fun | x62, a63, _, ⟨j64, rfl⟩ => ⟨[.sh ((eL (eT eI)) one), .sh ((eL (eT eI)) two), .sh ((eT eI) images), .sh (eI x43), .sh (eI x62)], rfl, (rs_last (rs_bindG (re_tst (re_dOp2 (re_bindG (re_dOp2n (re_bindP (rv_rd rfl) (re_bindG (re_dOp2 (re_bindG (re_dOp2n (re_bindP (rv_rd rfl) (re_bindP (rv_var rfl) (re_bindP (rv_rd rfl) (re_lift op_atL))))) fun c65 => (re_bindP (rv_var rfl) (re_lift op_atT)))) fun c66 => (re_bindP (rv_rd rfl) (re_lift op_atT))))) fun c70 => (re_bindG (re_dOp2 (re_bindG (re_dOp2n (re_bindP (rv_rd rfl) (re_bindG (re_dOp2n (re_bindP (rv_rd rfl) (re_bindP (rv_var rfl) (re_bindP (rv_rd rfl) (re_lift op_atT))))) fun c71 => (re_bindP (rv_rd rfl) (re_lift op_atL))))) fun c72 => (re_bindG (re_dOp2n (re_bindP (rv_rd rfl) (re_bindP (rv_var rfl) (re_bindP (rv_rd rfl) (re_lift op_atT))))) fun c73 => (re_lift op_atT)))) fun c74 => (re_rv (w := eB) (rv_lift (ne_py pyI (x := c70) (y := c74)))))))) fun c75 => (rs_ite (fun _ => (rs_bindP rv_ret (rs_ret ⟨⟨_, rfl⟩, ⟨⟨_, rfl⟩, (.inl rfl)⟩⟩))) (fun _ => (rs_nx (rs_end ⟨rfl, (some (eI x62)), rfl⟩))))))⟩) (fun | a76, _, ⟨j77, rfl⟩ => (rs_end ⟨rfl, (some (eI x43)), j77, rfl⟩)))))⟩) (fun | a80, _, ⟨j81, j82, rfl⟩ => (rs_last (rs_bindP rv_ret (rs_ret (.inl rfl))))))))))))
def P__law_maps_2 (one : (List (List Int))) (two : (List (List Int))) : M (List (List Int)) := if (!decide ((two.length : Int) = (one.length : Int))) = true then .ok [] else M.bind (P__law_arrangements ((one.length : Int) - 1)) fun c2 => M.bind (pfold (fun (x27 : (List Int)) (a28 : (List (List Int))) => M.bind (M.bind (pMap (fun (x33 : Int) => .ok (1 + x33)) x27) fun c35 => pCat [0] c35) fun c36 => M.bind (P__law_is_iso_2 one two c36) fun c37 => if c37 = true then M.bind (pApp a28 c36) fun c38 => .ok c38 else .ok a28) c2 []) fun (a39 : (List (List Int))) => .ok a39
theorem S__law_maps_2 (one : (List (List Int))) (two : (List (List Int))) : DM (d__law_maps [(eL (eT eI)) one, (eL (eT eI)) two]) (P__law_maps_2 one two) (eT (eT eI)) := fn_F rfl (show RS true (sSeq (sSet 2 (dOp1n opLen 0)) (sSeq (sIf (dTst (dOp2 opNe (dOp1n opLen 1) (dVar 2))) (sRet (dTup dNil)) sPass) (sSeq (sOwn 3 (dLst dNil)) (sSeq (sFor (.nm 4) (dItems (dCall d__law_arrangements (dCons (dOp2 opSub (dVar 2) (dC (.int 1))) dNil))) (sSeq (sSet 5 (dOp2 opAdd (dTup (dCons (dC (.int 0)) dNil)) (dOp1 opTuple (dFrz (dComp [6] (.nm 6) (dItems (dVar 4)) dYes (dOp2 opAdd (dC (.int 1)) (dVar 6))))))) (sIf (dTst (dCall d__law_is_iso (dCons (dVar 0) (dCons (dVar 1) (dCons (dVar 5) dNil))))) (sExpr (dAppend 3 (dVar 5))) sPass))) (sRet (dOp1n opTuple 3)))))) [.sh ((eL (eT eI)) one), .sh ((eL (eT eI)) two), .no, .no, .no, .no, .no] (P__law_maps_2 one two) (Kfn (eT (eT eI))) from
  (rs_bindP (rv_dOp1n (rv_bind (rv_rd rfl) (rv_lift op_lenL))) (rs_put (st1 := [.sh ((eL (eT eI)) one), .sh ((eL (eT eI)) two), .sh (eI (one.length : Int)), .no, .no, .no, .no]) rfl (rs_bindP (rv_tst (rv_dOp2 (rv_bind (rv_dOp1n (rv_bind (rv_rd rfl) (rv_lift op_lenL))) (rv_bind (rv_var rfl) (rv_lift (ne_py pyI (x := (two.length : Int)) (y := (one.length : Int)))))))) (rs_ite (fun _ => (rs_bindP (rv_dTup (rv_nil (rv_lift (y := ((eT (eT eI)) [])) (op_tup (by exact Nat.le_of_ble_eq_true rfl) rfl)))) (rs_ret (.inl rfl)))) (fun _ => (rs_nx (rs_bindP (rv_dLst (rv_nil (rv_lift (y := ((List.map eI) [])) (op_lst (by exact Nat.le_of_ble_eq_true rfl) rfl)))) (rs_put (st1 := [.sh ((eL (eT eI)) one), .sh ((eL (eT eI)) two), .sh (eI (one.length : Int)), .ow (List.map eI []), .no, .no, .no]) rfl (rs_bindG (re_dItems (re_tail (w := (List.map (eT eI))) (re_dCall (re_consP (rv_dOp2 (rv_bind (rv_var rfl) (rv_bind rv_ret (rv_lift (y := (eI ((one.length : Int) - 1))) rfl)))) (re_nil (re_liftM (S__law_arrangements ((one.length : Int) - 1)))))) fun c1 => (rv_lift (y := ((List.map (eT eI)) c1)) rfl))) fun c2 => (rs_for0 (e := (eT eI)) (xs := c2) (a := []) (f := fun (x27 : (List Int)) (a28 : (List (List Int))) => M.bind (M.bind (pMap (fun (x33 : Int) => .ok (1 + x33)) x27) fun c35 => pCat [0] c35) fun c36 => M.bind (P__law_is_iso_2 one two c36) fun c37 => if c37 = true then M.bind (pApp a28 c36) fun c38 => .ok c38 else .ok a28) (fun (a42 : (List (List Int))) (st : DSt) => ∃ (j43 : (Option D)), ∃ (j44 : (Option D)), st = [.sh ((eL (eT eI)) one), .sh ((eL (eT eI)) two), .sh (eI (one.length : Int)), .ow (List.map (eT eI) a42), jk j43, jk j44, .no]) ⟨none, none, rfl⟩ (fun | x27, a28, _, ⟨j29, j30, rfl⟩ => ⟨[.sh ((eL (eT eI)) one), .sh ((eL (eT eI)) two), .sh (eI (one.length : Int)), .ow (List.map (eT eI) a28), .sh ((eT eI) x27), jk j30, .no], rfl, (rs_bindG (re_dOp2 (re_bindP (rv_dTup (rv_cons rv_ret (rv_nil (rv_lift (y := ((eT eI) [0])) (op_tup (by exact Nat.le_of_ble_eq_true rfl) rfl))))) (re_bindG (re_dOp1 (re_tail (w := (eT eI)) (re_frzN (re_bindP (rv_dItems (rv_bind (rv_var rfl) (rv_lift (y := ((List.map eI) x27)) rfl))) (re_compM (e := eI) (f := fun (x33 : Int) => .ok (1 + x33)) ([.sh ((eL (eT eI)) one), .sh ((eL (eT eI)) two), .sh (eI (one.length : Int)), .ow (List.map (eT eI) a28), .sh ((eT eI) x27), jk j30, .no]) rfl rfl rfl (fun x33 => ⟨[.sh ((eL (eT eI)) one), .sh ((eL (eT eI)) two), .sh (eI (one.length : Int)), .ow (List.map (eT eI) a28), .sh ((eT eI) x27), jk j30, .sh (eI x33)], [.sh ((eL (eT eI)) one), .sh ((eL (eT eI)) two), .sh (eI (one.length : Int)), .ow (List.map (eT eI) a28), .sh ((eT eI) x27), jk j30, .sh (eI x33)], rfl, (re_rv (w := eI) (rv_dOp2 (rv_bind rv_ret (rv_bind (rv_var rfl) (rv_lift (y := (eI (1 + x33))) rfl))))), rfl, rfl⟩)))) fun c34 => (rv_lift (y := ((eT eI) c34)) rfl))) fun c35 => (re_lift (op_catT (e := eI) (xs := [0]) (ys := c35)))))) fun c36 => (rs_put (st1 := [.sh ((eL (eT eI)) one), .sh ((eL (eT eI)) two), .sh (eI (one.length : Int)), .ow (List.map (eT eI) a28), .sh ((eT eI) x27), .sh ((eT eI) c36), .no]) rfl (rs_last (rs_bindG (re_tst (re_dCall (re_consP (rv_var rfl) (re_consP (rv_var rfl) (re_consP (rv_var rfl) (re_nil (re_liftM (S__law_is_iso_2 one two c36)))))))) fun c37 => (rs_ite (fun _ => (rs_x (x_appP (e := (eT eI)) (xs := a28) rfl (rv_var rfl) rfl) fun c38 => rs_st ([.sh ((eL (eT eI)) one), .sh ((eL (eT eI)) two), .sh (eI (one.length : Int)), .ow (List.map (eT eI) c38), .sh ((eT eI) x27), .sh ((eT eI) c36), .no]) rfl (rs_end ⟨rfl, (some ((eT eI) x27)), (some ((eT eI) c36)), rfl⟩))) (fun _ => (rs_nx (rs_end ⟨rfl, (some ((eT eI) x27)), (some ((eT eI) c36)), rfl⟩))))))))⟩) (fun | a39, _, ⟨j40, j41, rfl⟩ => (rs_last (rs_bindP (rv_dOp1n (rv_bind (rv_rdO rfl) (rv_lift (y := ((eT (eT eI)) a39)) rfl))) (rs_ret (.inl rfl))))))))))))))))
def P_law (script : (List Int)) : M Bool := M.bind (pNX (P__law_state script)) fun c1 => M.bind (P__law_group c1 6) fun c3 => M.bind (P__law_group c3.2 6) fun c6 => M.bind (M.bind (P__law_take c6.2 2) fun c9 => .ok ((decide (c9.1 = 0)), c9.2)) fun c10 => M.bind (if c10.1 = true then .ok c3.1 else .ok c6.1 : M (List (List Int))) fun (a12 : (List (List Int))) => M.bind (M.bind (P__law_inner_order c10.2 (c3.1.length : Int)) fun c14 => M.bind (P__law_renamed c3.1 c14.1) fun c15 => .ok (c15, c14.2)) fun c16 => M.bind (M.bind (P__law_inner_order c16.2 (a12.length : Int)) fun c19 => M.bind (P__law_renamed a12 c19.1) fun c20 => .ok (c20, c19.2)) fun c21 => M.bind (P__law_least c16.1) fun c23 => M.bind (M.bind (M.bind (P_group_form c16.1) fun c24 => .ok (!decide ((some c24) = c23))) fun c25 => if c25 = true then .ok true else M.bind (M.bind (pMap (fun (x26 : (List Int)) => .ok x26) c16.1) fun c28 => P_group_form_2 c28) fun c29 => .ok (!decide ((some c29) = c23))) fun c30 => if c30 = true then .ok false else M.bind (M.bind (M.bind (P_form_maps c16.1) fun c31 => M.bind (P__law_maps c16.1 c23) fun c32 => .ok (!decide (c31 = c32))) fun c33 => if c33 = true then .ok true else M.bind (P_group_isomorphisms c16.1 c21.1) fun c34 => M.bind (P__law_maps_2 c16.1 c21.1) fun c35 => .ok (!decide (c34 = c35))) fun c36 => if c36 = true then .ok false else M.bind (M.bind (M.bind (P_group_form c21.1) fun c37 => .ok (decide ((some c37) = c23))) fun c40 => M.bind (M.bind (M.bind (P__law_maps_2 c16.1 c21.1) fun c41 => .ok (c41.length : Int)) fun c42 => .ok (decide (c42 > 0))) fun c43 => .ok (decide (c40 = c43))) fun c44 => .ok c44
theorem S_law (script : (List Int)) : D0 (d_law [D.scr script]) (P_law script) eB := fn_F0 rfl (show RS false (sSeq (sOwn 1 (dCallO d__law_state (dCons (dVar 0) dNil))) (sSeq (sPar 2 3 (dCallR d__law_group 1 (dCons (dC (.int 6)) dNil)) (dCallR d__law_group 1 (dCons (dC (.int 6)) dNil))) (sSeq (sIf (dTst (dOp2 opEq (dCallR d__law_take 1 (dCons (dC (.int 2)) dNil)) (dC (.int 0)))) (sSet 3 (dVar 2)) sPass) (sSeq (sSet 4 (dCall d__law_renamed (dCons (dVar 2) (dCons (dCallR d__law_inner_order 1 (dCons (dOp1n opLen 2) dNil)) dNil)))) (sSeq (sSet 5 (dCall d__law_renamed (dCons (dVar 3) (dCons (dCallR d__law_inner_order 1 (dCons (dOp1n opLen 3) dNil)) dNil)))) (sSeq (sSet 6 (dCall d__law_least (dCons (dVar 4) dNil))) (sSeq (sIf (dOr (dTst (dOp2 opNe (dCall d_group_form (dCons (dVar 4) dNil)) (dVar 6))) (dTst (dOp2 opNe (dCall d_group_form (dCons (dOp1 opTuple (dFrz (dComp [7] (.nm 7) (dItems (dVar 4)) dYes (dFrz (dN1n nList 7))))) dNil)) (dVar 6)))) (sRet (dC (.bl false))) sPass) (sSeq (sIf (dOr (dTst (dOp2 opNe (dCall d_form_maps (dCons (dVar 4) dNil)) (dCall d__law_maps (dCons (dVar 4) (dCons (dVar 6) dNil))))) (dTst (dOp2 opNe (dCall d_group_isomorphisms (dCons (dVar 4) (dCons (dVar 5) dNil))) (dCall d__law_maps (dCons (dVar 4) (dCons (dVar 5) dNil)))))) (sRet (dC (.bl false))) sPass) (sRet (dOp2 opEq (dOp2 opEq (dCall d_group_form (dCons (dVar 5) dNil)) (dVar 6)) (dOp2 opGt (dOp1 opLen (dCall d__law_maps (dCons (dVar 4) (dCons (dVar 5) dNil)))) (dC (.int 0))))))))))))) [.sh (D.scr script), .no, .no, .no, .no, .no, .no, .no] (P_law script) (Kfn eB) from
  (rs_bindG (re_dCallO (re_consP (rv_var rfl) (re_nil (re_liftO (S__law_state script))))) fun c1 => (rs_put (st1 := [.sh (D.scr script), .ow (List.map eI c1), .no, .no, .no, .no, .no, .no]) rfl (rs_bindS (fun (r4 : List Int) => [.sh (D.scr script), .ow (List.map eI r4), .no, .no, .no, .no, .no, .no]) (rt_dCallR (rt_bindP (rv_ow rfl) (rt_consP rv_ret (rt_nil (rt_callO (S := fun r2 => [.sh (D.scr script), .ow (List.map eI r2), .no, .no, .no, .no, .no, .no]) rfl (fun _ => rfl) (S__law_group c1 6)))))) fun c3 => (rs_bindS (fun (r7 : List Int) => [.sh (D.scr script), .ow (List.map eI r7), .no, .no, .no, .no, .no, .no]) (rt_dCallR (rt_bindP (rv_ow rfl) (rt_consP rv_ret (rt_nil (rt_callO (S := fun r5 => [.sh (D.scr script), .ow (List.map eI r5), .no, .no, .no, .no, .no, .no]) rfl (fun _ => rfl) (S__law_group c3.2 6)))))) fun c6 => (rs_exec (st1 := [.sh (D.scr script), .ow (List.map eI c6.2), .sh ((eL (eT eI)) c3.1), .sh ((eL (eT eI)) c6.1), .no, .no, .no, .no]) rfl (rs_bindS (fun (r11 : List Int) => [.sh (D.scr script), .ow (List.map eI r11), .sh ((eL (eT eI)) c3.1), .sh ((eL (eT eI)) c6.1), .no, .no, .no, .no]) (rt_tst (rt_dOp2 (rt_bindS (rt_dCallR (rt_bindP (rv_ow rfl) (rt_consP rv_ret (rt_nil (rt_callO (S := fun r8 => [.sh (D.scr script), .ow (List.map eI r8), .sh ((eL (eT eI)) c3.1), .sh ((eL (eT eI)) c6.1), .no, .no, .no, .no]) rfl (fun _ => rfl) (S__law_take c6.2 2)))))) fun c9 => (rt_bindP rv_ret (rt_rv (v := eB) (rv_lift (eq_py pyI (x := c9.1) (y := 0)))))))) fun c10 => (rs_join (I := (fun (a45 : (List (List Int))) (st : DSt) => st = [.sh (D.scr script), .ow (List.map eI c10.2), .sh ((eL (eT eI)) c3.1), .sh ((eL (eT eI)) a45), .no, .no, .no, .no])) (rs_iteN (fun _ => (rs_last (rs_bindP (rv_var rfl) (rs_put (st1 := [.sh (D.scr script), .ow (List.map eI c10.2), .sh ((eL (eT eI)) c3.1), .sh ((eL (eT eI)) c3.1), .no, .no, .no, .no]) rfl (rs_end ⟨rfl, rfl⟩))))) (fun _ => (rs_end ⟨rfl, rfl⟩))) fun | a12, _, rfl => (rs_bindS (fun (r17 : List Int) => [.sh (D.scr script), .ow (List.map eI r17), .sh ((eL (eT eI)) c3.1), .sh ((eL (eT eI)) a12), .no, .no, .no, .no]) (rt_dCall (rt_consP (rv_var rfl) (rt_consS (rt_dCallR (rt_bindP (rv_ow rfl) (rt_consP (rv_dOp1n (rv_bind (rv_rd rfl) (rv_lift op_lenL))) (rt_nil (rt_callO (S := fun r13 => [.sh (D.scr script), .ow (List.map eI r13), .sh ((eL (eT eI)) c3.1), .sh ((eL (eT eI)) a12), .no, .no, .no, .no]) rfl (fun _ => rfl) (S__law_inner_order c10.2 (c3.1.length : Int))))))) fun c14 => (rt_nil (rt_re (re_liftM (S__law_renamed c3.1 c14.1))))))) fun c16 => (rs_put (st1 := [.sh (D.scr script), .ow (List.map eI c16.2), .sh ((eL (eT eI)) c3.1), .sh ((eL (eT eI)) a12), .sh ((eL (eT eI)) c16.1), .no, .no, .no]) rfl (rs_bindS (fun (r22 : List Int) => [.sh (D.scr script), .ow (List.map eI r22), .sh ((eL (eT eI)) c3.1), .sh ((eL (eT eI)) a12), .sh ((eL (eT eI)) c16.1), .no, .no, .no]) (rt_dCall (rt_consP (rv_var rfl) (rt_consS (rt_dCallR (rt_bindP (rv_ow rfl) (rt_consP (rv_dOp1n (rv_bind (rv_rd rfl) (rv_lift op_lenL))) (rt_nil (rt_callO (S := fun r18 => [.sh (D.scr script), .ow (List.map eI r18), .sh ((eL (eT eI)) c3.1), .sh ((eL (eT eI)) a12), .sh ((eL (eT eI)) c16.1), .no, .no, .no]) rfl (fun _ => rfl) (S__law_inner_order c16.2 (a12.length : Int))))))) fun c19 => (rt_nil (rt_re (re_liftM (S__law_renamed a12 c19.1))))))) fun c21 => (rs_put (st1 := [.sh (D.scr script), .ow (List.map eI c21.2), .sh ((eL (eT eI)) c3.1), .sh ((eL (eT eI)) a12), .sh ((eL (eT eI)) c16.1), .sh ((eL (eT eI)) c21.1), .no, .no]) rfl (rs_bindG (re_dCall (re_consP (rv_var rfl) (re_nil (re_liftM (S__law_least c16.1))))) fun c23 => (rs_put (st1 := [.sh (D.scr script), .ow (List.map eI c21.2), .sh ((eL (eT eI)) c3.1), .sh ((eL (eT eI)) a12), .sh ((eL (eT eI)) c16.1), .sh ((eL (eT eI)) c21.1), .sh ((eO (eT (eT eI))) c23), .no]) rfl (rs_bindG (re_dOr (re_bindG (re_tst (re_dOp2 (re_bindG (re_dCall (re_consP (rv_var rfl) (re_nil (re_liftM (S_group_form c16.1))))) fun c24 => (re_bindP (rv_var rfl) (re_rv (w := eB) (rv_lift (ne_py (pyO (pyT (pyT pyI)) (by intro x; constructor <;> first | rfl | simp [pyI, pyL, pyT, pyP2, pyP3, pyP4, PyData.eqv])) (x := (some c24)) (y := c23)))))))) fun c25 => (re_ite (fun _ => re_rv rv_ret) (fun _ => (re_tst (re_dOp2 (re_bindG (re_dCall (re_consG (re_dOp1 (re_tail (w := (eT (eL eI))) (re_frzN (re_bindP (rv_dItems (rv_bind (rv_var rfl) (rv_lift (y := ((List.map (eT eI)) c16.1)) rfl))) (re_compM (e := (eT eI)) (f := fun (x26 : (List Int)) => .ok x26) ([.sh (D.scr script), .ow (List.map eI c21.2), .sh ((eL (eT eI)) c3.1), .sh ((eL (eT eI)) a12), .sh ((eL (eT eI)) c16.1), .sh ((eL (eT eI)) c21.1), .sh ((eO (eT (eT eI))) c23), .no]) rfl rfl rfl (fun x26 => ⟨[.sh (D.scr script), .ow (List.map eI c21.2), .sh ((eL (eT eI)) c3.1), .sh ((eL (eT eI)) a12), .sh ((eL (eT eI)) c16.1), .sh ((eL (eT eI)) c21.1), .sh ((eO (eT (eT eI))) c23), .sh ((eT eI) x26)], [.sh (D.scr script), .ow (List.map eI c21.2), .sh ((eL (eT eI)) c3.1), .sh ((eL (eT eI)) a12), .sh ((eL (eT eI)) c16.1), .sh ((eL (eT eI)) c21.1), .sh ((eO (eT (eT eI))) c23), .sh ((eT eI) x26)], rfl, (re_rv (w := (eL eI)) (rv_frzN (d := ((eL eI) x26)) (rv_dN1n (rv_bind (rv_rd rfl) (rv_lift (y := ((List.map eI) x26)) rfl))) rfl)), rfl, rfl⟩)))) fun c27 => (rv_lift (y := ((eT (eL eI)) c27)) rfl))) fun c28 => (re_nil (re_liftM (S_group_form_2 c28))))) fun c29 => (re_bindP (rv_var rfl) (re_rv (w := eB) (rv_lift (ne_py (pyO (pyT (pyT pyI)) (by intro x; constructor <;> first | rfl | simp [pyI, pyL, pyT, pyP2, pyP3, pyP4, PyData.eqv])) (x := (some c29)) (y := c23)))))))))))) fun c30 => (rs_ite (fun _ => (rs_bindP rv_ret (rs_ret (.inl rfl)))) (fun _ => (rs_nx (rs_bindG (re_dOr (re_bindG (re_tst (re_dOp2 (re_bindG (re_dCall (re_consP (rv_var rfl) (re_nil (re_liftM (S_form_maps c16.1))))) fun c31 => (re_bindG (re_dCall (re_consP (rv_var rfl) (re_consP (rv_var rfl) (re_nil (re_liftM (S__law_maps c16.1 c23)))))) fun c32 => (re_rv (w := eB) (rv_lift (ne_py (pyT (pyT pyI)) (x := c31) (y := c32)))))))) fun c33 => (re_ite (fun _ => re_rv rv_ret) (fun _ => (re_tst (re_dOp2 (re_bindG (re_dCall (re_consP (rv_var rfl) (re_consP (rv_var rfl) (re_nil (re_liftM (S_group_isomorphisms c16.1 c21.1)))))) fun c34 => (re_bindG (re_dCall (re_consP (rv_var rfl) (re_consP (rv_var rfl) (re_nil (re_liftM (S__law_maps_2 c16.1 c21.1)))))) fun c35 => (re_rv (w := eB) (rv_lift (ne_py (pyT (pyT pyI)) (x := c34) (y := c35)))))))))))) fun c36 => (rs_ite (fun _ => (rs_bindP rv_ret (rs_ret (.inl rfl)))) (fun _ => (rs_nx (rs_last (rs_bindG (re_dOp2 (re_bindG (re_dOp2 (re_bindG (re_dCall (re_consP (rv_var rfl) (re_nil (re_liftM (S_group_form c21.1))))) fun c37 => (re_bindP (rv_var rfl) (re_rv (w := eB) (rv_lift (eq_py (pyO (pyT (pyT pyI)) (by intro x; constructor <;> first | rfl | simp [pyI, pyL, pyT, pyP2, pyP3, pyP4, PyData.eqv])) (x := (some c37)) (y := c23))))))) fun c40 => (re_bindG (re_dOp2 (re_bindG (re_dOp1 (re_bindG (re_dCall (re_consP (rv_var rfl) (re_consP (rv_var rfl) (re_nil (re_liftM (S__law_maps_2 c16.1 c21.1)))))) fun c41 => (re_rv (w := eI) (rv_lift op_lenT)))) fun c42 => (re_bindP rv_ret (re_rv (w := eB) (rv_lift (y := (eB (decide (c42 > 0)))) rfl))))) fun c43 => (re_rv (w := eB) (rv_lift (eq_py pyB (x := c40) (y := c43))))))) fun c44 => (rs_ret (.inl rfl))))))))))))))))))))))))))
end LAW
namespace LAW
open DL PySem L2
theorem take_d {m : Int} (h0 : 0 < m) (h1 : m < 1073741824) : Draw (fun r => P__law_take r m) (fun v => 0 ≤ v ∧ v < m) := by
  rintro _ ⟨s, t, rfl, g⟩
  have e0 : pAt [s, t] 0 = .ok s := rfl
  have e1 : pAt [s, t] 1 = .ok t := rfl
  have e2 : ∀ v, pSet [s, t] 0 v = .ok [v, t] := fun _ => rfl
  have e3 : ∀ v, pSet [s, t] 1 v = .ok [s, v] := fun _ => rfl
  have e4 : ∀ s v : Int, pAt [s, v] 1 = .ok v := fun _ _ => rfl
  by_cases hs : 0 < s
  · refine ⟨(s % m, [s / m, t]), ?_, ⟨Int.emod_nonneg _ (by omega), Int.emod_lt_of_pos _ h0⟩, s / m, t, rfl, ⟨Int.ediv_nonneg g.s0 (by omega), g.t0, g.t1⟩⟩
    simp [P__law_take, e0, e1, e2, hs, pMod_ok h0, pDiv_ok h0 h1]
  · refine ⟨((((t * 48271 + 11) % 2147483647) / 7) % m, [s, (t * 48271 + 11) % 2147483647]), ?_, ⟨Int.emod_nonneg _ (by omega), Int.emod_lt_of_pos _ h0⟩, s, _, rfl, ⟨g.s0, Int.emod_nonneg _ (by decide), Int.emod_lt_of_pos _ (by decide)⟩⟩
    have q1 : pMul t 48271 = .ok (t * 48271) := pMul_ok2 (by decide)
    have q2 : ∀ x, pMod x 2147483647 = .ok (x % 2147483647) := fun x => pMod_ok (by decide)
    have q3 : ∀ x, pDiv x 7 = .ok (x / 7) := fun x => pDiv_ok (by decide) (by decide)
    simp [P__law_take, e0, e1, e2, e3, e4, hs, q1, q2, q3, pMod_ok h0]
theorem state_d (ns : List Int) : Ok (P__law_state ns) StOk := by
  unfold P__law_state
  refine Ok.bind (P := fun a => Good a.1 a.2) (Ok.fold_all _ ⟨by decide, by decide, by decide⟩ fun x _ a g => ?_) fun a g => ⟨_, rfl, _, _, rfl, g⟩
  rw [pMul_ok2 (by decide), pMul_ok2 (by decide)]
  simp only [bind_ok]
  rw [pMod_ok (by decide)]
  refine Ok.pure ⟨?_, Int.emod_nonneg _ (by decide), Int.emod_lt_of_pos _ (by decide)⟩
  have := g.s0
  show 0 ≤ _ + _
  split <;> omega
theorem seqIx {j : Nat} {n : Nat} (h : j < n) : seqIndex? (j : Int) n = some j := by
  unfold seqIndex?
  simp; omega
theorem popAt_ok {α : Type} [Inhabited α] {xs : List α} {k : Int} (h0 : 0 ≤ k) (h : k < xs.length) (hb : xs.length ≤ 16777216) : pPopAt xs k = .ok (ix xs k, xs.eraseIdx k.toNat) := by
  obtain ⟨j, rfl⟩ := Int.eq_ofNat_of_zero_le h0
  have hj : j < xs.length := by omega
  unfold pPopAt
  rw [seqIx hj]
  have hbig : big = 16777216 := rfl
  simp only [List.getElem?_eq_getElem hj]
  rw [if_pos (by omega)]
  simp [ix, hj]
theorem perm_erase {α : Type} [Inhabited α] : ∀ (l : List α) (j : Nat), j < l.length → (ix l j :: l.eraseIdx j).Perm l
  | [], _, h => absurd h (Nat.not_lt_zero _)
  | x :: l, 0, _ => .refl _
  | x :: l, j + 1, h => by
    have e : ix (x :: l) ((j + 1 : Nat) : Int) = ix l (j : Int) := by rw [ix_cons (by omega)]; congr 1; omega
    rw [e]
    exact (List.Perm.swap _ _ _).trans ((perm_erase l j (by simpa using h)).cons x)
theorem order_d {n : Int} (h0 : 0 ≤ n) (hn : n ≤ 1000) : Draw (fun r => P__law_order_of r n) (fun p => p.Perm (rng n)) := by
  intro r hr
  unfold P__law_order_of
  rw [pRng_ok h0 (by omega)]
  simp only [bind_ok]
  refine Ok.bind (Ok.fold_rng (fun k (a : List Int × List Int × List Int) => StOk a.1 ∧ (a.2.1.length : Int) = n - k ∧ (a.2.2.length : Int) = k ∧ (a.2.1 ++ a.2.2).Perm (rng n)) h0 ⟨hr, by simp; omega, rfl, by simp⟩ (fun k a hk hk' hi => ?_) fun b h => h) fun b hb => ?_
  · obtain ⟨r, left, found⟩ := a
    obtain ⟨hr, hl, hf, hp⟩ := hi
    simp only at hr hl hf hp ⊢
    refine (take_d (m := (left.length : Int)) (by omega) (by omega) r hr).bind fun c hc => ?_
    obtain ⟨⟨h3, h4⟩, hr'⟩ := hc
    rw [popAt_ok h3 h4 (by omega), bind_ok, pApp_ok (by omega), bind_ok]
    refine Ok.pure ⟨hr', ?_, ?_, ?_⟩
    · simp only [List.length_eraseIdx]
      rw [if_pos (by omega)]
      omega
    · simp; omega
    · simp only
      refine List.Perm.trans ?_ hp
      rw [← List.append_assoc]
      refine List.perm_append_comm.trans ?_
      have := perm_erase left c.1.toNat (by omega)
      rw [Int.toNat_of_nonneg h3] at this
      exact this.append_right found
  · obtain ⟨hr, hl, hf, hp⟩ := hb
    refine Ok.pure ⟨?_, hr⟩
    have : b.2.1 = [] := List.length_eq_zero_iff.mp (by omega)
    rw [this] at hp
    simpa using hp
/-- p is one to one on the numbers below n -/
structure Ord (n : Int) (p : List Int) : Prop where
  len : (p.length : Int) = n
  lt : ∀ x ∈ p, 0 ≤ x ∧ x < n
  inj : ∀ a b, 0 ≤ a → a < n → 0 ≤ b → b < n → ix p a = ix p b → a = b
  sur : ∀ y, 0 ≤ y → y < n → ∃ x, 0 ≤ x ∧ x < n ∧ ix p x = y
theorem Ord.at_ {n : Int} {p : List Int} (o : Ord n p) {x : Int} (h0 : 0 ≤ x) (h1 : x < n) : 0 ≤ ix p x ∧ ix p x < n := o.lt _ (ix_mem h0 (by rw [o.len]; exact h1))
end LAW
namespace LAW
open DL PySem L2
structure Sq (n : Int) (M : List (List Int)) : Prop where
  len : (M.length : Int) = n
  row : ∀ r ∈ M, (r.length : Int) = n
def set2 (M : List (List Int)) (k l v : Int) : List (List Int) := M.set k.toNat ((ix M k).set l.toNat v)
section
variable {n : Int} {M : List (List Int)} {k l v i j : Int}
theorem Sq.rlen (V : Sq n M) (h0 : 0 ≤ i) (h1 : i < n) : ((ix M i).length : Int) = n := V.row _ (ix_mem h0 (by rw [V.len]; exact h1))
theorem pSet2_ok (V : Sq n M) (h0 : 0 ≤ k) (h1 : k < n) (h2 : 0 ≤ l) (h3 : l < n) : pSet2 M k l v = .ok (set2 M k l v) := by
  unfold pSet2 set2
  rw [pAt_ok h0 (by rw [V.len]; exact h1), bind_ok, pSet_ok h2 (by rw [V.rlen h0 h1]; exact h3), bind_ok, pSet_ok h0 (by rw [V.len]; exact h1)]
theorem Sq.set (V : Sq n M) (h0 : 0 ≤ k) (h1 : k < n) : Sq n (set2 M k l v) := by
  refine ⟨by unfold set2; rw [List.length_set]; exact V.len, fun r hr => ?_⟩
  rcases List.mem_or_eq_of_mem_set hr with hr | rfl
  · exact V.row r hr
  · rw [List.length_set]; exact V.rlen h0 h1
theorem mul_set2 (V : Sq n M) (h0 : 0 ≤ k) (h1 : k < n) (h2 : 0 ≤ l) (h3 : l < n) (hi : 0 ≤ i) (hj : 0 ≤ j) : mul (set2 M k l v) i j = if i = k ∧ j = l then v else mul M i j := by
  unfold mul set2
  rw [ix_set h0 (by rw [V.len]; exact h1) hi]
  by_cases e : i = k
  · subst e
    rw [if_pos rfl, ix_set h2 (by rw [V.rlen h0 h1]; exact h3) hj]
    simp
  · rw [if_neg e, if_neg (fun q => e q.1)]
theorem VT_sq {T : List (List Int)} (V : VT n T) : Sq n T := ⟨V.len, V.row⟩
end
theorem renamed_d {n : Int} {T : List (List Int)} {p : List Int} (hn : n ≤ 1000) (V : VT n T) (o : Ord n p) :
    Ok (P__law_renamed T p) (fun S => VT n S ∧ ∀ x y, 0 ≤ x → x < n → 0 ≤ y → y < n → mul S (ix p x) (ix p y) = ix p (mul T x y)) := by
  have n0 := V.n0
  unfold P__law_renamed
  rw [V.len]
  simp only [pRng_ok n0 (show n ≤ 16777216 by omega), bind_ok, bind_pure]
  rw [pMap_tab (f := fun _ _ => 0) n0 (by omega) (fun _ _ _ _ _ _ => rfl), bind_ok]
  refine Ok.bind (Ok.fold_rng (fun k M => Sq n M ∧ ∀ x y, 0 ≤ x → x < n → 0 ≤ y → y < n → x < k → mul M (ix p x) (ix p y) = ix p (mul T x y)) n0 ⟨VT_sq (VT_tab (f := fun _ _ => 0) n0 (fun _ _ _ _ _ _ => ⟨by omega, by omega⟩)), fun x y _ _ _ _ h => by omega⟩ (fun k M hk hk' hM => ?_) fun _ h => h) fun M hM => ?_
  · obtain ⟨sq, hM⟩ := hM
    refine Ok.fold_rng (fun l M => Sq n M ∧ ∀ x y, 0 ≤ x → x < n → 0 ≤ y → y < n → (x < k ∨ (x = k ∧ y < l)) → mul M (ix p x) (ix p y) = ix p (mul T x y)) n0 ⟨sq, fun x y h1 h2 h3 h4 h5 => hM x y h1 h2 h3 h4 (by omega)⟩ (fun l M hl hl' hM => ?_) fun M hM => ⟨hM.1, fun x y h1 h2 h3 h4 h5 => hM.2 x y h1 h2 h3 h4 (by omega)⟩
    obtain ⟨sq, hM⟩ := hM
    have m1 := V.lt hk hk' hl hl'
    have a1 := o.at_ hk hk'
    have a2 := o.at_ hl hl'
    rw [V.at1 hk hk', bind_ok, V.at2 hk hk' hl hl', bind_ok, pAt_ok m1.1 (by rw [o.len]; exact m1.2), bind_ok, pAt_ok hk (by rw [o.len]; exact hk'), bind_ok, pAt_ok hl (by rw [o.len]; exact hl'), bind_ok,
      pSet2_ok sq a1.1 a1.2 a2.1 a2.2, pNX_ok]
    refine Ok.pure ⟨sq.set a1.1 a1.2, fun x y h1 h2 h3 h4 h5 => ?_⟩
    have b1 := o.at_ h1 h2
    have b2 := o.at_ h3 h4
    rw [mul_set2 sq a1.1 a1.2 a2.1 a2.2 b1.1 b2.1]
    by_cases e : x = k ∧ y = l
    · obtain ⟨rfl, rfl⟩ := e
      rw [if_pos ⟨rfl, rfl⟩]
    · rw [if_neg fun q => e ⟨o.inj x k h1 h2 hk hk' q.1, o.inj y l h3 h4 hl hl' q.2⟩]
      exact hM x y h1 h2 h3 h4 (by omega)
  · obtain ⟨sq, hM⟩ := hM
    have hb : big = 16777216 := rfl
    have hl := sq.len
    rw [pMap_ok (fun r => r) (by omega) (fun _ _ => rfl)]
    refine Ok.pure ?_
    rw [List.map_id']
    refine ⟨⟨sq.len, sq.row, fun r hr v hv => ?_⟩, fun x y h1 h2 h3 h4 => hM x y h1 h2 h3 h4 h2⟩
    obtain ⟨i, i0, i1, rfl⟩ := mem_ix hr
    obtain ⟨j, j0, j1, rfl⟩ := mem_ix hv
    rw [sq.len] at i1
    rw [sq.rlen i0 i1] at j1
    obtain ⟨x, x0, x1, rfl⟩ := o.sur i i0 i1
    obtain ⟨y, y0, y1, rfl⟩ := o.sur j j0 j1
    show 0 ≤ mul M (ix p x) (ix p y) ∧ mul M (ix p x) (ix p y) < n
    rw [hM x y x0 x1 y0 y1 x1]
    have m1 := V.lt x0 x1 y0 y1
    exact o.at_ m1.1 m1.2
end LAW
namespace LAW
open DL PySem L2
theorem strict_rng : ∀ {s : List Int} {a n : Int}, s.Pairwise (· < ·) → (∀ x ∈ s, a ≤ x ∧ x < n) → (s.length : Int) = n - a → s = rng2 a n
  | [], a, n, _, _, h => by
    have : rng2 a n = [] := List.length_eq_zero_iff.mp (by simp at h ⊢; omega)
    rw [this]
  | x :: s, a, n, hp, hb, h => by
    simp only [List.length_cons] at h
    have hp' := List.pairwise_cons.mp hp
    have hx := hb x List.mem_cons_self
    have bound : ∀ (s : List Int) (b : Int), s.Pairwise (· < ·) → (∀ x ∈ s, b ≤ x ∧ x < n) → (s.length : Int) ≤ n - b ∨ s = [] := by
      intro s
      induction s with
      | nil => intro b _ _; exact .inr rfl
      | cons y s ih =>
        intro b hs hb
        left
        have hs' := List.pairwise_cons.mp hs
        have hy := hb y List.mem_cons_self
        rcases ih (y + 1) hs'.2 (fun z hz => ⟨by have := hs'.1 z hz; omega, (hb z (List.mem_cons_of_mem _ hz)).2⟩) with q | q
        · simp only [List.length_cons]; omega
        · subst q; simp; omega
    have ex : x = a := by
      rcases bound s (x + 1) hp'.2 (fun z hz => ⟨by have := hp'.1 z hz; omega, (hb z (List.mem_cons_of_mem _ hz)).2⟩) with q | q
      · omega
      · subst q; simp at h; omega
    subst ex
    have ih := strict_rng (s := s) (a := x + 1) (n := n) hp'.2 (fun z hz => ⟨by have := hp'.1 z hz; omega, (hb z (List.mem_cons_of_mem _ hz)).2⟩) (by omega)
    rw [ih]
    unfold rng2
    have : (n - x).toNat = (n - (x + 1)).toNat + 1 := by omega
    rw [this, List.range_succ_eq_map, List.map_cons, List.map_map]
    simp only [Int.ofNat_eq_natCast, Int.natCast_zero, Int.add_zero]
    congr 1
    apply List.map_congr_left
    intro k _
    simp only [Function.comp]
    omega
theorem rng_rng2 {n : Int} : rng2 0 n = rng n := by
  unfold rng rng2
  rw [Int.sub_zero]
  apply List.map_congr_left
  intro k _
  omega
theorem sort_full {n : Int} {l : List Int} (hn : l.Nodup) (hb : ∀ x ∈ l, 0 ≤ x ∧ x < n) (hl : (l.length : Int) = n) : sortI l = rng n := by
  have hp := sortI_perm l
  rw [← rng_rng2]
  refine strict_rng ?_ (fun y hy => hb y (hp.mem_iff.mp hy)) (by rw [hp.length_eq]; omega)
  exact ((sortI_sorted l).and (hp.nodup_iff.mpr hn)).imp fun {a b} h => by have := h.1; have := h.2; omega
theorem idx_ix {α : Type} [DecidableEq α] [Inhabited α] {xs : List α} (hn : xs.Nodup) {i : Int} (h0 : 0 ≤ i) (h1 : i < xs.length) : idx xs (ix xs i) = i := by
  have hm := ix_mem h0 h1
  have hl := idx_lt hm
  have e := ix_idx hm
  generalize idx xs (ix xs i) = j at hl e
  unfold ix at e
  rw [List.getD_eq_getElem?_getD, List.getD_eq_getElem?_getD, List.getElem?_eq_getElem (by omega), List.getElem?_eq_getElem (by omega)] at e
  simp only [Option.getD_some] at e
  have := (List.getElem_inj hn).mp e
  omega
end LAW
namespace LAW
open DL PySem L2
def tb (o : M (List (List Int))) : List (List Int) := match o with | .ok t => t | _ => []
def grps : List (List (List Int)) := [tb (P__law_cyclic 1), tb (P__law_cyclic 2), tb (P__law_cyclic 3), tb (P__law_cyclic 4), tb (P__law_cyclic 5), tb (P__law_cyclic 6), tb P__law_klein, tb (P__law_dihedral 3)]
def inG (o : M (List (List Int))) : Bool := match o with | .ok t => decide (t ∈ grps) | _ => false
theorem inG_ok {o : M (List (List Int))} (h : inG o = true) : Ok o (fun t => t ∈ grps) := by
  unfold inG at h
  split at h
  · exact ⟨_, rfl, of_decide_eq_true h⟩
  · cases h
theorem cyc_all : (rng 6).all (fun c => inG (P__law_cyclic (1 + c))) = true := by decide +kernel
theorem kl_ok : inG P__law_klein = true := by decide +kernel
theorem dih_ok : inG (P__law_dihedral 3) = true := by decide +kernel
theorem group_d : Draw (fun r => P__law_group r 6) (fun t => t ∈ grps) := by
  intro r hr
  unfold P__law_group
  refine (take_d (m := 6) (by decide) (by decide) r hr).bind fun c hc => ?_
  refine Ok.ite (fun _ => ?_) fun _ => Ok.ite (fun _ => ?_) fun _ => ?_
  · exact (inG_ok kl_ok).bind fun t ht => Ok.pure ⟨ht, hc.2⟩
  · exact (inG_ok dih_ok).bind fun t ht => Ok.pure ⟨ht, hc.2⟩
  · simp only [bind_bind, bind_ok]
    refine (take_d (m := 6) (by decide) (by decide) c.2 hc.2).bind fun d hd => ?_
    exact (inG_ok (List.all_eq_true.mp cyc_all d.1 (mem_rng.mpr hd.1))).bind fun t ht => Ok.pure ⟨ht, hd.2⟩
/-- all lists of k numbers below m -/
def lists : Nat → Int → List (List Int)
  | 0, _ => [[]]
  | k + 1, m => (lists k m).flatMap fun q => (rng m).map fun x => q ++ [x]
theorem mem_lists {m : Int} : ∀ {k : Nat} {q : List Int}, q ∈ lists k m ↔ q.length = k ∧ ∀ x ∈ q, 0 ≤ x ∧ x < m
  | 0, q => by
    show q ∈ [[]] ↔ _
    rw [List.mem_singleton]
    constructor
    · rintro rfl; exact ⟨rfl, fun x h => by cases h⟩
    · intro h; exact List.eq_nil_of_length_eq_zero h.1
  | k + 1, q => by
    unfold lists
    rw [List.mem_flatMap]
    constructor
    · rintro ⟨p, hp, h⟩
      obtain ⟨x, hx, rfl⟩ := List.mem_map.mp h
      obtain ⟨h1, h2⟩ := mem_lists.mp hp
      refine ⟨by rw [List.length_append, h1]; rfl, fun y hy => ?_⟩
      rcases List.mem_append.mp hy with hy | hy
      · exact h2 y hy
      · rw [List.mem_singleton.mp hy]; exact mem_rng.mp hx
    · intro ⟨h1, h2⟩
      rcases List.eq_nil_or_concat q with rfl | ⟨p, x, rfl⟩
      · cases h1
      · rw [List.concat_eq_append] at *
        refine ⟨p, mem_lists.mpr ⟨by simpa using h1, fun y hy => h2 y (List.mem_append_left _ hy)⟩, List.mem_map.mpr ⟨x, mem_rng.mpr (h2 x (by simp)), rfl⟩⟩
def qs (m : Int) : List (List Int) := (lists m.toNat m).filter fun q => decide q.Nodup
def ords (n : Int) : List (List Int) := (qs (n - 1)).map fun q => 0 :: q.map fun x => 1 + x
theorem arr_all : (rng 6).all (fun m => match P__law_arrangements m with | .ok l => decide (l = qs m) | _ => false) = true := by decide +kernel
theorem arr_d {m : Int} (h0 : 0 ≤ m) (h : m < 6) : P__law_arrangements m = .ok (qs m) := by
  have h := List.all_eq_true.mp arr_all m (mem_rng.mpr ⟨h0, h⟩)
  cases e : P__law_arrangements m with
  | ok l => rw [e] at h; rw [of_decide_eq_true h]
  | exn _ _ => rw [e] at h; cases h
  | stuck => rw [e] at h; cases h
theorem mem_qs {m : Int} (h0 : 0 ≤ m) {q : List Int} : q ∈ qs m ↔ (q.length : Int) = m ∧ (∀ x ∈ q, 0 ≤ x ∧ x < m) ∧ q.Nodup := by
  unfold qs
  rw [List.mem_filter, mem_lists, decide_eq_true_eq, and_assoc]
  constructor
  · intro ⟨a, b⟩; exact ⟨by omega, b⟩
  · intro ⟨a, b⟩; exact ⟨by omega, b⟩
theorem nodup_inj {p : List Int} (h : p.Nodup) {a b : Int} (a0 : 0 ≤ a) (a1 : a < p.length) (b0 : 0 ≤ b) (b1 : b < p.length) (e : ix p a = ix p b) : a = b := by
  have := idx_ix h a0 a1
  rw [e, idx_ix h b0 b1] at this
  exact this.symm
theorem ords_of {n : Int} (n1 : 1 ≤ n) {f : List Int} (h : f ∈ ords n) : f.Nodup ∧ (f.length : Int) = n ∧ (∀ x ∈ f, 0 ≤ x ∧ x < n) ∧ ix f 0 = 0 := by
  unfold ords at h
  obtain ⟨q, hq, rfl⟩ := List.mem_map.mp h
  obtain ⟨h1, h2, h3⟩ := (mem_qs (by omega)).mp hq
  refine ⟨?_, by simp; omega, fun x hx => ?_, rfl⟩
  · rw [List.nodup_cons]
    refine ⟨fun hm => ?_, ?_⟩
    · obtain ⟨x, hx, e⟩ := List.mem_map.mp hm
      have := h2 x hx; omega
    · unfold List.Nodup
      rw [List.pairwise_map]
      exact h3.imp fun {a b} hab e => hab (by omega)
  · rcases List.mem_cons.mp hx with rfl | hx
    · omega
    · obtain ⟨y, hy, rfl⟩ := List.mem_map.mp hx
      have := h2 y hy; omega
theorem of_ords {n : Int} (n1 : 1 ≤ n) {f : List Int} (h1 : f.Nodup) (h2 : (f.length : Int) = n) (h3 : ∀ x ∈ f, 0 ≤ x ∧ x < n) (h4 : ix f 0 = 0) : f ∈ ords n := by
  cases f with
  | nil => simp at h2; omega
  | cons a f =>
    have : a = 0 := h4
    subst this
    obtain ⟨k1, k2⟩ := List.nodup_cons.mp h1
    unfold ords
    rw [List.mem_map]
    refine ⟨f.map fun x => x - 1, (mem_qs (by omega)).mpr ⟨by simp at h2 ⊢; omega, fun x hx => ?_, ?_⟩, ?_⟩
    · obtain ⟨y, hy, rfl⟩ := List.mem_map.mp hx
      have := h3 y (List.mem_cons_of_mem _ hy)
      have : y ≠ 0 := fun e => k1 (by rw [← e]; exact hy)
      omega
    · unfold List.Nodup
      rw [List.pairwise_map]
      exact k2.imp fun {a b} hab e => hab (by omega)
    · congr 1
      rw [List.map_map]
      conv => rhs; rw [← List.map_id' f]
      exact List.map_congr_left fun x _ => by show 1 + (x - 1) = x; omega
theorem ords_ord {n : Int} (n1 : 1 ≤ n) {f : List Int} (h : f ∈ ords n) : Ord n f := by
  obtain ⟨h1, h2, h3, _⟩ := ords_of n1 h
  refine ⟨h2, h3, fun a b a0 a1 b0 b1 e => nodup_inj h1 a0 (by omega) b0 (by omega) e, fun y y0 y1 => ?_⟩
  have hm : y ∈ f := by
    have := sort_full h1 h3 h2
    have hp := sortI_perm f
    rw [this] at hp
    exact hp.mem_iff.mp (mem_rng.mpr ⟨y0, y1⟩)
  obtain ⟨i, i0, i1, e⟩ := mem_ix hm
  exact ⟨i, i0, by omega, e⟩
theorem inner_d {n : Int} (n1 : 1 ≤ n) (n6 : n ≤ 6) : Draw (fun r => P__law_inner_order r n) (fun p => p ∈ ords n) := by
  intro r hr
  unfold P__law_inner_order
  simp only [bind_bind, bind_ok]
  refine (order_d (n := n - 1) (by omega) (by omega) r hr).bind fun c hc => ?_
  have hl := hc.1.length_eq
  rw [len_rng] at hl
  rw [pMap_ok (fun x => 1 + x) (by have : big = 16777216 := rfl; omega) (fun _ _ => rfl), bind_ok, pCat_ok (by simp; omega), bind_ok]
  refine Ok.pure ⟨List.mem_map.mpr ⟨c.1, (mem_qs (by omega)).mpr ⟨by omega, fun x hx => mem_rng.mp (hc.1.mem_iff.mp hx), hc.1.nodup_iff.mpr rng_nodup⟩, rfl⟩, hc.2⟩
def isoB (n : Int) (A B : List (List Int)) (f : List Int) : Bool := (rng n).all fun x => (rng n).all fun y => decide (ix f (mul A x y) = mul B (ix f x) (ix f y))
theorem isoB_iff {n : Int} {A B : List (List Int)} {f : List Int} : isoB n A B f = true ↔ ∀ x y, 0 ≤ x → x < n → 0 ≤ y → y < n → ix f (mul A x y) = mul B (ix f x) (ix f y) := by
  unfold isoB
  simp only [List.all_eq_true, decide_eq_true_eq, mem_rng]
  exact ⟨fun h x y a b c d => h x ⟨a, b⟩ y ⟨c, d⟩, fun h x hx y hy => h x y hx.1 hx.2 hy.1 hy.2⟩
section
variable {n : Int} {A B : List (List Int)}
theorem iso2_d (n1 : 1 ≤ n) (hn : n ≤ 6) (V : VT n A) (W : VT n B) {f : List Int} (hf : f ∈ ords n) : P__law_is_iso_2 A B f = .ok (isoB n A B f) := by
  have hb : big = 16777216 := rfl
  obtain ⟨h1, h2, h3, _⟩ := ords_of n1 hf
  have o := ords_ord n1 hf
  unfold P__law_is_iso_2 pSortTu
  rw [if_pos (by omega), bind_ok, V.len, W.len, pRng_ok (by omega) (by omega), bind_ok, sort_full h1 h3 h2, bind_ok, decide_eq_true rfl, decide_eq_true rfl, bind_ok, Bool.not_true, Bool.or_self, if_neg Bool.false_ne_true, bind_ok]
  rw [pfor_test (p := fun x => (rng n).all fun y => decide (ix f (mul A x y) = mul B (ix f x) (ix f y))) (r := false) fun x hx => ?_, bind_ok]
  · unfold isoB
    cases (rng n).all fun x => (rng n).all fun y => decide (ix f (mul A x y) = mul B (ix f x) (ix f y)) <;> rfl
  · have hx := mem_rng.mp hx
    rw [bind_ok, pfor_test (p := fun y => decide (ix f (mul A x y) = mul B (ix f x) (ix f y))) (r := false) fun y hy => ?_, bind_ok]
    · cases (rng n).all fun y => decide (ix f (mul A x y) = mul B (ix f x) (ix f y)) <;> rfl
    · have hy := mem_rng.mp hy
      have m := V.lt hx.1 hx.2 hy.1 hy.2
      have fx := o.at_ hx.1 hx.2
      have fy := o.at_ hy.1 hy.2
      rw [V.at1 hx.1 hx.2, bind_ok, V.at2 hx.1 hx.2 hy.1 hy.2, bind_ok, pAt_ok m.1 (by omega), bind_ok, pAt_ok hx.1 (by omega), bind_ok, W.at1 fx.1 fx.2, bind_ok, pAt_ok hy.1 (by omega), bind_ok, W.at2 fx.1 fx.2 fy.1 fy.2, bind_ok, bind_ok]
      cases decide (ix f (mul A x y) = mul B (ix f x) (ix f y)) <;> rfl
theorem len_oM {B : List (List Int)} : (M.bind (oM (opLen ((eO (eT (eT eI))) (some B)))) fun c => pNe c (eI n)) = .ok (!decide ((B.length : Int) = n)) := by
  have e : opLen ((eO (eT (eT eI))) (some B)) = some (eI (B.length : Int)) := by
    show some (D.int ((B.map (eT eI)).length : Int)) = _
    rw [List.length_map]
  rw [e, oM_some, bind_ok]
  unfold pNe
  have e : eqD (eI (B.length : Int)) (eI n) = some ((B.length : Int) == n) := rfl
  rw [e]
  show M.ok (!((B.length : Int) == n)) = _
  congr 2
theorem iso1_d (n1 : 1 ≤ n) (hn : n ≤ 6) (V : VT n A) (W : VT n B) {f : List Int} (hf : f ∈ ords n) : P__law_is_iso A (some B) f = .ok (isoB n A B f) := by
  rw [← iso2_d n1 hn V W hf]
  have hb : big = 16777216 := rfl
  obtain ⟨h1, h2, h3, _⟩ := ords_of n1 hf
  have e : opLen ((eO (eT (eT eI))) (some B)) = some (eI n) := by
    show some (D.int ((B.map (eT eI)).length : Int)) = _
    rw [List.length_map, W.len]
  have e2 : pNe (eI n) (eI n) = .ok false := by
    unfold pNe
    have e : eqD (eI n) (eI n) = some (n == n) := rfl
    rw [e, beq_self_eq_true]; rfl
  unfold P__law_is_iso P__law_is_iso_2 pSortTu
  rw [if_pos (by omega), bind_ok, V.len, W.len, pRng_ok (by omega) (by omega), bind_ok, sort_full h1 h3 h2, bind_ok, decide_eq_true rfl, decide_eq_true rfl]
  simp only [e, oM_some, bind_ok, e2, Bool.not_true, Bool.or_self, Bool.false_eq_true, if_false]
theorem fold_fil {α β : Type} {F : α → List β → M (List β)} (g : α → β) (p : β → Bool) : ∀ (xs : List α) (a : List β), (∀ x ∈ xs, ∀ a : List β, a.length < 1000000 → F x a = .ok (if p (g x) = true then a ++ [g x] else a)) → a.length + xs.length ≤ 1000000 → pfold F xs a = .ok (a ++ (xs.map g).filter p)
  | [], a, _, _ => by simp [pfold]
  | x :: xs, a, h, hl => by
    simp only [List.length_cons] at hl
    unfold pfold
    rw [h x List.mem_cons_self a (by omega), bind_ok, List.map_cons, List.filter_cons]
    by_cases q : p (g x) = true
    · rw [if_pos q, if_pos q, fold_fil g p xs _ (fun y hy => h y (List.mem_cons_of_mem _ hy)) (by simp; omega)]
      simp
    · rw [if_neg q, if_neg q, fold_fil g p xs _ (fun y hy => h y (List.mem_cons_of_mem _ hy)) (by omega)]
theorem qs_len : (rng 6).all (fun m => decide ((qs m).length ≤ 1000)) = true := by decide +kernel
theorem maps_fold {F : List Int → List (List Int) → M (List (List Int))} (n1 : 1 ≤ n) (hn : n ≤ 6) (p : List Int → Bool) (h : ∀ q ∈ qs (n - 1), ∀ a : List (List Int), a.length < 1000000 → F q a = .ok (if p (0 :: q.map fun x => 1 + x) = true then a ++ [0 :: q.map fun x => 1 + x] else a)) : pfold F (qs (n - 1)) [] = .ok ((ords n).filter p) := by
  have hl := List.all_eq_true.mp qs_len (n - 1) (mem_rng.mpr (by omega))
  have hl := of_decide_eq_true hl
  rw [fold_fil (fun q => 0 :: q.map fun x => 1 + x) p _ _ h (by simp; omega), List.nil_append]; rfl
theorem maps_d (n1 : 1 ≤ n) (hn : n ≤ 6) (V : VT n A) (W : VT n B) : P__law_maps A (some B) = .ok ((ords n).filter (isoB n A B)) := by
  have hb : big = 16777216 := rfl
  unfold P__law_maps
  rw [V.len, len_oM, bind_ok, W.len, decide_eq_true rfl, Bool.not_true, if_neg Bool.false_ne_true, arr_d (by omega) (by omega), bind_ok, maps_fold n1 hn (isoB n A B) fun q hq a ha => ?_, bind_ok]
  have hq2 := (mem_qs (by omega)).mp hq
  rw [pMap_ok (fun x => 1 + x) (by omega) (fun _ _ => rfl), bind_ok, pCat_ok (by simp; omega), bind_ok]
  have hm : ([0] ++ q.map fun x => 1 + x) ∈ ords n := List.mem_map.mpr ⟨q, hq, rfl⟩
  rw [iso1_d n1 hn V W hm, bind_ok]
  show (if isoB n A B (0 :: q.map fun x => 1 + x) = true then _ else _) = _
  cases isoB n A B (0 :: q.map fun x => 1 + x) with
  | false => rfl
  | true => rw [if_pos rfl, if_pos rfl, pApp_ok (by omega), bind_ok]; rfl
theorem maps2_d (n1 : 1 ≤ n) (hn : n ≤ 6) (V : VT n A) (W : VT n B) : P__law_maps_2 A B = .ok ((ords n).filter (isoB n A B)) := by
  have hb : big = 16777216 := rfl
  unfold P__law_maps_2
  rw [V.len, W.len, decide_eq_true rfl, Bool.not_true, if_neg Bool.false_ne_true, arr_d (by omega) (by omega), bind_ok, maps_fold n1 hn (isoB n A B) fun q hq a ha => ?_, bind_ok]
  have hq2 := (mem_qs (by omega)).mp hq
  rw [pMap_ok (fun x => 1 + x) (by omega) (fun _ _ => rfl), bind_ok, pCat_ok (by simp; omega), bind_ok]
  have hm : ([0] ++ q.map fun x => 1 + x) ∈ ords n := List.mem_map.mpr ⟨q, hq, rfl⟩
  rw [iso2_d n1 hn V W hm, bind_ok]
  show (if isoB n A B (0 :: q.map fun x => 1 + x) = true then _ else _) = _
  cases isoB n A B (0 :: q.map fun x => 1 + x) with
  | false => rfl
  | true => rw [if_pos rfl, if_pos rfl, pApp_ok (by omega), bind_ok]; rfl
theorem maps2_no {m : Int} (V : VT n A) (W : VT m B) (h : n ≠ m) : P__law_maps_2 A B = .ok [] := by
  unfold P__law_maps_2
  rw [V.len, W.len, decide_eq_false (fun e => h e.symm), Bool.not_false, if_pos rfl]
end
end LAW
namespace LAW
open DL PySem L2
def upB (b x : Int) : Int := if x < b then b else x + 1
theorem upB_le (b x : Int) : b ≤ upB b x ∧ x < upB b x := by unfold upB; split <;> omega
theorem top_row : ∀ (r : List Int) (b : Int), (∀ x ∈ r, x < r.foldl upB b) ∧ b ≤ r.foldl upB b
  | [], b => ⟨(fun _ h => absurd h List.not_mem_nil), Int.le_refl _⟩
  | x :: r, b => by
    have h := upB_le b x
    obtain ⟨h1, h2⟩ := top_row r (upB b x)
    refine ⟨fun y hy => ?_, by rw [List.foldl_cons]; omega⟩
    rw [List.foldl_cons]
    rcases List.mem_cons.mp hy with rfl | hy
    · omega
    · exact h1 y hy
theorem top_rows : ∀ (rows : List (List Int)) (b : Int), (∀ r ∈ rows, ∀ x ∈ r, x < rows.foldl (fun b r => r.foldl upB b) b) ∧ b ≤ rows.foldl (fun b r => r.foldl upB b) b
  | [], b => ⟨(fun _ h => absurd h List.not_mem_nil), Int.le_refl _⟩
  | r :: rows, b => by
    obtain ⟨h1, h2⟩ := top_row r b
    obtain ⟨h3, h4⟩ := top_rows rows (r.foldl upB b)
    refine ⟨fun q hq x hx => ?_, by rw [List.foldl_cons]; omega⟩
    rw [List.foldl_cons]
    rcases List.mem_cons.mp hq with rfl | hq
    · have := h1 x hx; omega
    · exact h3 q hq x hx
theorem sort_ok {rows : List (List Int)} {d : Nat} (hd : 1 ≤ d) (hl : ∀ r ∈ rows, r.length = d) (h0 : ∀ r ∈ rows, ∀ x ∈ r, 0 ≤ x) : pSortT rows = .ok (sortT rows) := by
  unfold pSortT
  cases rows with
  | nil => rfl
  | cons r rs =>
    have e : (r :: rs).headD [0] = r := rfl
    rw [if_pos]
    unfold okRows
    rw [e, hl r List.mem_cons_self, decide_eq_true hd, Bool.true_and, List.all_eq_true]
    intro q hq
    rw [Bool.and_eq_true, decide_eq_true_eq, List.all_eq_true]
    refine ⟨hl q hq, fun x hx => ?_⟩
    rw [Bool.and_eq_true, decide_eq_true_eq, decide_eq_true_eq]
    exact ⟨h0 q hq x hx, (top_rows (r :: rs) 1).1 q hq x hx⟩
end LAW
namespace LAW
open DL PySem L2
def formsL : List (List (List Int)) := [[[0]], [[0, 1], [1, 0]], [[0, 1, 2], [1, 2, 0], [2, 0, 1]], [[0, 1, 2, 3], [1, 2, 3, 0], [2, 3, 0, 1], [3, 0, 1, 2]], [[0, 1, 2, 3, 4], [1, 2, 3, 4, 0], [2, 3, 4, 0, 1], [3, 4, 0, 1, 2], [4, 0, 1, 2, 3]], [[0, 1, 2, 3, 4, 5], [1, 2, 3, 4, 5, 0], [2, 3, 4, 5, 0, 1], [3, 4, 5, 0, 1, 2], [4, 5, 0, 1, 2, 3], [5, 0, 1, 2, 3, 4]], [[0, 1, 2, 3], [1, 0, 3, 2], [2, 3, 0, 1], [3, 2, 1, 0]], [[0, 1, 2, 3, 4, 5], [1, 0, 3, 2, 5, 4], [2, 4, 0, 5, 1, 3], [3, 5, 1, 4, 0, 2], [4, 2, 5, 0, 3, 1], [5, 3, 4, 1, 2, 0]]]
def o6 : List (List Int) := [[0, 1, 2, 3, 4, 5], [0, 1, 2, 3, 5, 4], [0, 1, 2, 4, 3, 5], [0, 1, 2, 4, 5, 3], [0, 1, 2, 5, 3, 4], [0, 1, 2, 5, 4, 3], [0, 1, 3, 2, 4, 5], [0, 1, 3, 2, 5, 4], [0, 1, 3, 4, 2, 5], [0, 1, 3, 4, 5, 2], [0, 1, 3, 5, 2, 4], [0, 1, 3, 5, 4, 2], [0, 1, 4, 2, 3, 5], [0, 1, 4, 2, 5, 3], [0, 1, 4, 3, 2, 5], [0, 1, 4, 3, 5, 2], [0, 1, 4, 5, 2, 3], [0, 1, 4, 5, 3, 2], [0, 1, 5, 2, 3, 4], [0, 1, 5, 2, 4, 3], [0, 1, 5, 3, 2, 4], [0, 1, 5, 3, 4, 2], [0, 1, 5, 4, 2, 3], [0, 1, 5, 4, 3, 2], [0, 2, 1, 3, 4, 5], [0, 2, 1, 3, 5, 4], [0, 2, 1, 4, 3, 5], [0, 2, 1, 4, 5, 3], [0, 2, 1, 5, 3, 4], [0, 2, 1, 5, 4, 3], [0, 2, 3, 1, 4, 5], [0, 2, 3, 1, 5, 4], [0, 2, 3, 4, 1, 5], [0, 2, 3, 4, 5, 1], [0, 2, 3, 5, 1, 4], [0, 2, 3, 5, 4, 1], [0, 2, 4, 1, 3, 5], [0, 2, 4, 1, 5, 3], [0, 2, 4, 3, 1, 5], [0, 2, 4, 3, 5, 1], [0, 2, 4, 5, 1, 3], [0, 2, 4, 5, 3, 1], [0, 2, 5, 1, 3, 4], [0, 2, 5, 1, 4, 3], [0, 2, 5, 3, 1, 4], [0, 2, 5, 3, 4, 1], [0, 2, 5, 4, 1, 3], [0, 2, 5, 4, 3, 1], [0, 3, 1, 2, 4, 5], [0, 3, 1, 2, 5, 4], [0, 3, 1, 4, 2, 5], [0, 3, 1, 4, 5, 2], [0, 3, 1, 5, 2, 4], [0, 3, 1, 5, 4, 2], [0, 3, 2, 1, 4, 5], [0, 3, 2, 1, 5, 4], [0, 3, 2, 4, 1, 5], [0, 3, 2, 4, 5, 1], [0, 3, 2, 5, 1, 4], [0, 3, 2, 5, 4, 1], [0, 3, 4, 1, 2, 5], [0, 3, 4, 1, 5, 2], [0, 3, 4, 2, 1, 5], [0, 3, 4, 2, 5, 1], [0, 3, 4, 5, 1, 2], [0, 3, 4, 5, 2, 1], [0, 3, 5, 1, 2, 4], [0, 3, 5, 1, 4, 2], [0, 3, 5, 2, 1, 4], [0, 3, 5, 2, 4, 1], [0, 3, 5, 4, 1, 2], [0, 3, 5, 4, 2, 1], [0, 4, 1, 2, 3, 5], [0, 4, 1, 2, 5, 3], [0, 4, 1, 3, 2, 5], [0, 4, 1, 3, 5, 2], [0, 4, 1, 5, 2, 3], [0, 4, 1, 5, 3, 2], [0, 4, 2, 1, 3, 5], [0, 4, 2, 1, 5, 3], [0, 4, 2, 3, 1, 5], [0, 4, 2, 3, 5, 1], [0, 4, 2, 5, 1, 3], [0, 4, 2, 5, 3, 1], [0, 4, 3, 1, 2, 5], [0, 4, 3, 1, 5, 2], [0, 4, 3, 2, 1, 5], [0, 4, 3, 2, 5, 1], [0, 4, 3, 5, 1, 2], [0, 4, 3, 5, 2, 1], [0, 4, 5, 1, 2, 3], [0, 4, 5, 1, 3, 2], [0, 4, 5, 2, 1, 3], [0, 4, 5, 2, 3, 1], [0, 4, 5, 3, 1, 2], [0, 4, 5, 3, 2, 1], [0, 5, 1, 2, 3, 4], [0, 5, 1, 2, 4, 3], [0, 5, 1, 3, 2, 4], [0, 5, 1, 3, 4, 2], [0, 5, 1, 4, 2, 3], [0, 5, 1, 4, 3, 2], [0, 5, 2, 1, 3, 4], [0, 5, 2, 1, 4, 3], [0, 5, 2, 3, 1, 4], [0, 5, 2, 3, 4, 1], [0, 5, 2, 4, 1, 3], [0, 5, 2, 4, 3, 1], [0, 5, 3, 1, 2, 4], [0, 5, 3, 1, 4, 2], [0, 5, 3, 2, 1, 4], [0, 5, 3, 2, 4, 1], [0, 5, 3, 4, 1, 2], [0, 5, 3, 4, 2, 1], [0, 5, 4, 1, 2, 3], [0, 5, 4, 1, 3, 2], [0, 5, 4, 2, 1, 3], [0, 5, 4, 2, 3, 1], [0, 5, 4, 3, 1, 2], [0, 5, 4, 3, 2, 1]]
def tabs60 : List (List (List Int)) := [[[0, 1, 2, 3, 4, 5], [1, 2, 3, 4, 5, 0], [2, 3, 4, 5, 0, 1], [3, 4, 5, 0, 1, 2], [4, 5, 0, 1, 2, 3], [5, 0, 1, 2, 3, 4]], [[0, 1, 2, 3, 4, 5], [1, 2, 3, 5, 0, 4], [2, 3, 5, 4, 1, 0], [3, 5, 4, 0, 2, 1], [4, 0, 1, 2, 5, 3], [5, 4, 0, 1, 3, 2]], [[0, 1, 2, 3, 4, 5], [1, 2, 4, 5, 3, 0], [2, 4, 3, 0, 5, 1], [3, 5, 0, 2, 1, 4], [4, 3, 5, 1, 0, 2], [5, 0, 1, 4, 2, 3]], [[0, 1, 2, 3, 4, 5], [1, 2, 4, 0, 5, 3], [2, 4, 5, 1, 3, 0], [3, 0, 1, 5, 2, 4], [4, 5, 3, 2, 0, 1], [5, 3, 0, 4, 1, 2]], [[0, 1, 2, 3, 4, 5], [1, 2, 5, 4, 0, 3], [2, 5, 3, 0, 1, 4], [3, 4, 0, 2, 5, 1], [4, 0, 1, 5, 3, 2], [5, 3, 4, 1, 2, 0]], [[0, 1, 2, 3, 4, 5], [1, 2, 5, 0, 3, 4], [2, 5, 4, 1, 0, 3], [3, 0, 1, 4, 5, 2], [4, 3, 0, 5, 2, 1], [5, 4, 3, 2, 1, 0]], [[0, 1, 2, 3, 4, 5], [1, 3, 4, 2, 5, 0], [2, 4, 0, 5, 1, 3], [3, 2, 5, 4, 0, 1], [4, 5, 1, 0, 3, 2], [5, 0, 3, 1, 2, 4]], [[0, 1, 2, 3, 4, 5], [1, 3, 5, 2, 0, 4], [2, 5, 0, 4, 3, 1], [3, 2, 4, 5, 1, 0], [4, 0, 3, 1, 5, 2], [5, 4, 1, 0, 2, 3]], [[0, 1, 2, 3, 4, 5], [1, 3, 5, 4, 2, 0], [2, 5, 3, 0, 1, 4], [3, 4, 0, 2, 5, 1], [4, 2, 1, 5, 0, 3], [5, 0, 4, 1, 3, 2]], [[0, 1, 2, 3, 4, 5], [1, 3, 0, 4, 5, 2], [2, 0, 5, 1, 3, 4], [3, 4, 1, 5, 2, 0], [4, 5, 3, 2, 0, 1], [5, 2, 4, 0, 1, 3]], [[0, 1, 2, 3, 4, 5], [1, 3, 4, 5, 0, 2], [2, 4, 3, 0, 5, 1], [3, 5, 0, 2, 1, 4], [4, 0, 5, 1, 2, 3], [5, 2, 1, 4, 3, 0]], [[0, 1, 2, 3, 4, 5], [1, 3, 0, 5, 2, 4], [2, 0, 4, 1, 5, 3], [3, 5, 1, 4, 0, 2], [4, 2, 5, 0, 3, 1], [5, 4, 3, 2, 1, 0]], [[0, 1, 2, 3, 4, 5], [1, 4, 3, 5, 2, 0], [2, 3, 0, 1, 5, 4], [3, 5, 1, 4, 0, 2], [4, 2, 5, 0, 3, 1], [5, 0, 4, 2, 1, 3]], [[0, 1, 2, 3, 4, 5], [1, 4, 5, 0, 2, 3], [2, 5, 0, 4, 3, 1], [3, 0, 4, 5, 1, 2], [4, 2, 3, 1, 5, 0], [5, 3, 1, 2, 0, 4]], [[0, 1, 2, 3, 4, 5], [1, 4, 5, 2, 3, 0], [2, 5, 4, 1, 0, 3], [3, 2, 1, 0, 5, 4], [4, 3, 0, 5, 2, 1], [5, 0, 3, 4, 1, 2]]]
def tabs61 : List (List (List Int)) := [[[0, 1, 2, 3, 4, 5], [1, 4, 0, 5, 3, 2], [2, 0, 5, 4, 1, 3], [3, 5, 4, 0, 2, 1], [4, 3, 1, 2, 5, 0], [5, 2, 3, 1, 0, 4]], [[0, 1, 2, 3, 4, 5], [1, 4, 3, 0, 5, 2], [2, 3, 4, 5, 0, 1], [3, 0, 5, 2, 1, 4], [4, 5, 0, 1, 2, 3], [5, 2, 1, 4, 3, 0]], [[0, 1, 2, 3, 4, 5], [1, 4, 0, 2, 5, 3], [2, 0, 3, 5, 1, 4], [3, 2, 5, 4, 0, 1], [4, 5, 1, 0, 3, 2], [5, 3, 4, 1, 2, 0]], [[0, 1, 2, 3, 4, 5], [1, 5, 3, 4, 0, 2], [2, 3, 0, 1, 5, 4], [3, 4, 1, 5, 2, 0], [4, 0, 5, 2, 3, 1], [5, 2, 4, 0, 1, 3]], [[0, 1, 2, 3, 4, 5], [1, 5, 4, 0, 3, 2], [2, 4, 0, 5, 1, 3], [3, 0, 5, 4, 2, 1], [4, 3, 1, 2, 5, 0], [5, 2, 3, 1, 0, 4]], [[0, 1, 2, 3, 4, 5], [1, 5, 4, 2, 0, 3], [2, 4, 5, 1, 3, 0], [3, 2, 1, 0, 5, 4], [4, 0, 3, 5, 2, 1], [5, 3, 0, 4, 1, 2]], [[0, 1, 2, 3, 4, 5], [1, 5, 0, 4, 2, 3], [2, 0, 4, 5, 3, 1], [3, 4, 5, 0, 1, 2], [4, 2, 3, 1, 5, 0], [5, 3, 1, 2, 0, 4]], [[0, 1, 2, 3, 4, 5], [1, 5, 3, 0, 2, 4], [2, 3, 5, 4, 1, 0], [3, 0, 4, 2, 5, 1], [4, 2, 1, 5, 0, 3], [5, 4, 0, 1, 3, 2]], [[0, 1, 2, 3, 4, 5], [1, 5, 0, 2, 3, 4], [2, 0, 3, 4, 5, 1], [3, 2, 4, 5, 1, 0], [4, 3, 5, 1, 0, 2], [5, 4, 1, 0, 2, 3]], [[0, 1, 2, 3, 4, 5], [1, 4, 3, 5, 0, 2], [2, 3, 1, 4, 5, 0], [3, 5, 4, 0, 2, 1], [4, 0, 5, 2, 1, 3], [5, 2, 0, 1, 3, 4]], [[0, 1, 2, 3, 4, 5], [1, 5, 3, 4, 2, 0], [2, 3, 1, 5, 0, 4], [3, 4, 5, 0, 1, 2], [4, 2, 0, 1, 5, 3], [5, 0, 4, 2, 3, 1]], [[0, 1, 2, 3, 4, 5], [1, 3, 4, 0, 5, 2], [2, 4, 1, 5, 3, 0], [3, 0, 5, 1, 2, 4], [4, 5, 3, 2, 0, 1], [5, 2, 0, 4, 1, 3]], [[0, 1, 2, 3, 4, 5], [1, 5, 4, 2, 3, 0], [2, 4, 1, 0, 5, 3], [3, 2, 0, 5, 1, 4], [4, 3, 5, 1, 0, 2], [5, 0, 3, 4, 2, 1]], [[0, 1, 2, 3, 4, 5], [1, 3, 5, 0, 2, 4], [2, 5, 1, 4, 0, 3], [3, 0, 4, 1, 5, 2], [4, 2, 0, 5, 3, 1], [5, 4, 3, 2, 1, 0]], [[0, 1, 2, 3, 4, 5], [1, 4, 5, 2, 0, 3], [2, 5, 1, 0, 3, 4], [3, 2, 0, 4, 5, 1], [4, 0, 3, 5, 1, 2], [5, 3, 4, 1, 2, 0]]]
def tabs62 : List (List (List Int)) := [[[0, 1, 2, 3, 4, 5], [1, 0, 4, 5, 2, 3], [2, 4, 3, 1, 5, 0], [3, 5, 1, 4, 0, 2], [4, 2, 5, 0, 3, 1], [5, 3, 0, 2, 1, 4]], [[0, 1, 2, 3, 4, 5], [1, 0, 5, 4, 3, 2], [2, 5, 3, 1, 0, 4], [3, 4, 1, 5, 2, 0], [4, 3, 0, 2, 5, 1], [5, 2, 4, 0, 1, 3]], [[0, 1, 2, 3, 4, 5], [1, 3, 5, 0, 2, 4], [2, 5, 3, 4, 1, 0], [3, 0, 4, 1, 5, 2], [4, 2, 1, 5, 0, 3], [5, 4, 0, 2, 3, 1]], [[0, 1, 2, 3, 4, 5], [1, 3, 4, 0, 5, 2], [2, 4, 3, 5, 0, 1], [3, 0, 5, 1, 2, 4], [4, 5, 0, 2, 1, 3], [5, 2, 1, 4, 3, 0]], [[0, 1, 2, 3, 4, 5], [1, 0, 3, 2, 5, 4], [2, 3, 4, 5, 1, 0], [3, 2, 5, 4, 0, 1], [4, 5, 1, 0, 3, 2], [5, 4, 0, 1, 2, 3]], [[0, 1, 2, 3, 4, 5], [1, 0, 5, 4, 3, 2], [2, 5, 4, 0, 1, 3], [3, 4, 0, 5, 2, 1], [4, 3, 1, 2, 5, 0], [5, 2, 3, 1, 0, 4]], [[0, 1, 2, 3, 4, 5], [1, 4, 5, 2, 0, 3], [2, 5, 4, 1, 3, 0], [3, 2, 1, 0, 5, 4], [4, 0, 3, 5, 1, 2], [5, 3, 0, 4, 2, 1]], [[0, 1, 2, 3, 4, 5], [1, 4, 3, 5, 0, 2], [2, 3, 4, 0, 5, 1], [3, 5, 0, 1, 2, 4], [4, 0, 5, 2, 1, 3], [5, 2, 1, 4, 3, 0]], [[0, 1, 2, 3, 4, 5], [1, 0, 3, 2, 5, 4], [2, 3, 5, 4, 0, 1], [3, 2, 4, 5, 1, 0], [4, 5, 0, 1, 3, 2], [5, 4, 1, 0, 2, 3]], [[0, 1, 2, 3, 4, 5], [1, 0, 4, 5, 2, 3], [2, 4, 5, 0, 3, 1], [3, 5, 0, 4, 1, 2], [4, 2, 3, 1, 5, 0], [5, 3, 1, 2, 0, 4]], [[0, 1, 2, 3, 4, 5], [1, 5, 4, 2, 3, 0], [2, 4, 5, 1, 0, 3], [3, 2, 1, 0, 5, 4], [4, 3, 0, 5, 1, 2], [5, 0, 3, 4, 2, 1]], [[0, 1, 2, 3, 4, 5], [1, 5, 3, 4, 2, 0], [2, 3, 5, 0, 1, 4], [3, 4, 0, 1, 5, 2], [4, 2, 1, 5, 0, 3], [5, 0, 4, 2, 3, 1]], [[0, 1, 2, 3, 4, 5], [1, 4, 5, 2, 0, 3], [2, 5, 0, 4, 3, 1], [3, 2, 4, 1, 5, 0], [4, 0, 3, 5, 1, 2], [5, 3, 1, 0, 2, 4]], [[0, 1, 2, 3, 4, 5], [1, 5, 4, 2, 3, 0], [2, 4, 0, 5, 1, 3], [3, 2, 5, 1, 0, 4], [4, 3, 1, 0, 5, 2], [5, 0, 3, 4, 2, 1]], [[0, 1, 2, 3, 4, 5], [1, 2, 0, 4, 5, 3], [2, 0, 1, 5, 3, 4], [3, 4, 5, 1, 2, 0], [4, 5, 3, 2, 0, 1], [5, 3, 4, 0, 1, 2]]]
def tabs63 : List (List (List Int)) := [[[0, 1, 2, 3, 4, 5], [1, 2, 0, 5, 3, 4], [2, 0, 1, 4, 5, 3], [3, 5, 4, 1, 0, 2], [4, 3, 5, 0, 2, 1], [5, 4, 3, 2, 1, 0]], [[0, 1, 2, 3, 4, 5], [1, 0, 5, 4, 3, 2], [2, 5, 4, 1, 0, 3], [3, 4, 1, 2, 5, 0], [4, 3, 0, 5, 2, 1], [5, 2, 3, 0, 1, 4]], [[0, 1, 2, 3, 4, 5], [1, 0, 4, 5, 2, 3], [2, 4, 5, 1, 3, 0], [3, 5, 1, 2, 0, 4], [4, 2, 3, 0, 5, 1], [5, 3, 0, 4, 1, 2]], [[0, 1, 2, 3, 4, 5], [1, 2, 0, 5, 3, 4], [2, 0, 1, 4, 5, 3], [3, 5, 4, 2, 1, 0], [4, 3, 5, 1, 0, 2], [5, 4, 3, 0, 2, 1]], [[0, 1, 2, 3, 4, 5], [1, 2, 0, 4, 5, 3], [2, 0, 1, 5, 3, 4], [3, 4, 5, 2, 0, 1], [4, 5, 3, 0, 1, 2], [5, 3, 4, 1, 2, 0]], [[0, 1, 2, 3, 4, 5], [1, 0, 3, 2, 5, 4], [2, 3, 4, 5, 0, 1], [3, 2, 5, 4, 1, 0], [4, 5, 0, 1, 2, 3], [5, 4, 1, 0, 3, 2]], [[0, 1, 2, 3, 4, 5], [1, 4, 3, 5, 0, 2], [2, 3, 0, 1, 5, 4], [3, 5, 1, 4, 2, 0], [4, 0, 5, 2, 1, 3], [5, 2, 4, 0, 3, 1]], [[0, 1, 2, 3, 4, 5], [1, 0, 3, 2, 5, 4], [2, 3, 5, 4, 1, 0], [3, 2, 4, 5, 0, 1], [4, 5, 1, 0, 2, 3], [5, 4, 0, 1, 3, 2]], [[0, 1, 2, 3, 4, 5], [1, 5, 3, 4, 2, 0], [2, 3, 0, 1, 5, 4], [3, 4, 1, 5, 0, 2], [4, 2, 5, 0, 1, 3], [5, 0, 4, 2, 3, 1]], [[0, 1, 2, 3, 4, 5], [1, 3, 5, 0, 2, 4], [2, 5, 0, 4, 3, 1], [3, 0, 4, 1, 5, 2], [4, 2, 3, 5, 1, 0], [5, 4, 1, 2, 0, 3]], [[0, 1, 2, 3, 4, 5], [1, 2, 0, 5, 3, 4], [2, 0, 1, 4, 5, 3], [3, 5, 4, 0, 2, 1], [4, 3, 5, 2, 1, 0], [5, 4, 3, 1, 0, 2]], [[0, 1, 2, 3, 4, 5], [1, 0, 5, 4, 3, 2], [2, 5, 3, 0, 1, 4], [3, 4, 0, 2, 5, 1], [4, 3, 1, 5, 2, 0], [5, 2, 4, 1, 0, 3]], [[0, 1, 2, 3, 4, 5], [1, 2, 0, 4, 5, 3], [2, 0, 1, 5, 3, 4], [3, 4, 5, 0, 1, 2], [4, 5, 3, 1, 2, 0], [5, 3, 4, 2, 0, 1]], [[0, 1, 2, 3, 4, 5], [1, 0, 4, 5, 2, 3], [2, 4, 3, 0, 5, 1], [3, 5, 0, 2, 1, 4], [4, 2, 5, 1, 3, 0], [5, 3, 1, 4, 0, 2]], [[0, 1, 2, 3, 4, 5], [1, 3, 4, 0, 5, 2], [2, 4, 0, 5, 1, 3], [3, 0, 5, 1, 2, 4], [4, 5, 1, 2, 3, 0], [5, 2, 3, 4, 0, 1]]]
def tabsD : List (List (List Int)) := [[[0, 1, 2, 3, 4, 5], [1, 2, 0, 4, 5, 3], [2, 0, 1, 5, 3, 4], [3, 5, 4, 0, 2, 1], [4, 3, 5, 1, 0, 2], [5, 4, 3, 2, 1, 0]], [[0, 1, 2, 3, 4, 5], [1, 2, 0, 5, 3, 4], [2, 0, 1, 4, 5, 3], [3, 4, 5, 0, 1, 2], [4, 5, 3, 2, 0, 1], [5, 3, 4, 1, 2, 0]], [[0, 1, 2, 3, 4, 5], [1, 3, 4, 0, 5, 2], [2, 5, 0, 4, 3, 1], [3, 0, 5, 1, 2, 4], [4, 2, 1, 5, 0, 3], [5, 4, 3, 2, 1, 0]], [[0, 1, 2, 3, 4, 5], [1, 3, 5, 0, 2, 4], [2, 4, 0, 5, 1, 3], [3, 0, 4, 1, 5, 2], [4, 5, 3, 2, 0, 1], [5, 2, 1, 4, 3, 0]], [[0, 1, 2, 3, 4, 5], [1, 4, 3, 5, 0, 2], [2, 5, 0, 4, 3, 1], [3, 2, 1, 0, 5, 4], [4, 0, 5, 2, 1, 3], [5, 3, 4, 1, 2, 0]], [[0, 1, 2, 3, 4, 5], [1, 4, 5, 2, 0, 3], [2, 3, 0, 1, 5, 4], [3, 5, 4, 0, 2, 1], [4, 0, 3, 5, 1, 2], [5, 2, 1, 4, 3, 0]], [[0, 1, 2, 3, 4, 5], [1, 5, 3, 4, 2, 0], [2, 4, 0, 5, 1, 3], [3, 2, 1, 0, 5, 4], [4, 3, 5, 1, 0, 2], [5, 0, 4, 2, 3, 1]], [[0, 1, 2, 3, 4, 5], [1, 5, 4, 2, 3, 0], [2, 3, 0, 1, 5, 4], [3, 4, 5, 0, 1, 2], [4, 2, 1, 5, 0, 3], [5, 0, 3, 4, 2, 1]], [[0, 1, 2, 3, 4, 5], [1, 0, 5, 4, 3, 2], [2, 4, 3, 0, 5, 1], [3, 5, 0, 2, 1, 4], [4, 2, 1, 5, 0, 3], [5, 3, 4, 1, 2, 0]], [[0, 1, 2, 3, 4, 5], [1, 0, 4, 5, 2, 3], [2, 5, 3, 0, 1, 4], [3, 4, 0, 2, 5, 1], [4, 3, 5, 1, 0, 2], [5, 2, 1, 4, 3, 0]], [[0, 1, 2, 3, 4, 5], [1, 0, 5, 4, 3, 2], [2, 3, 4, 5, 0, 1], [3, 2, 1, 0, 5, 4], [4, 5, 0, 1, 2, 3], [5, 4, 3, 2, 1, 0]], [[0, 1, 2, 3, 4, 5], [1, 0, 3, 2, 5, 4], [2, 5, 4, 1, 0, 3], [3, 4, 5, 0, 1, 2], [4, 3, 0, 5, 2, 1], [5, 2, 1, 4, 3, 0]], [[0, 1, 2, 3, 4, 5], [1, 0, 4, 5, 2, 3], [2, 3, 5, 4, 1, 0], [3, 2, 1, 0, 5, 4], [4, 5, 3, 2, 0, 1], [5, 4, 0, 1, 3, 2]], [[0, 1, 2, 3, 4, 5], [1, 0, 3, 2, 5, 4], [2, 4, 5, 1, 3, 0], [3, 5, 4, 0, 2, 1], [4, 2, 1, 5, 0, 3], [5, 3, 0, 4, 1, 2]], [[0, 1, 2, 3, 4, 5], [1, 0, 4, 5, 2, 3], [2, 3, 0, 1, 5, 4], [3, 2, 5, 4, 0, 1], [4, 5, 1, 0, 3, 2], [5, 4, 3, 2, 1, 0]], [[0, 1, 2, 3, 4, 5], [1, 0, 3, 2, 5, 4], [2, 4, 0, 5, 1, 3], [3, 5, 1, 4, 0, 2], [4, 2, 5, 0, 3, 1], [5, 3, 4, 1, 2, 0]], [[0, 1, 2, 3, 4, 5], [1, 0, 5, 4, 3, 2], [2, 3, 0, 1, 5, 4], [3, 2, 4, 5, 1, 0], [4, 5, 3, 2, 0, 1], [5, 4, 1, 0, 2, 3]], [[0, 1, 2, 3, 4, 5], [1, 0, 3, 2, 5, 4], [2, 5, 0, 4, 3, 1], [3, 4, 1, 5, 2, 0], [4, 3, 5, 1, 0, 2], [5, 2, 4, 0, 1, 3]], [[0, 1, 2, 3, 4, 5], [1, 0, 5, 4, 3, 2], [2, 4, 0, 5, 1, 3], [3, 5, 4, 0, 2, 1], [4, 2, 3, 1, 5, 0], [5, 3, 1, 2, 0, 4]], [[0, 1, 2, 3, 4, 5], [1, 0, 4, 5, 2, 3], [2, 5, 0, 4, 3, 1], [3, 4, 5, 0, 1, 2], [4, 3, 1, 2, 5, 0], [5, 2, 3, 1, 0, 4]]]
def tabs5 : List (List (List Int)) := [[[0, 1, 2, 3, 4], [1, 2, 3, 4, 0], [2, 3, 4, 0, 1], [3, 4, 0, 1, 2], [4, 0, 1, 2, 3]], [[0, 1, 2, 3, 4], [1, 2, 4, 0, 3], [2, 4, 3, 1, 0], [3, 0, 1, 4, 2], [4, 3, 0, 2, 1]], [[0, 1, 2, 3, 4], [1, 3, 4, 2, 0], [2, 4, 1, 0, 3], [3, 2, 0, 4, 1], [4, 0, 3, 1, 2]], [[0, 1, 2, 3, 4], [1, 3, 0, 4, 2], [2, 0, 4, 1, 3], [3, 4, 1, 2, 0], [4, 2, 3, 0, 1]], [[0, 1, 2, 3, 4], [1, 4, 3, 0, 2], [2, 3, 1, 4, 0], [3, 0, 4, 2, 1], [4, 2, 0, 1, 3]], [[0, 1, 2, 3, 4], [1, 4, 0, 2, 3], [2, 0, 3, 4, 1], [3, 2, 4, 1, 0], [4, 3, 1, 0, 2]]]
def tabs4 : List (List (List Int)) := [[[0, 1, 2, 3], [1, 2, 3, 0], [2, 3, 0, 1], [3, 0, 1, 2]], [[0, 1, 2, 3], [1, 3, 0, 2], [2, 0, 3, 1], [3, 2, 1, 0]], [[0, 1, 2, 3], [1, 0, 3, 2], [2, 3, 1, 0], [3, 2, 0, 1]]]
def tabsK : List (List (List Int)) := [[[0, 1, 2, 3], [1, 0, 3, 2], [2, 3, 0, 1], [3, 2, 1, 0]]]
def tabs3 : List (List (List Int)) := [[[0, 1, 2], [1, 2, 0], [2, 0, 1]]]
end LAW
namespace LAW
open DL PySem L2
def vtB (n : Int) (T : List (List Int)) : Bool := decide ((T.length : Int) = n) && T.all fun r => decide ((r.length : Int) = n) && r.all fun x => decide (0 ≤ x) && decide (x < n)
theorem vtB_ok {n : Int} {T : List (List Int)} (h : vtB n T = true) : VT n T := by
  unfold vtB at h
  simp only [Bool.and_eq_true, decide_eq_true_eq, List.all_eq_true] at h
  exact ⟨h.1, fun r hr => (h.2 r hr).1, fun r hr x hx => (h.2 r hr).2 x hx⟩
def isO {α : Type} [DecidableEq α] (o : M α) (a : α) : Bool := match o with | .ok b => decide (b = a) | _ => false
theorem isO_ok {α : Type} [DecidableEq α] {o : M α} {a : α} (h : isO o a = true) : o = .ok a := by
  unfold isO at h
  split at h
  · rw [of_decide_eq_true h]
  · cases h
def forms : List (List (List Int)) := formsL
/-- what holds of a table -/
def chkU (os : List (List Int)) (T : List (List Int)) : Bool := match P_group_form T with
  | .ok F => decide (F ∈ formsL) && (vtB T.length F && (isO (P__law_least T) (some F) && (isO (P_form_maps T) (os.filter (isoB T.length T F)) && !(os.filter (isoB T.length T F)).isEmpty)))
  | _ => false
def chkR (os : List (List Int)) (ts : List (List (List Int))) (g : List (List Int)) : Bool := os.all fun p => match P__law_renamed g p with
  | .ok T => decide (T ∈ ts)
  | _ => false
theorem o6_eq : ords 6 = o6 := by decide +kernel
theorem r1 : chkR (ords 1) [[[0]]] (tb (P__law_cyclic 1)) = true := by decide +kernel
theorem r2 : chkR (ords 2) [[[0, 1], [1, 0]]] (tb (P__law_cyclic 2)) = true := by decide +kernel
theorem r3 : chkR (ords 3) tabs3 (tb (P__law_cyclic 3)) = true := by decide +kernel
theorem r4 : chkR (ords 4) tabs4 (tb (P__law_cyclic 4)) = true := by decide +kernel
theorem r5 : chkR (ords 5) tabs5 (tb (P__law_cyclic 5)) = true := by decide +kernel
theorem r6 : chkR o6 (tabs60 ++ tabs61 ++ tabs62 ++ tabs63) (tb (P__law_cyclic 6)) = true := by decide +kernel
theorem r7 : chkR (ords 4) tabsK (tb P__law_klein) = true := by decide +kernel
theorem r8 : chkR o6 tabsD (tb (P__law_dihedral 3)) = true := by decide +kernel
theorem t1 : ([[[0]]] : List (List (List Int))).all (chkU (ords 1)) = true := by decide +kernel
theorem t2 : ([[[0, 1], [1, 0]]] : List (List (List Int))).all (chkU (ords 2)) = true := by decide +kernel
theorem t3 : tabs3.all (chkU (ords 3)) = true := by decide +kernel
theorem t4 : tabs4.all (chkU (ords 4)) = true := by decide +kernel
theorem t5 : tabs5.all (chkU (ords 5)) = true := by decide +kernel
theorem t60 : tabs60.all (chkU o6) = true := by decide +kernel
theorem t61 : tabs61.all (chkU o6) = true := by decide +kernel
theorem t62 : tabs62.all (chkU o6) = true := by decide +kernel
theorem t63 : tabs63.all (chkU o6) = true := by decide +kernel
theorem t7 : tabsK.all (chkU (ords 4)) = true := by decide +kernel
theorem t8 : tabsD.all (chkU o6) = true := by decide +kernel
theorem t6 : (tabs60 ++ tabs61 ++ tabs62 ++ tabs63).all (chkU o6) = true := by
  rw [List.all_append, List.all_append, List.all_append, t60, t61, t62, t63]; rfl
theorem grps_vt : grps.all (fun g => vtB g.length g && (decide (1 ≤ g.length) && decide (g.length ≤ 6))) = true := by decide +kernel
theorem forms_apart : formsL.all (fun f => formsL.all fun g => decide (f = g) || (!decide (f.length = g.length) || ((if f.length = 6 then o6 else ords f.length).filter (isoB f.length f g)).isEmpty)) = true := by decide +kernel
theorem sorted6 : (decide (o6.Pairwise fun a b => lexLe a b = true) && decide o6.Nodup) = true := by decide +kernel
theorem sorted5 : (rng2 1 6).all (fun n => decide ((ords n).Pairwise fun a b => lexLe a b = true) && decide ((ords n).Nodup)) = true := by decide +kernel
structure TF (n : Int) (T L F : List (List Int)) : Prop where
  n1 : 1 ≤ n
  n6 : n ≤ 6
  vt : VT n T
  vf : VT n F
  frm : F ∈ forms
  form : P_group_form T = .ok F
  least : P__law_least T = .ok (some F)
  maps : P_form_maps T = .ok L
  l : L = (ords n).filter (isoB n T F)
  ne : L ≠ []
theorem tab_all {g : List (List Int)} (hg : g ∈ grps) : ∃ ts, chkR (ords g.length) ts g = true ∧ ts.all (chkU (ords g.length)) = true := by
  unfold grps at hg
  simp only [List.mem_cons, List.not_mem_nil, or_false] at hg
  rcases hg with h | h | h | h | h | h | h | h <;> rw [h]
  · exact ⟨_, r1, t1⟩
  · exact ⟨_, r2, t2⟩
  · exact ⟨_, r3, t3⟩
  · exact ⟨_, r4, t4⟩
  · exact ⟨_, r5, t5⟩
  · show ∃ ts, chkR (ords 6) ts _ = true ∧ ts.all (chkU (ords 6)) = true
    rw [o6_eq]; exact ⟨_, r6, t6⟩
  · exact ⟨_, r7, t7⟩
  · show ∃ ts, chkR (ords 6) ts _ = true ∧ ts.all (chkU (ords 6)) = true
    rw [o6_eq]; exact ⟨_, r8, t8⟩
theorem grp_vt {g : List (List Int)} (hg : g ∈ grps) : VT g.length g ∧ 1 ≤ (g.length : Int) ∧ (g.length : Int) ≤ 6 := by
  have h := List.all_eq_true.mp grps_vt g hg
  simp only [Bool.and_eq_true, decide_eq_true_eq] at h
  exact ⟨vtB_ok h.1, by omega, by omega⟩
theorem tab_d {g : List (List Int)} {o : List Int} (hg : g ∈ grps) (ho : o ∈ ords g.length) : ∃ T L F, P__law_renamed g o = .ok T ∧ TF g.length T L F := by
  obtain ⟨V, n1, n6⟩ := grp_vt hg
  obtain ⟨T, e, W, _⟩ := renamed_d (by omega) V (ords_ord n1 ho)
  obtain ⟨ts, hr, ht⟩ := tab_all hg
  have hm := List.all_eq_true.mp hr o ho
  simp only [e] at hm
  have h := List.all_eq_true.mp ht T (of_decide_eq_true hm)
  unfold chkU at h
  split at h
  · rename_i F hF
    simp only [Bool.and_eq_true, decide_eq_true_eq, Bool.not_eq_true', List.isEmpty_eq_false_iff, W.len] at h
    obtain ⟨h1, h2, h3, h4, h5⟩ := h
    exact ⟨T, _, F, e, ⟨n1, n6, W, vtB_ok h2, h1, hF, isO_ok h3, isO_ok h4, rfl, h5⟩⟩
  · cases h
end LAW
namespace LAW
open DL PySem L2
theorem ords_good {n : Int} (n1 : 1 ≤ n) (n6 : n ≤ 6) : ((ords n).Pairwise fun a b => lexLe a b = true) ∧ (ords n).Nodup := by
  by_cases h : n = 6
  · rw [h, o6_eq]
    have := sorted6
    rw [Bool.and_eq_true, decide_eq_true_eq, decide_eq_true_eq] at this
    exact this
  · have := List.all_eq_true.mp sorted5 n (mem_rng2.mpr ⟨n1, by omega⟩)
    rw [Bool.and_eq_true, decide_eq_true_eq, decide_eq_true_eq] at this
    exact this
theorem forms_no {n : Int} {F G : List (List Int)} (hF : F ∈ forms) (hG : G ∈ forms) (V : VT n F) (W : VT n G) (hne : F ≠ G) {f : List Int} (hf : f ∈ ords n) (h : isoB n F G f = true) : False := by
  have q := List.all_eq_true.mp (List.all_eq_true.mp forms_apart F hF) G hG
  have hl : F.length = G.length := by have := V.len; have := W.len; omega
  simp only [Bool.or_eq_true, decide_eq_true_eq, hne, false_or, Bool.not_eq_true', decide_eq_false_iff_not, hl, not_true_eq_false, List.isEmpty_iff] at q
  have e : (if G.length = 6 then o6 else ords G.length) = ords n := by
    have := W.len
    by_cases c : G.length = 6
    · rw [if_pos c, ← o6_eq]
      congr 1
      omega
    · rw [if_neg c]
      congr 1
  rw [e, show ((G.length : Nat) : Int) = n from W.len] at q
  have : f ∈ (ords n).filter (isoB n F G) := List.mem_filter.mpr ⟨hf, h⟩
  rw [q] at this
  cases this
section
variable {n : Int} {A B C : List (List Int)} {f g : List Int}
/-- one after the other -/
def comp (f g : List Int) : List Int := f.map (ix g)
theorem ix_comp (hf : f ∈ ords n) (n1 : 1 ≤ n) {x : Int} (x0 : 0 ≤ x) (x1 : x < n) : ix (comp f g) x = ix g (ix f x) := by
  unfold comp
  rw [ix_map x0 (by have := (ords_of n1 hf).2.1; omega)]
theorem comp_ords (n1 : 1 ≤ n) (hf : f ∈ ords n) (hg : g ∈ ords n) : comp f g ∈ ords n := by
  obtain ⟨a1, a2, a3, a4⟩ := ords_of n1 hf
  obtain ⟨b1, b2, b3, b4⟩ := ords_of n1 hg
  have og := ords_ord n1 hg
  refine of_ords n1 ?_ (by unfold comp; rw [List.length_map]; exact a2) (fun x hx => ?_) ?_
  · unfold comp List.Nodup
    rw [List.pairwise_map]
    exact List.Pairwise.imp_of_mem (fun {a b} ha hb hab q => hab (nodup_inj b1 (a3 a ha).1 (by have := a3 a ha; omega) (a3 b hb).1 (by have := a3 b hb; omega) q)) a1
  · obtain ⟨y, hy, rfl⟩ := List.mem_map.mp hx
    exact og.at_ (a3 y hy).1 (a3 y hy).2
  · rw [ix_comp hf n1 (by omega) (by omega), a4, b4]
/-- the way back -/
def inv (n : Int) (f : List Int) : List Int := (rng n).map (idx f)
theorem idx_at (n1 : 1 ≤ n) (hf : f ∈ ords n) {y : Int} (y0 : 0 ≤ y) (y1 : y < n) : (0 ≤ idx f y ∧ idx f y < n) ∧ ix f (idx f y) = y := by
  obtain ⟨x, x0, x1, e⟩ := (ords_ord n1 hf).sur y y0 y1
  have hm : y ∈ f := by rw [← e]; exact ix_mem x0 (by have := (ords_of n1 hf).2.1; omega)
  have h := idx_lt hm
  have := (ords_of n1 hf).2.1
  exact ⟨⟨h.1, by omega⟩, ix_idx hm⟩
theorem inv_ords (n1 : 1 ≤ n) (hf : f ∈ ords n) : inv n f ∈ ords n := by
  refine of_ords n1 ?_ (by unfold inv; rw [List.length_map, len_rng]; omega) (fun x hx => ?_) ?_
  · unfold inv List.Nodup
    rw [List.pairwise_map]
    refine List.Pairwise.imp_of_mem (fun {a b} ha hb hab q => hab ?_) rng_nodup
    have ha := mem_rng.mp ha
    have hb := mem_rng.mp hb
    rw [← (idx_at n1 hf ha.1 ha.2).2, ← (idx_at n1 hf hb.1 hb.2).2, q]
  · obtain ⟨y, hy, rfl⟩ := List.mem_map.mp hx
    have hy := mem_rng.mp hy
    exact (idx_at n1 hf hy.1 hy.2).1
  · unfold inv
    rw [ix_map_rng (by omega) (by omega)]
    have h := idx_at n1 hf (y := 0) (by omega) (by omega)
    obtain ⟨a1, a2, a3, a4⟩ := ords_of n1 hf
    exact nodup_inj a1 h.1.1 (by omega) (by omega) (by omega) (by rw [h.2, a4])
theorem ix_inv (n1 : 1 ≤ n) {x : Int} (x0 : 0 ≤ x) (x1 : x < n) : ix (inv n f) x = idx f x := ix_map_rng x0 x1
theorem iso_comp (n1 : 1 ≤ n) (V : VT n A) (hf : f ∈ ords n) (h1 : isoB n A B f = true) (h2 : isoB n B C g = true) : isoB n A C (comp f g) = true := by
  rw [isoB_iff] at h1 h2 ⊢
  intro x y x0 x1 y0 y1
  have m := V.lt x0 x1 y0 y1
  have o := ords_ord n1 hf
  have fx := o.at_ x0 x1
  have fy := o.at_ y0 y1
  rw [ix_comp hf n1 m.1 m.2, ix_comp hf n1 x0 x1, ix_comp hf n1 y0 y1, h1 x y x0 x1 y0 y1, h2 _ _ fx.1 fx.2 fy.1 fy.2]
theorem iso_inv (n1 : 1 ≤ n) (V : VT n A) (W : VT n B) (hf : f ∈ ords n) (h1 : isoB n A B f = true) : isoB n B A (inv n f) = true := by
  rw [isoB_iff] at h1 ⊢
  intro x y x0 x1 y0 y1
  have m := W.lt x0 x1 y0 y1
  rw [ix_inv n1 m.1 m.2, ix_inv n1 x0 x1, ix_inv n1 y0 y1]
  obtain ⟨ix', ex⟩ := idx_at n1 hf x0 x1
  obtain ⟨iy', ey⟩ := idx_at n1 hf y0 y1
  obtain ⟨im, em⟩ := idx_at n1 hf m.1 m.2
  have mm := V.lt ix'.1 ix'.2 iy'.1 iy'.2
  obtain ⟨a1, a2, a3, a4⟩ := ords_of n1 hf
  refine nodup_inj a1 im.1 (by omega) mm.1 (by omega) ?_
  rw [em, h1 _ _ ix'.1 ix'.2 iy'.1 iy'.2, ex, ey]
end
/-- group_isomorphisms tells what the law's maps are -/
theorem pair_d {n m : Int} {A B LA LB FA FB : List (List Int)} (a : TF n A LA FA) (b : TF m B LB FB) : ∃ R, P_group_isomorphisms A B = .ok R ∧ P__law_maps_2 A B = .ok R ∧ (FB = FA ↔ R ≠ []) := by
  have hb : big = 16777216 := rfl
  unfold P_group_isomorphisms
  rw [a.form, b.form, bind_ok, bind_ok, bind_ok]
  have la : ∀ f ∈ LA, f ∈ ords n ∧ isoB n A FA f = true := fun f hf => by rw [a.l] at hf; exact List.mem_filter.mp hf
  have lb : ∀ f ∈ LB, f ∈ ords m ∧ isoB m B FB f = true := fun f hf => by rw [b.l] at hf; exact List.mem_filter.mp hf
  obtain ⟨fb, hfb⟩ := List.exists_mem_of_ne_nil _ b.ne
  by_cases hF : FA = FB
  · subst hF
    have hnm : n = m := by have := a.vf.len; have := b.vf.len; omega
    subst hnm
    obtain ⟨k, LB', rfl⟩ : ∃ k LB', LB = k :: LB' := List.exists_cons_of_ne_nil b.ne
    obtain ⟨k1, k2⟩ := lb k List.mem_cons_self
    have n1 := a.n1
    obtain ⟨c1, c2, c3, c4⟩ := ords_of n1 k1
    rw [decide_eq_true rfl, Bool.not_true, if_neg Bool.false_ne_true, b.maps, bind_ok, pAt_ok (by decide) (by simp), bind_ok, a.maps, bind_ok]
    have e0 : ix (k :: LB') (0 : Int) = k := rfl
    rw [e0]
    have hla : LA.length ≤ 1000 := by
      have h1 : LA.length ≤ (ords n).length := by rw [a.l]; exact List.length_filter_le _ _
      have h2 := List.all_eq_true.mp qs_len (n - 1) (mem_rng.mpr ⟨by omega, by have := a.n6; omega⟩)
      have h2 := of_decide_eq_true h2
      unfold ords at h1
      rw [List.length_map] at h1
      omega
    rw [pfold_app (fun f => f.map (idx k)) LA [] (by simp; omega) fun f hf c hc => ?_, bind_ok, List.nil_append]
    · have hrow : ∀ r ∈ LA.map (fun f => f.map (idx k)), r.length = n.toNat ∧ ∀ x ∈ r, 0 ≤ x ∧ x < n := fun r hr => by
        obtain ⟨f, hf, rfl⟩ := List.mem_map.mp hr
        obtain ⟨d1, d2, d3, d4⟩ := ords_of n1 (la f hf).1
        refine ⟨by rw [List.length_map]; omega, fun x hx => ?_⟩
        obtain ⟨y, hy, rfl⟩ := List.mem_map.mp hx
        exact (idx_at n1 k1 (d3 y hy).1 (d3 y hy).2).1
      have eφ : ∀ f ∈ LA, f.map (idx k) = comp f (inv n k) := fun f hf => by
        unfold comp
        refine List.map_congr_left fun x hx => ?_
        have := (ords_of n1 (la f hf).1).2.2.1 x hx
        rw [ix_inv n1 this.1 this.2]
      have hR : sortT (LA.map fun f => f.map (idx k)) = (ords n).filter (isoB n A B) := by
        have good := ords_good n1 a.n6
        have hs : ((ords n).filter (isoB n A B)).Pairwise (fun a b => lexLe a b = true) := good.1.sublist List.filter_sublist
        have hperm : (LA.map fun f => f.map (idx k)).Perm ((ords n).filter (isoB n A B)) := by
          rw [List.perm_ext_iff_of_nodup]
          · intro g
            rw [List.mem_filter]
            constructor
            · intro hg
              obtain ⟨f, hf, rfl⟩ := List.mem_map.mp hg
              rw [eφ f hf]
              exact ⟨comp_ords n1 (la f hf).1 (inv_ords n1 k1), iso_comp n1 a.vt (la f hf).1 (la f hf).2 (iso_inv n1 b.vt b.vf k1 k2)⟩
            · rintro ⟨h1, h2⟩
              refine List.mem_map.mpr ⟨comp g k, ?_, ?_⟩
              · rw [a.l]
                exact List.mem_filter.mpr ⟨comp_ords n1 h1 k1, iso_comp n1 a.vt h1 h2 k2⟩
              · unfold comp
                rw [List.map_map]
                conv => rhs; rw [← List.map_id' g]
                refine List.map_congr_left fun x hx => ?_
                have := (ords_of n1 h1).2.2.1 x hx
                exact idx_ix c1 this.1 (by omega)
          · unfold List.Nodup
            rw [List.pairwise_map]
            have : LA.Nodup := by rw [a.l]; exact good.2.sublist List.filter_sublist
            refine List.Pairwise.imp_of_mem (fun {f g} hf hg hfg q => hfg ?_) this
            obtain ⟨d1, d2, d3, d4⟩ := ords_of n1 (la f hf).1
            obtain ⟨e1, e2, e3, e4⟩ := ords_of n1 (la g hg).1
            apply ix_ext
            · omega
            · intro i i0 i1
              have q2 := congrArg (fun l => ix l i) q
              simp only [ix_map i0 i1, ix_map (xs := g) i0 (by omega)] at q2
              have u := d3 _ (ix_mem i0 i1)
              have v := e3 _ (ix_mem (xs := g) i0 (by omega))
              rw [← (idx_at n1 k1 u.1 u.2).2, q2, (idx_at n1 k1 v.1 v.2).2]
          · exact good.2.sublist List.filter_sublist
        exact sortT_unique ((sortT_perm _).trans hperm) (sortT_sorted _) hs
      rw [sort_ok (d := n.toNat) (by omega) (fun r hr => (hrow r hr).1) (fun r hr x hx => ((hrow r hr).2 x hx).1), bind_ok, hR]
      refine ⟨_, rfl, maps2_d n1 a.n6 a.vt b.vt, ⟨fun _ => ?_, fun _ => rfl⟩⟩
      rw [← hR]
      intro z
      have := (sortT_perm (LA.map fun f => f.map (idx k))).length_eq
      rw [z] at this
      exact a.ne (List.eq_nil_of_length_eq_zero (by simpa using this.symm))
    · obtain ⟨d1, d2, d3, d4⟩ := ords_of n1 (la f hf).1
      rw [pMap_ok (idx k) (by have := a.n6; omega) (fun x hx => pIndex_ok (by
        have u := d3 x hx
        have w := idx_at n1 k1 u.1 u.2
        rw [← w.2]
        exact ix_mem w.1.1 (by omega))), bind_ok, pApp_ok (by omega), bind_ok]
  · rw [decide_eq_false hF, Bool.not_false, if_pos rfl]
    refine ⟨[], rfl, ?_, ⟨fun e => absurd e.symm hF, fun e => absurd rfl e⟩⟩
    by_cases hnm : n = m
    · subst hnm
      rw [maps2_d a.n1 a.n6 a.vt b.vt]
      congr 1
      rw [List.filter_eq_nil_iff]
      intro f hf h
      obtain ⟨fa, hfa⟩ := List.exists_mem_of_ne_nil _ a.ne
      have n1 := a.n1
      have ua := la fa hfa
      have ub := lb fb hfb
      have i1 := iso_inv n1 a.vt a.vf ua.1 ua.2
      have i2 := iso_comp n1 a.vf (inv_ords n1 ua.1) i1 h
      have i3 := iso_comp n1 a.vf (comp_ords n1 (inv_ords n1 ua.1) hf) i2 ub.2
      exact forms_no a.frm b.frm a.vf b.vf hF (comp_ords n1 (comp_ords n1 (inv_ords n1 ua.1) hf) ub.1) i3
    · exact maps2_no a.vt b.vt hnm
theorem p_law (ns : List Int) : P_law ns = .ok true := by
  have hb : big = 16777216 := rfl
  apply Ok.eq
  unfold P_law
  refine Ok.bind (Ok.nx (state_d ns)) fun r hr => ?_
  refine (group_d r hr).bind fun g1 hg1 => ?_
  refine (group_d g1.2 hg1.2).bind fun g2 hg2 => ?_
  simp only [bind_bind, bind_ok]
  refine (take_d (m := 2) (by decide) (by decide) g2.2 hg2.2).bind fun c hc => ?_
  refine Ok.bind (P := fun t => t ∈ grps) (Ok.ite (fun _ => Ok.pure hg1.1) fun _ => Ok.pure hg2.1) fun g3 hg3 => ?_
  obtain ⟨_, u1, u2⟩ := grp_vt hg1.1
  obtain ⟨_, v1, v2⟩ := grp_vt hg3
  refine (inner_d u1 u2 c.2 hc.2).bind fun o1 ho1 => ?_
  obtain ⟨A, LA, FA, e1, a⟩ := tab_d hg1.1 ho1.1
  rw [e1, bind_ok]
  refine (inner_d v1 v2 o1.2 ho1.2).bind fun o2 ho2 => ?_
  obtain ⟨B, LB, FB, e2, b⟩ := tab_d hg3 ho2.1
  rw [e2, bind_ok]
  have f2 : P_group_form_2 A = .ok FA := a.form
  have hA : A.length ≤ 6 := by have := a.vt.len; have := a.n6; omega
  rw [a.least, bind_ok, a.form, bind_ok, decide_eq_true rfl, Bool.not_true, if_neg Bool.false_ne_true, pMap_ok (fun x => x) (by omega) (fun _ _ => rfl), List.map_id', bind_ok, f2, bind_ok, decide_eq_true rfl, Bool.not_true, bind_ok, if_neg Bool.false_ne_true]
  obtain ⟨R, p1, p2, p3⟩ := pair_d a b
  rw [a.maps, bind_ok, maps_d a.n1 a.n6 a.vt a.vf, bind_ok, ← a.l, decide_eq_true rfl, Bool.not_true, if_neg Bool.false_ne_true, p1, bind_ok, p2, bind_ok, decide_eq_true rfl, Bool.not_true, bind_ok, if_neg Bool.false_ne_true, b.form, bind_ok, bind_ok]
  refine Ok.pure (decide_eq_true ?_)
  rw [decide_eq_decide]
  constructor
  · intro h
    cases h
    have := List.length_pos_iff.mpr (p3.mp rfl)
    omega
  · intro h
    have : R ≠ [] := fun z => by rw [z] at h; simp at h
    rw [p3.mpr this]
end LAW
namespace LAW
open DL PySem L2
theorem math (ns : List Int) : d_law [.scr ns] = .ok (.bl true) := by
  have h := S_law ns
  rw [p_law ns] at h
  exact h
end LAW
open PySem PySem.W PySem.Calls PyProof.Rows
set_option maxRecDepth 100000 in
set_option maxHeartbeats 8000000 in
theorem PySem.Challenge.cw_reesblocks_k22_whole_normal_forms_of_gro_holds : PySem.Challenge.rw_reesblocks_k22_whole_normal_forms_of_gro.Holds := by
  w_on; o_law
  refine HandSHeadRun.head_any (r := OpenLaw.row PySem.Challenge.rw_reesblocks_k22_whole_normal_forms_of_gro) (q := view (OpenLaw.row PySem.Challenge.rw_reesblocks_k22_whole_normal_forms_of_gro).prog [24]) (H := LAW.hk) (ob := LAW.ob) (M := 4000) (loose := ["enumerated", "tuples_of", "orders_of", "renamed", "group_form", "form_maps", "group_isomorphisms", "_law_cyclic", "_law_klein", "_law_dihedral", "_law_group", "_law_inner_order", "_law_is_iso", "_law_state", "_law_take", "_law_order_of", "_law_renamed", "_law_arrangements", "_law_rows_of", "_law_listed", "_law_least", "_law_maps"]) (d := HandSHeadRun.topDef (OpenLaw.row PySem.Challenge.rw_reesblocks_k22_whole_normal_forms_of_gro).prog 24) (kwd := []) LAW.ob_eq
    (by kernel_rfl) (fun s => by kernel_rfl) LAW.run (by kernel_rfl) (by kernel_rfl) (by kernel_rfl) (by rfl) (by first | assumption | decide +kernel) (by decide +kernel) ⟨rfl, rfl, rfl, rfl, rfl, by decide +kernel⟩ ?hw ?hc
  case hw => w_witness2
  case hc => exact DL.law_end (l := PySem.Challenge.rw_reesblocks_k22_whole_normal_forms_of_gro) (k := 6) (by rfl) (by kernel_rfl) ⟨rfl, by decide, by decide⟩ (by kernel_rfl) (fun w K mg h KX G c => LAW.ok_law KX G c) LAW.math
