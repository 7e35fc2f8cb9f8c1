import PyProof.Rows.All
import Wide.All
import OpenK.AllK
import Wide.FinOn
import HandS.ForExc
import HandS.Comp
import HandS.Conv
import HandS.TupAny
import HandS.Strs
import HandS.Iter
import HandS.ExcSuper
import HandS.ExcField
import HandS.TryMany
import HandS.IsInst
import HandS.Wide
import HandS.Deep
import HandS.Style
import HandS.SortInts
import HandS.Defaults
import HandS.Head0
import HandS.Head1
import HandS.Head2
import HandS.HeadEnd
import HandS.HeadHook1
import HandS.HeadHook2
import KE.KExcSuper
import HandS.TupSets
import HandS.TupMul
import PyProof.StrOps2
import HandS.SetFor
import HandS.Dict
import HandS.Small
import HandS.More
import HandS.TupLen
import HandS.WordsDict
import KE.KDictDisplayH
import HandS.Text
import HandS.Replace
import PyProof.ListNew
import PyProof.EnumIter
import PyProof.EnumStmt
import PyProof.Rows.TupIter
import KE.KItemsList
import KE.GoesRaise
import KE.KAsSuite
import KE.KRevSl
import KE.DataMinMax
import PyProof.Rows.RowBridgeK
import HandS.GenList
import HandS.Zip
import KE.SortData
import HandS.StrMore
import HandS.StrSplit
import HandS.FStr
import KE.KCallOwn
import HandS.SuiteRaise
import HandS.RaiseFrom
import HandS.ExcInitHot
import HandS.ReplaceLit
import HandS.ReplaceList
import PySem.Challenge.RW_reesblocks_k03_texts_of_semigroups
set_option Elab.async false
set_option linter.all false
set_option maxRecDepth 100000
set_option maxHeartbeats 8000000
namespace DL
open PySem PySem.Spec PyProof.Rows L2
abbrev KnO (o : Obj) : Prop := o.cls = .type "tuple" ∧ o.dict = none
section
variable {X : Cx}
theorem laidK {pins : List (Addr × Obj)} {σ : L2.St} {H : Hp} {s : Shared} {h' : Heap} {tk : Nat} {xs : List V} {its : List Value} (I : Inv X pins σ H s) (hk : ∀ b ob, s.heap.get? b = some ob → (h'.push { cls := .type "tuple", data := .seq its.toArray }).get? b = some ob) (hl : s.heap.objs.size ≤ h'.objs.size)
    (hz : xs.length ≤ sizeLine) (r : Vals xs its) : Inv X pins σ (upd H h'.objs.size (.frz { cls := .type "tuple", data := .seq its.toArray } (.tup xs))) { s with heap := h'.push { cls := .type "tuple", data := .seq its.toArray }, toks := tk } :=
  I.laid (t' := tk) hk hl ⟨Heap.get?_push_size _ rfl, hz, its, r, IsTup.new _ _⟩
def rCatK (K : PySem.W.Frag) : R2 := fun x y H Q => ∃ a b xs ys, x = .ref a ∧ y = .ref b ∧ SqT K H a xs ∧ SqT K H b ys ∧ xs.length + ys.length ≤ sizeLine ∧
  (xs = [] → Q (.ref b) H) ∧ (xs ≠ [] → ys = [] → Q (.ref a) H) ∧ (xs ≠ [] → ys ≠ [] → ∀ p o, H p = none → KnO o → Q (.ref p) (upd H p (.frz o (.tup (xs ++ ys)))))
theorem op_catK : OpR X (binaryOp .Add) (rCatK X.K) := by
  intro pins s σ H x y v u Q I rx ry h
  obtain ⟨a, b, xs, ys, rfl, rfl, ha, hb, hz, q0, q1, q2⟩ := h
  by_cases hx : xs = []
  · exact op_catA pins s σ H _ _ v u Q I rx ry ⟨a, b, xs, ys, rfl, rfl, ha, hb, hz, q0, q1, fun z => absurd hx z⟩
  · cases rx
    cases ry
    obtain ⟨its, r1, p1, _⟩ := I.tuple ha
    obtain ⟨its2, r2, p2, _⟩ := I.tuple hb
    refine HT.cat_tup p1 p2 (fun z => hx (r1.nil_iff.mp z)) (fun z => ⟨.ref a, H, I, rfl, q1 hx (r2.nil_iff.mp z)⟩) (fun z => ?_) (by rw [← r1.length, ← r2.length]; exact hz)
    exact ⟨.ref s.heap.objs.size, _, laidK I (fun b ob q => Heap.get?_push_of_some _ q) (Nat.le_refl _) (by rw [List.length_append]; exact hz) (r1.append r2), rfl, q2 hx (fun w => z (r2.nil_iff.mpr w)) _ _ (I.hok.fresh (Nat.le_refl _)) ⟨rfl, rfl⟩⟩
theorem call_tupleK : CallR X (.type "tuple") (fun xs H Q => ∃ p ys, xs = [.ref p] ∧ ((SqL X.K H p ys ∧ ∀ l o, H l = none → KnO o → Q (.ref l) (upd H l (.frz o (.tup ys)))) ∨ (SqT X.K H p ys ∧ Q (.ref p) H))) := by
  intro pins s σ H xs us Q I r h
  obtain ⟨p, ys, rfl, h⟩ := h
  rcases h with ⟨hq, q⟩ | ⟨hq, q⟩
  · obtain ⟨u, rfl, rx⟩ := vals1 r
    cases rx
    obtain ⟨its, r', pl, hz⟩ := I.list hq
    have hlen := r'.length
    refine call_tuple_list pl.isList (fun h' kp => ?_) (by simp only [List.size_toArray] <;> omega)
    have I1 : Inv X pins σ H { s with heap := h' } := I.kept (t' := s.toks) kp
    exact ⟨.ref h'.objs.size, _, laidK (s := { s with heap := h' }) (tk := s.toks) I1 (fun b o e => Heap.get?_push_of_some _ e) (Nat.le_refl _) hz r', rfl, q _ _ (I1.hok.fresh (Nat.le_refl _)) ⟨rfl, rfl⟩⟩
  · exact call_tuple_of pins s σ H _ us Q I r ⟨p, ys, rfl, .inr ⟨hq, q⟩⟩
def rSlK (K : PySem.W.Frag) : V → Option Int → Option Int → Hp → VK → Prop := fun x lo hi H Q => ∃ a xs, x = .ref a ∧ SqT K H a xs ∧
  (HT.sIx xs.length 0 lo = 0 ∧ HT.sIx xs.length xs.length hi = xs.length → Q (.ref a) H) ∧ (¬ (HT.sIx xs.length 0 lo = 0 ∧ HT.sIx xs.length xs.length hi = xs.length) → ∀ p o, H p = none → KnO o → Q (.ref p) (upd H p (.frz o (.tup (cutV xs lo hi)))))
theorem sl_tupK : SlR X (rSlK X.K) := by
  intro pins s σ H x v vl vu lo hi sl Q I rx hs pl pu h
  obtain ⟨a, xs, rfl, hx, q1, q2⟩ := h
  by_cases hw : HT.sIx xs.length 0 lo = 0 ∧ HT.sIx xs.length xs.length hi = xs.length
  · exact sl_tupA pins s σ H _ v vl vu lo hi sl Q I rx hs pl pu ⟨a, xs, rfl, hx, q1, fun z => absurd hw z⟩
  · cases rx
    obtain ⟨its, r, ht, hz⟩ := I.tuple hx
    have hlen : its.toArray.size = xs.length := by rw [List.size_toArray]; exact r.length.symm
    refine ⟨"tuple", _, PyProof.Rows.slot_tuple_getitem.lookup, ht.typeIs, ?_⟩
    refine HT.getItem_tuple_cut ht hs pl pu (by rw [hlen]; exact hw) ?_ (by rw [hlen]; exact hz)
    rw [hlen]
    exact ⟨.ref s.heap.objs.size, _, laidK I (fun b ob q => Heap.get?_push_of_some _ q) (Nat.le_refl _) (Nat.le_trans (cutV_length xs lo hi) hz) ((r.drop (HT.sIx xs.length 0 lo)).take (HT.sIx xs.length xs.length hi - HT.sIx xs.length 0 lo)), rfl, q2 hw _ _ (I.hok.fresh (Nat.le_refl _)) ⟨rfl, rfl⟩⟩
def KnT (K : PySem.W.Frag) (H : Hp) (a : Addr) : Prop := (∃ o u, H a = some (.frz o u) ∧ KnO o) ∨ ∃ o, K.lookup a = some o ∧ KnO o
theorem KnT.mono {K : PySem.W.Frag} {H H' : Hp} {a : Addr} (e : Same H H') (h : KnT K H a) : KnT K H' a := by
  rcases h with ⟨o, u, h, k⟩ | h
  · exact .inl ⟨o, u, e _ _ h, k⟩
  · exact .inr h
theorem KnT.new {K : PySem.W.Frag} {H : Hp} {p : Addr} {o : Obj} {u : HO} (k : KnO o) : KnT K (upd H p (.frz o u)) p := .inl ⟨o, u, upd_same, k⟩
theorem KnT.is {pins : List (Addr × Obj)} {σ : L2.St} {H : Hp} {s : Shared} {a : Addr} (I : Inv X pins σ H s) (h : KnT X.K H a) : s.TypeIs (.ref a) "tuple" ∧ ∃ ob, s.heap.get? a = some ob ∧ ob.dict = none := by
  rcases h with ⟨o, u, h, k⟩ | ⟨o, h, k⟩
  · obtain ⟨g, _⟩ := I.hok a _ h
    exact ⟨⟨o, g, k.1⟩, o, g, k.2⟩
  · have g := I.kIn a o h
    exact ⟨⟨o, g, k.1⟩, o, g, k.2⟩
def NewT (H : Hp) (Q : VK) (xs : List V) : Prop := (∀ p, H p = none → Q (.ref p) (upd H p (.tup xs))) ∨ (∀ p o, H p = none → KnO o → Q (.ref p) (upd H p (.frz o (.tup xs))))
def rCatN (K : PySem.W.Frag) : R2 := fun x y H Q => ∃ a b xs ys, x = .ref a ∧ y = .ref b ∧ SqT K H a xs ∧ SqT K H b ys ∧ xs.length + ys.length ≤ sizeLine ∧
  (xs = [] → Q (.ref b) H) ∧ (xs ≠ [] → ys = [] → Q (.ref a) H) ∧ (xs ≠ [] → ys ≠ [] → NewT H Q (xs ++ ys))
theorem op_catN : OpR X (binaryOp .Add) (rCatN X.K) := by
  intro pins s σ H x y v u Q I rx ry h
  obtain ⟨a, b, xs, ys, rfl, rfl, ha, hb, hz, q0, q1, q2⟩ := h
  by_cases hx : xs = []
  · exact op_catA pins s σ H _ _ v u Q I rx ry ⟨a, b, xs, ys, rfl, rfl, ha, hb, hz, q0, q1, fun z => absurd hx z⟩
  by_cases hy : ys = []
  · exact op_catA pins s σ H _ _ v u Q I rx ry ⟨a, b, xs, ys, rfl, rfl, ha, hb, hz, q0, q1, fun _ z => absurd hy z⟩
  rcases q2 hx hy with q | q
  · exact op_catA pins s σ H _ _ v u Q I rx ry ⟨a, b, xs, ys, rfl, rfl, ha, hb, hz, q0, q1, fun _ _ => q⟩
  · exact op_catK pins s σ H _ _ v u Q I rx ry ⟨a, b, xs, ys, rfl, rfl, ha, hb, hz, q0, q1, fun _ _ => q⟩
def rTupN (K : PySem.W.Frag) : List V → Hp → VK → Prop := fun xs H Q => ∃ p ys, xs = [.ref p] ∧ ((SqL K H p ys ∧ NewT H Q ys) ∨ (SqT K H p ys ∧ Q (.ref p) H))
theorem call_tupleN : CallR X (.type "tuple") (rTupN X.K) := by
  intro pins s σ H xs us Q I r h
  obtain ⟨p, ys, rfl, ⟨hq, q | q⟩ | ⟨hq, q⟩⟩ := h
  · exact call_tuple_of pins s σ H _ us Q I r ⟨p, ys, rfl, .inl ⟨hq, q⟩⟩
  · exact call_tupleK pins s σ H _ us Q I r ⟨p, ys, rfl, .inl ⟨hq, q⟩⟩
  · exact call_tuple_of pins s σ H _ us Q I r ⟨p, ys, rfl, .inr ⟨hq, q⟩⟩
def tTupN (t : TA) : TE := fun σ H Q => t σ H fun xs H1 => xs.length ≤ sizeLine ∧ NewT H1 Q xs
theorem pe_tupN {es : List Expr} {t : TA} {pos : Pos} {x1} (h : PA X es t) : PE X (.Tuple es x1 pos) (tTupN t) := by
  refine ⟨fun pins s σ H Q I hq => ?_⟩
  refine wpAny_Tuple_spliced (thn (h.run pos pins s σ H _ I hq) fun us s1 ⟨xs, H1, I1, r, z, q⟩ => ⟨by rw [← r.length]; exact z, ?_⟩)
  have hf : H1 s1.heap.objs.size = none := I1.hok.fresh (Nat.le_refl _)
  rcases q with q | q
  · refine ⟨.ref s1.heap.objs.size, upd H1 s1.heap.objs.size (.tup xs), I1.laid (t' := s1.toks) (fun b u e => Heap.get?_push_of_some _ e) (Nat.le_refl _) ?_, rfl, q _ hf⟩
    exact ⟨z, us, r, ⟨_, Heap.get?_push_size _ rfl, rfl, _, rfl⟩⟩
  · exact ⟨.ref s1.heap.objs.size, _, laidK I1 (fun b u e => Heap.get?_push_of_some _ e) (Nat.le_refl _) z r, rfl, q _ _ hf ⟨rfl, rfl⟩⟩
def rSlN (K : PySem.W.Frag) : V → Option Int → Option Int → Hp → VK → Prop := fun x lo hi H Q => ∃ a xs, x = .ref a ∧ SqT K H a xs ∧
  (HT.sIx xs.length 0 lo = 0 ∧ HT.sIx xs.length xs.length hi = xs.length → Q (.ref a) H) ∧ (¬ (HT.sIx xs.length 0 lo = 0 ∧ HT.sIx xs.length xs.length hi = xs.length) → NewT H Q (cutV xs lo hi))
theorem sl_tupN : SlR X (rSlN X.K) := by
  intro pins s σ H x v vl vu lo hi sl Q I rx hs pl pu h
  obtain ⟨a, xs, rfl, hx, q1, q2⟩ := h
  by_cases hw : HT.sIx xs.length 0 lo = 0 ∧ HT.sIx xs.length xs.length hi = xs.length
  · exact sl_tupA pins s σ H _ v vl vu lo hi sl Q I rx hs pl pu ⟨a, xs, rfl, hx, q1, fun z => absurd hw z⟩
  rcases q2 hw with q | q
  · exact sl_tupA pins s σ H _ v vl vu lo hi sl Q I rx hs pl pu ⟨a, xs, rfl, hx, q1, fun _ => q⟩
  · exact sl_tupK pins s σ H _ v vl vu lo hi sl Q I rx hs pl pu ⟨a, xs, rfl, hx, q1, fun _ => q⟩
def tTupRgN (te : L2.St → Hp → (Int → Int → Hp → Prop) → Prop) : TE := fun σ H Q => te σ H fun a b H1 => RgOk a b ∧ NewT H1 Q (rgV a b)
theorem pe_tupRgN {e : Expr} {te : L2.St → Hp → (Int → Int → Hp → Prop) → Prop} {p pos : Pos} (hc : X.calm = true) (hg : Gl X "tuple") (hm : X.mg "tuple" = none) (he : PRg X e te) (na : starEach [e] X.env = (false, eval e X.env) :: starEach [] X.env := by rfl) : PE X (.Call (.Name "tuple" p) [e] [] pos) (tTupRgN te) := by
  refine ⟨fun pins s σ H Q I h => ?_⟩
  refine Call_ (ld_blt I hg hm boot_tuple (PyProof.Rows.callWith_type1 (args_cons (thn (he pins s σ H _ I h) fun x s1 ⟨r, a, b, t, u, v, H1, ex, hr, I1, ok, q⟩ => args_nil ?_) na) na))
  subst ex
  obtain ⟨b1, b2, b3, b4, b5⟩ := ok
  refine call_tuple_range (n := (b - a).toNat) (I1.ok.hd hc) hr (small_one b1 b2 b3 b4) (rangeSize_nat a b) b5 fun h' tk acc hk hi => ?_
  have I2 : Inv X pins σ H1 { s1 with heap := h', toks := tk } := I1.kept hk
  have hz : (rgV a b).length ≤ sizeLine := by rw [rgV_length, sizeLine_eq]; omega
  rcases q with q | q
  · refine ⟨.ref h'.objs.size, upd H1 h'.objs.size (.tup (rgV a b)), I2.laid (t' := tk) (fun c o e => Heap.get?_push_of_some _ e) (Nat.le_refl _) (show ObjOk X.prog X.w _ _ _ (.tup (rgV a b)) from ⟨hz, acc.toList, vals_rg hi, ?_⟩), rfl, q _ (I2.hok.fresh (Nat.le_refl _))⟩
    rw [Array.toArray_toList]; exact IsTup.new _ _
  · have := laidK (s := { s1 with heap := h', toks := tk }) (tk := tk) (its := acc.toList) I2 (fun c o e => Heap.get?_push_of_some _ e) (Nat.le_refl _) hz (vals_rg hi)
    rw [Array.toArray_toList] at this
    exact ⟨.ref h'.objs.size, _, this, rfl, q _ _ (I2.hok.fresh (Nat.le_refl _)) ⟨rfl, rfl⟩⟩
end
end DL
namespace DL
open PySem PySem.Spec PyProof.Rows L2
inductive D where
  | non | bl (b : Bool) | int (i : Int) | str (x : Str)
  | lst (xs : List D) | tup (xs : List D)
  | ins (c : Str) (ns : List Str) (ds : List D)
  /-- the script -/
  | scr (ns : List Int)
  /-- a tuple of numbers whose object is known -/
  | kt (ns : List Int)
structure G where
  K : PySem.W.Frag
  mg : Str → Option Value
  /-- the exception that an except suite holds: its address, class, dict -/
  xa : Option (Addr × Value × Option Addr)
  /-- are the objects of tuples known (their dicts are none) -/
  tk : Bool
/-- a tuple's object: known, or just the tuple -/
def TkP (g : G) (F : Hp) (a : Addr) (vs : List V) : Prop := match g.tk with
  | true => KnT g.K F a
  | false => F a = some (.tup vs)
theorem TkP.mono {g : G} {F F' : Hp} {a : Addr} {vs : List V} (e : Same F F') (h : TkP g F a vs) : TkP g F' a vs := by
  unfold TkP at h ⊢
  revert h
  cases g.tk with
  | true => exact fun h => KnT.mono e h
  | false => exact fun h => e _ _ h
mutual
inductive Rv (g : G) (F : Hp) : V → D → Prop
  | non : Rv g F .non .non
  | bl (b : Bool) : Rv g F (.bl b) (.bl b)
  | int (i : Int) : Rv g F (.int i) (.int i)
  | str (x : Str) : Rv g F (.str x) (.str x)
  | lst {a : Addr} {vs : List V} {ds : List D} : F a = some (.lst vs) → Rl g F vs ds → Rv g F (.ref a) (.lst ds)
  | tup {a : Addr} {vs : List V} {ds : List D} : SqT g.K F a vs → TkP g F a vs → Rl g F vs ds → Rv g F (.ref a) (.tup ds)
  | ins {a C dx : Addr} {c : Str} {ns : List Str} {vs : List V} {ds : List D} : F a = some (.ins C dx (ns.zip vs)) → g.mg c = some (.ref C) → ns.length = vs.length → Rl g F vs ds → Rv g F (.ref a) (.ins c ns ds)
  | scr {a : Addr} {ns : List Int} : SqL g.K F a (ns.map V.int) → Rv g F (.ref a) (.scr ns)
  | kt {a : Addr} {o : Obj} {ns : List Int} : F a = some (.frz o (.tup (ns.map V.int))) → KnO o → Rv g F (.ref a) (.kt ns)
inductive Rl (g : G) (F : Hp) : List V → List D → Prop
  | nil : Rl g F [] []
  | cons {v : V} {vs : List V} {d : D} {ds : List D} : Rv g F v d → Rl g F vs ds → Rl g F (v :: vs) (d :: ds)
end
theorem sqT_mono {K : PySem.W.Frag} {F F' : Hp} {a : Addr} {xs : List V} (e : Same F F') (h : SqT K F a xs) : SqT K F' a xs := by
  rcases h with (h | ⟨o, h⟩) | h
  · exact .inl (.inl (e _ _ h))
  · exact .inl (.inr ⟨o, e _ _ h⟩)
  · exact .inr h
theorem sqL_mono {K : PySem.W.Frag} {F F' : Hp} {a : Addr} {xs : List V} (e : Same F F') (h : SqL K F a xs) : SqL K F' a xs := by
  rcases h with (h | ⟨o, h⟩) | h
  · exact .inl (.inl (e _ _ h))
  · exact .inl (.inr ⟨o, e _ _ h⟩)
  · exact .inr h
mutual
theorem Rv.mono {g : G} {F F' : Hp} (e : Same F F') : ∀ {v : V} {d : D}, Rv g F v d → Rv g F' v d
  | _, _, .non => .non
  | _, _, .bl b => .bl b
  | _, _, .int i => .int i
  | _, _, .str x => .str x
  | _, _, .lst h r => .lst (e _ _ h) (Rl.mono e r)
  | _, _, .tup h k r => .tup (sqT_mono e h) (k.mono e) (Rl.mono e r)
  | _, _, .ins h m l r => .ins (e _ _ h) m l (Rl.mono e r)
  | _, _, .scr h => .scr (sqL_mono e h)
  | _, _, .kt h k => .kt (e _ _ h) k
theorem Rl.mono {g : G} {F F' : Hp} (e : Same F F') : ∀ {vs : List V} {ds : List D}, Rl g F vs ds → Rl g F' vs ds
  | _, _, .nil => .nil
  | _, _, .cons r t => .cons (Rv.mono e r) (Rl.mono e t)
end
section
variable {g : G} {F : Hp}
theorem Rl.length : ∀ {vs : List V} {ds : List D}, Rl g F vs ds → vs.length = ds.length
  | _, _, .nil => rfl
  | _, _, .cons _ t => by rw [List.length_cons, List.length_cons, Rl.length t]
theorem Rl.get : ∀ {vs : List V} {ds : List D} {i : Nat} {d : D}, Rl g F vs ds → ds[i]? = some d → ∃ v, vs[i]? = some v ∧ Rv g F v d
  | _, _, _, _, .nil, e => by simp at e
  | _, _, 0, _, .cons r _, e => by simp at e; subst e; exact ⟨_, rfl, r⟩
  | _, _, i + 1, d, .cons _ t, e => by
    obtain ⟨u, h1, h2⟩ := Rl.get (i := i) (d := d) t (by simpa using e)
    exact ⟨u, by simpa using h1, h2⟩
theorem Rl.get' : ∀ {vs : List V} {ds : List D} {i : Nat} {v : V}, Rl g F vs ds → vs[i]? = some v → ∃ d, ds[i]? = some d ∧ Rv g F v d
  | _, _, _, _, .nil, e => by simp at e
  | _, _, 0, _, .cons r _, e => by simp at e; subst e; exact ⟨_, rfl, r⟩
  | _, _, i + 1, d, .cons _ t, e => by
    obtain ⟨u, h1, h2⟩ := Rl.get' (i := i) (v := d) t (by simpa using e)
    exact ⟨u, by simpa using h1, h2⟩
theorem Rl.append : ∀ {vs ws : List V} {ds es : List D}, Rl g F vs ds → Rl g F ws es → Rl g F (vs ++ ws) (ds ++ es)
  | _, _, _, _, .nil, s => s
  | _, _, _, _, .cons r t, s => .cons r (Rl.append t s)
theorem Rl.take : ∀ {vs : List V} {ds : List D} (n : Nat), Rl g F vs ds → Rl g F (vs.take n) (ds.take n)
  | _, _, 0, _ => .nil
  | _, _, _ + 1, .nil => .nil
  | _, _, n + 1, .cons r t => .cons r (Rl.take n t)
theorem Rl.drop : ∀ {vs : List V} {ds : List D} (n : Nat), Rl g F vs ds → Rl g F (vs.drop n) (ds.drop n)
  | _, _, 0, r => r
  | _, _, _ + 1, .nil => .nil
  | _, _, n + 1, .cons _ t => Rl.drop n t
theorem Rl.set {v : V} {d : D} (r : Rv g F v d) : ∀ {vs : List V} {ds : List D} (i : Nat), Rl g F vs ds → Rl g F (vs.set i v) (ds.set i d)
  | _, _, _, .nil => .nil
  | _, _, 0, .cons _ t => .cons r t
  | _, _, i + 1, .cons q t => .cons q (Rl.set r i t)
theorem Rl.eraseIdx : ∀ {vs : List V} {ds : List D} (i : Nat), Rl g F vs ds → Rl g F (vs.eraseIdx i) (ds.eraseIdx i)
  | _, _, _, .nil => .nil
  | _, _, 0, .cons _ t => t
  | _, _, i + 1, .cons q t => .cons q (Rl.eraseIdx i t)
theorem Rl.rep {vs : List V} {ds : List D} (h : Rl g F vs ds) : ∀ k : Nat, Rl g F (List.replicate k vs).flatten (List.replicate k ds).flatten
  | 0 => .nil
  | k + 1 => by rw [List.replicate_succ, List.replicate_succ, List.flatten_cons, List.flatten_cons]; exact h.append (Rl.rep h k)
theorem Rl.of_ints : ∀ (ns : List Int), Rl g F (ns.map V.int) (ns.map D.int)
  | [] => .nil
  | n :: ns => .cons (.int n) (Rl.of_ints ns)
end
inductive Slot where
  | no | sh (d : D) | ow (ds : List D) | rf (k : Nat) (ds : List D) | oi (k : Nat) (c : Str) (ns : List Str) (ds : List D) | o2 (dss : List (List D)) | xc (c nm : Str) (x : D) | gy (ds : List D)
  | dk (kvs : List (Int × D)) | dt (kvs : List (List Int × D)) | lk (kvs : List (Int × D)) | lt (kvs : List (List Int × D)) | rk (k : Nat) (kvs : List (Int × D))
abbrev DSt := List Slot
structure Par where
  B : List Addr
  R : Hp
  N : Addr → Prop
/-- dicts whose keys are numbers, tuples of numbers -/
def hK (kvs : List (Int × D)) (vs : List V) : HO := .dK ((kvs.map fun p => (Sum.inl p.1 : Key)).zip vs)
def hT (kvs : List (List Int × D)) (vs : List V) : HO := .dT ((kvs.map fun p => p.1.map (Sum.inl : Int → Key)).zip vs)
def SlotOk (g : G) (P : Par) (O : Addr → Option Nat) (F H : Hp) (i : Nat) (s : Slot) (ov : Option V) : Prop := match s with
  | .no => True
  | .sh d => ∃ v, ov = some v ∧ Rv g F v d
  | .ow ds => ∃ a vs, ov = some (.ref a) ∧ O a = some i ∧ ¬ P.N a ∧ H a = some (.lst vs) ∧ Rl g F vs ds
  | .rf k ds => ∃ a vs, ov = some (.ref a) ∧ P.B[k]? = some a ∧ O a = some i ∧ H a = some (.lst vs) ∧ Rl g F vs ds
  | .oi k c ns ds => ∃ a C dx vs, ov = some (.ref a) ∧ P.B[k]? = some a ∧ O a = some i ∧ g.mg c = some (.ref C) ∧ ns.length = vs.length ∧ H a = some (.ins C dx (ns.zip vs)) ∧ Rl g F vs ds
  | .o2 dss => ∃ (a : Addr) (bs : List Addr), ov = some (.ref a) ∧ O a = some i ∧ ¬ P.N a ∧ H a = some (.lst (bs.map V.ref)) ∧ bs.Nodup ∧ a ∉ bs ∧ bs.length = dss.length ∧
      ∀ (j : Nat) (b : Addr) (ds : List D), bs[j]? = some b → dss[j]? = some ds → O b = some i ∧ ¬ P.N b ∧ ∃ vs, H b = some (.lst vs) ∧ Rl g F vs ds
  | .dk kvs => ∃ (a : Addr) (vs : List V), ov = some (.ref a) ∧ O a = some i ∧ ¬ P.N a ∧ H a = some (hK kvs vs) ∧ Rl g F vs (kvs.map Prod.snd)
  | .dt kvs => ∃ (a : Addr) (vs : List V), ov = some (.ref a) ∧ O a = some i ∧ ¬ P.N a ∧ H a = some (hT kvs vs) ∧ Rl g F vs (kvs.map Prod.snd)
  | .lk kvs => ∃ (a : Addr) (od : Obj) (vs : List V), ov = some (.ref a) ∧ F a = some (.frz od (hK kvs vs)) ∧ Rl g F vs (kvs.map Prod.snd)
  | .lt kvs => ∃ (a : Addr) (od : Obj) (vs : List V), ov = some (.ref a) ∧ F a = some (.frz od (hT kvs vs)) ∧ Rl g F vs (kvs.map Prod.snd)
  | .gy ds => ∃ vs, Rl g F vs ds
  | .rk k kvs => ∃ (a : Addr) (vs : List V), ov = some (.ref a) ∧ P.B[k]? = some a ∧ O a = some i ∧ ¬ P.N a ∧ H a = some (hK kvs vs) ∧ Rl g F vs (kvs.map Prod.snd)
  | .xc c nm x => ∃ (a C d : Addr) (v : V), g.xa = some (a, .ref C, some d) ∧ g.mg c = some (.ref C) ∧ ov = some (.ref a) ∧ F d = some (.xd [(nm, v)]) ∧ Rv g F v x
theorem SlotOk.move {g : G} {P P' : Par} {O O' : Addr → Option Nat} {F F' H H' : Hp} {i : Nat} {s : Slot} {ov : Option V} (h : SlotOk g P O F H i s ov) (hB : P'.B = P.B) (hO : ∀ a, O a = some i → O' a = some i) (hF : Same F F')
    (hH : ∀ a o, O a = some i → H a = some o → H' a = some o) (hN : ∀ a, O a = some i → ¬ P.N a → ¬ P'.N a) : SlotOk g P' O' F' H' i s ov := by
  cases s with
  | no => trivial
  | sh d => obtain ⟨v, e, r⟩ := h; exact ⟨v, e, r.mono hF⟩
  | ow ds => obtain ⟨a, vs, e, o, n, h1, r⟩ := h; exact ⟨a, vs, e, hO a o, hN a o n, hH _ _ o h1, r.mono hF⟩
  | rf k ds => obtain ⟨a, vs, e, b, o, h1, r⟩ := h; exact ⟨a, vs, e, by rw [hB]; exact b, hO a o, hH _ _ o h1, r.mono hF⟩
  | oi k c ns ds => obtain ⟨a, C, dx, vs, e, b, o, m, l, h1, r⟩ := h; exact ⟨a, C, dx, vs, e, by rw [hB]; exact b, hO a o, m, l, hH _ _ o h1, r.mono hF⟩
  | xc c nm x => obtain ⟨a, C, d, v, e1, e2, e3, h1, r⟩ := h; exact ⟨a, C, d, v, e1, e2, e3, hF _ _ h1, r.mono hF⟩
  | gy ds => obtain ⟨vs, r⟩ := h; exact ⟨vs, r.mono hF⟩
  | rk k kvs => obtain ⟨a, vs, e, b, o, n, h1, r⟩ := h; exact ⟨a, vs, e, by rw [hB]; exact b, hO a o, hN a o n, hH _ _ o h1, r.mono hF⟩
  | dk kvs => obtain ⟨a, vs, e, o, n, h1, r⟩ := h; exact ⟨a, vs, e, hO a o, hN a o n, hH _ _ o h1, r.mono hF⟩
  | dt kvs => obtain ⟨a, vs, e, o, n, h1, r⟩ := h; exact ⟨a, vs, e, hO a o, hN a o n, hH _ _ o h1, r.mono hF⟩
  | lk kvs => obtain ⟨a, od, vs, e, h1, r⟩ := h; exact ⟨a, od, vs, e, hF _ _ h1, r.mono hF⟩
  | lt kvs => obtain ⟨a, od, vs, e, h1, r⟩ := h; exact ⟨a, od, vs, e, hF _ _ h1, r.mono hF⟩
  | o2 dss =>
    obtain ⟨a, bs, e, o, n, h1, nd, na, l, r⟩ := h
    refine ⟨a, bs, e, hO a o, hN a o n, hH _ _ o h1, nd, na, l, fun j b ds e1 e2 => ?_⟩
    obtain ⟨o', n', vs, h2, r2⟩ := r j b ds e1 e2
    exact ⟨hO b o', hN b o' n', vs, hH _ _ o' h2, r2.mono hF⟩
/-- something stands there that is no tuple -/
def NT (H : Hp) (a : Addr) : Prop := H a ≠ none ∧ ∀ xs, H a ≠ some (.tup xs)
theorem NT.of {H : Hp} {a : Addr} {o : HO} (h : H a = some o) (n : ∀ xs, o ≠ .tup xs := by intro _ z; cases z) : NT H a := ⟨by rw [h]; simp, fun xs z => by rw [h] at z; exact n xs (Option.some.inj z)⟩
theorem NT.same {H H' : Hp} {a : Addr} (e : Same H H') (h : NT H a) : NT H' a := by
  obtain ⟨h1, h2⟩ := h
  cases q : H a with
  | none => exact absurd q h1
  | some o => exact NT.of (e a o q) fun xs z => h2 xs (by rw [q, z])
theorem NT.get {H : Hp} {a : Addr} (h : NT H a) : ∃ o, H a = some o := by
  cases q : H a with
  | none => exact absurd q h.1
  | some o => exact ⟨o, rfl⟩
theorem NT.move {H H' : Hp} {a : Addr} (h : NT H a) (e : ∀ o, H a = some o → H' a = some o) : NT H' a := by
  obtain ⟨o, q⟩ := h.get
  exact NT.of (e o q) fun xs z => h.2 xs (by rw [q, z])
theorem NT.upd {H : Hp} {a b : Addr} {o : HO} (hb : b ≠ a) (h : NT H b) : NT (L2.upd H a o) b := NT.move h fun u hu => by rw [upd_ne hb]; exact hu
structure SRc (g : G) (P : Par) (O : Addr → Option Nat) (σ : L2.St) (H F : Hp) (st : DSt) : Prop where
  le : Same F H
  rr : Same P.R H
  oo : ∀ a i, O a = some i → F a = none ∧ P.R a = none ∧ NT H a
  no : ∀ a, P.N a → F a = none ∧ NT H a
  len : σ.length = st.length
  sl : ∀ i s ov, st[i]? = some s → σ[i]? = some ov → SlotOk g P O F H i s ov
def SR (g : G) (P : Par) (σ : L2.St) (H F : Hp) (st : DSt) : Prop := ∃ O, SRc g P O σ H F st
/-- .. and p belongs to nobody -/
def SRx (g : G) (P : Par) (σ : L2.St) (H F : Hp) (st : DSt) (p : Addr) : Prop := ∃ O, SRc g P O σ H F st ∧ O p = none ∧ F p = none ∧ P.R p = none ∧ ¬ P.N p
structure Grow (H F H' F' : Hp) : Prop where
  h : Same H H'
  f : Same F F'
  i : Same F' H'
  n : ∀ a, NT H a → F a = none → F' a = none
theorem Grow.refl {H F : Hp} (l : Same F H) : Grow H F H F := ⟨Same.refl _, Same.refl _, l, fun _ _ h => h⟩
theorem Grow.trans {H F H1 F1 H2 F2 : Hp} (a : Grow H F H1 F1) (b : Grow H1 F1 H2 F2) : Grow H F H2 F2 :=
  ⟨a.h.trans b.h, a.f.trans b.f, b.i, fun x h1 h2 => b.n x (NT.same a.h h1) (a.n x h1 h2)⟩
theorem ne_some {α : Type} {o : Option α} (h : o ≠ none) : ∃ x, o = some x := by
  cases o with
  | none => exact absurd rfl h
  | some x => exact ⟨x, rfl⟩
theorem Same.ne {H H' : Hp} (e : Same H H') {a : Addr} (h : H a ≠ none) : H' a ≠ none := by
  obtain ⟨o, ho⟩ := ne_some h
  rw [e a o ho]; simp
/-- a new object, frozen -/
theorem Grow.new {H F : Hp} {p : Addr} {o : HO} (l : Same F H) (h : H p = none) : Grow H F (upd H p o) (upd F p o) := by
  have hp : ∀ {b : Addr} {u : HO}, H b = some u → b ≠ p := fun e z => by subst z; rw [h] at e; cases e
  refine ⟨fun b u e => by rw [upd_ne (hp e)]; exact e, fun b u e => by rw [upd_ne (hp (l _ _ e))]; exact e, fun b u e => ?_, fun b hb hf => ?_⟩
  · by_cases hbp : b = p
    · subst hbp; rw [upd_same] at e ⊢; exact e
    · rw [upd_ne hbp] at e ⊢; exact l _ _ e
  · obtain ⟨u, e⟩ := hb.get
    rw [upd_ne (hp e)]; exact hf
/-- a new object, not frozen -/
theorem Grow.new0 {H F : Hp} {p : Addr} {o : HO} (l : Same F H) (h : H p = none) : Grow H F (upd H p o) F := by
  have hp : ∀ {b : Addr} {u : HO}, H b = some u → b ≠ p := fun e z => by subst z; rw [h] at e; cases e
  exact ⟨fun b u e => by rw [upd_ne (hp e)]; exact e, Same.refl _, fun b u e => by rw [upd_ne (hp (l _ _ e))]; exact l _ _ e, fun _ _ h => h⟩
section
variable {g : G} {P : Par} {O : Addr → Option Nat} {σ : L2.St} {H F H' F' : Hp} {st : DSt}
theorem SlotOk.grow {i : Nat} {s : Slot} {ov : Option V} (gr : Grow H F H' F') (h : SlotOk g P O F H i s ov) : SlotOk g P O F' H' i s ov :=
  h.move rfl (fun _ h => h) gr.f (fun _ _ _ h => gr.h _ _ h) fun _ _ h => h
theorem SRc.grow (s : SRc g P O σ H F st) (gr : Grow H F H' F') : SRc g P O σ H' F' st :=
  ⟨gr.i, s.rr.trans gr.h, fun a i e => ⟨gr.n a (s.oo a i e).2.2 (s.oo a i e).1, (s.oo a i e).2.1, NT.same gr.h (s.oo a i e).2.2⟩,
    fun a n => ⟨gr.n a (s.no a n).2 (s.no a n).1, NT.same gr.h (s.no a n).2⟩, s.len, fun i sl ov e1 e2 => (s.sl i sl ov e1 e2).grow gr⟩
theorem SR.grow (s : SR g P σ H F st) (gr : Grow H F H' F') : SR g P σ H' F' st := let ⟨O, c⟩ := s; ⟨O, c.grow gr⟩
theorem SR.le (s : SR g P σ H F st) : Same F H := let ⟨_, c⟩ := s; c.le
theorem SR.len (s : SR g P σ H F st) : σ.length = st.length := let ⟨_, c⟩ := s; c.len
end
inductive Res (α : Type) where
  | ok (a : α) (st : DSt) | exn (c : Str) (fs : List (Str × D)) (st : DSt) | stuck
inductive M (α : Type) where
  | ok (a : α) | exn (c : Str) (fs : List (Str × D)) | stuck
abbrev Den (α : Type) := DSt → Res α
@[simp] def bindD {α β : Type} (a : Den α) (k : α → Den β) : Den β := fun st => match a st with
  | .ok x st' => k x st'
  | .exn c fs st' => .exn c fs st'
  | .stuck => .stuck
@[simp] def liftO {α : Type} (o : Option α) : Den α := fun st => match o with
  | some a => .ok a st
  | none => .stuck
@[simp] def liftM' {α : Type} (m : M α) : Den α := fun st => match m with
  | .ok a => .ok a st
  | .exn c fs => .exn c fs st
  | .stuck => .stuck
@[simp] def retD {α : Type} (a : α) : Den α := fun st => .ok a st
def RepX (g : G) (F H : Hp) (c : Str) (fs : List (Str × D)) (cls : Value) (dd : Option Addr) : Prop :=
  ∃ C, g.mg c = some (.ref C) ∧ cls = .ref C ∧ ((fs = [] ∧ dd = none) ∨ ∃ d nm v x, dd = some d ∧ fs = [(nm, x)] ∧ F d = some (.xd [(nm, v)]) ∧ Rv g F v x)
theorem RepX.mono {g : G} {F F' H H' : Hp} {c : Str} {fs : List (Str × D)} {cls : Value} {dd : Option Addr} (ef : Same F F') (eh : Same H H') (h : RepX g F H c fs cls dd) : RepX g F' H' c fs cls dd := by
  obtain ⟨C, m, e, h⟩ := h
  refine ⟨C, m, e, ?_⟩
  rcases h with h | ⟨d, nm, v, x, e1, e2, e3, r⟩
  · exact .inl h
  · exact .inr ⟨d, nm, v, x, e1, e2, ef _ _ e3, r.mono ef⟩
def Out {α : Type} (g : G) (W : WX) (P : Par) (σ : L2.St) (F : Hp) (r : Res α) (k : α → DSt → Hp → Hp → Prop) : Prop := match r with
  | .ok a st' => ∀ H' F', Same F F' → SR g P σ H' F' st' → k a st' H' F'
  | .exn c fs st' => ∀ cls dd H' F', Same F F' → SR g P σ H' F' st' → RepX g F' H' c fs cls dd → W cls dd σ H'
  | .stuck => False
section
variable {g : G} {W : WX} {P : Par} {σ : L2.St} {F F' : Hp} {α β : Type}
theorem Out.imp {r : Res α} {k k' : α → DSt → Hp → Hp → Prop} (h : Out g W P σ F r k) (hk : ∀ a st' H' F', Same F F' → SR g P σ H' F' st' → k a st' H' F' → k' a st' H' F') : Out g W P σ F r k' := by
  cases r with
  | ok a st' => exact fun H' F' e s => hk a st' H' F' e s (h H' F' e s)
  | exn c fs st' => exact h
  | stuck => exact h
theorem Out.weak {r : Res α} {k : α → DSt → Hp → Hp → Prop} (e : Same F F') (h : Out g W P σ F r k) : Out g W P σ F' r k := by
  cases r with
  | ok a st' => exact fun H' F2 e2 s => h H' F2 (e.trans e2) s
  | exn c fs st' => exact fun cls dd H' F2 e2 s => h cls dd H' F2 (e.trans e2) s
  | stuck => exact h
theorem Out.bind {a : Den α} {f : α → Den β} {st : DSt} {k : β → DSt → Hp → Hp → Prop} (h : Out g W P σ F (bindD a f st) k) : Out g W P σ F (a st) (fun x st1 _ F1 => Out g W P σ F1 (f x st1) k) := by
  unfold bindD at h
  revert h
  cases a st with
  | ok x st' => exact fun h H' F' e s => Out.weak e h
  | exn c fs st' => exact fun h => h
  | stuck => exact fun h => h
theorem Out.lift {o : Option α} {st : DSt} {k : α → DSt → Hp → Hp → Prop} (h : Out g W P σ F (liftO o st) k) : ∃ a, o = some a ∧ ∀ H' F', Same F F' → SR g P σ H' F' st → k a st H' F' := by
  cases o with
  | some a => exact ⟨a, rfl, h⟩
  | none => exact h.elim
end
def tE (g : G) (W : WX) (f : Den D) : TE := fun σ H Q => ∃ P F st, SR g P σ H F st ∧ Out g W P σ F (f st) fun d _ H' F' => ∀ v, Rv g F' v d → Q v H'
def tT (g : G) (W : WX) (f : Den Bool) : TT := fun σ H Q => ∃ P F st, SR g P σ H F st ∧ Out g W P σ F (f st) fun b _ H' _ => Q b H'
def tA (g : G) (W : WX) (f : Den (List D)) : TA := fun σ H Q => ∃ P F st, SR g P σ H F st ∧ Out g W P σ F (f st) fun ds _ H' F' => ∀ vs, Rl g F' vs ds → Q vs H'
/-- a new list, owned by nobody -/
def OutN (g : G) (W : WX) (P : Par) (σ : L2.St) (F : Hp) (r : Res (List D)) (Q : VK) : Prop := match r with
  | .ok ds st' => ∀ H' F' p vs, Same F F' → SRx g P σ H' F' st' p → H' p = some (.lst vs) → Rl g F' vs ds → Q (.ref p) H'
  | .exn c fs st' => ∀ cls dd H' F', Same F F' → SR g P σ H' F' st' → RepX g F' H' c fs cls dd → W cls dd σ H'
  | .stuck => False
def tN (g : G) (W : WX) (f : Den (List D)) : TE := fun σ H Q => ∃ P F st, SR g P σ H F st ∧ OutN g W P σ F (f st) Q
theorem _root_.L2.PE.imp {X : Cx} {e : Expr} {t t' : TE} (h : PE X e t) (i : ∀ σ H Q, t' σ H Q → t σ H Q) : PE X e t' := ⟨fun pins s σ H Q I q => h.run pins s σ H Q I (i σ H Q q)⟩
theorem _root_.L2.PT.imp {X : Cx} {e : Expr} {t t' : TT} (h : PT X e t) (i : ∀ σ H Q, t' σ H Q → t σ H Q) : PT X e t' := ⟨fun pins s σ H Q I q => h.run pins s σ H Q I (i σ H Q q)⟩
theorem _root_.L2.PW.imp {X : Cx} {e : Expr} {t t' : TT} (h : PW X e t) (i : ∀ σ H Q, t' σ H Q → t σ H Q) : PW X e t' := ⟨fun w pins s σ H Q I q => h.run w pins s σ H Q I (i σ H Q q)⟩
theorem _root_.L2.PA.imp {X : Cx} {e : List Expr} {t t' : TA} (h : PA X e t) (i : ∀ σ H Q, t' σ H Q → t σ H Q) : PA X e t' := ⟨fun pos pins s σ H Q I q => h.run pos pins s σ H Q I (i σ H Q q)⟩
theorem _root_.L2.PS.imp {X : Cx} {e : Stmt} {t t' : TS} (h : PS X e t) (i : ∀ D σ H, t' D σ H → t D σ H) : PS X e t' := ⟨fun pins s σ H D I q => h.run pins s σ H D I (i D σ H q)⟩
theorem _root_.L2.PSs.imp {X : Cx} {e : List Stmt} {t t' : TS} (h : PSs X e t) (i : ∀ D σ H, t' D σ H → t D σ H) : PSs X e t' := ⟨fun pins s σ H D I q => h.run pins s σ H D I (i D σ H q)⟩
/-- read at the heap: frozen, or an owned list -/
def Br (g : G) (F H : Hp) (v : V) (d : D) : Prop := Rv g F v d ∨ ∃ a vs ds, v = .ref a ∧ d = .lst ds ∧ H a = some (.lst vs) ∧ Rl g F vs ds
end DL
namespace DL
open PySem PySem.Spec PyProof.Rows L2
mutual
def toPy : D → Option PyData
  | .non => some .none
  | .bl b => some (.bool b)
  | .int i => some (.int i)
  | .str x => some (.str x)
  | .lst xs => match toPys xs with | some ps => some (.list ps) | none => none
  | .tup xs => match toPys xs with | some ps => some (.tuple ps) | none => none
  | .ins _ _ _ => none
  | .scr _ => none
  | .kt _ => none
def toPys : List D → Option (List PyData)
  | [] => some []
  | d :: ds => match toPy d, toPys ds with | some p, some ps => some (p :: ps) | _, _ => none
end
theorem sqL_of {K : PySem.W.Frag} {H : Hp} {a : Addr} {xs : List V} (h : H a = some (.lst xs)) : SqL K H a xs := .inl (.inl h)
mutual
theorem Rv.dp {g : G} {F H : Hp} (l : Same F H) : ∀ {v : V} {d : D} {p : PyData}, Rv g F v d → toPy d = some p → Dp g.K H v p
  | _, .non, _, r, e => by cases r; cases e; exact .non
  | _, .bl b, _, r, e => by cases r; cases e; exact .bl b
  | _, .int b, _, r, e => by cases r; cases e; exact .int b
  | _, .str b, _, r, e => by cases r; cases e; exact .str b
  | _, .lst xs, _, r, e => by
    cases r with
    | lst h q =>
      unfold toPy at e
      cases z : toPys xs with
      | none => rw [z] at e; cases e
      | some ps => rw [z] at e; cases e; exact .lst (sqL_of (l _ _ h)) (Rl.dp l q z)
  | _, .tup xs, _, r, e => by
    cases r with
    | tup h _ q =>
      unfold toPy at e
      cases z : toPys xs with
      | none => rw [z] at e; cases e
      | some ps => rw [z] at e; cases e; exact .tup (sqT_mono l h) (Rl.dp l q z)
  | _, .ins _ _ _, _, r, e => by cases e
  | _, .scr _, _, r, e => by cases e
  | _, .kt _, _, r, e => by cases e
theorem Rl.dp {g : G} {F H : Hp} (l : Same F H) : ∀ {vs : List V} {ds : List D} {ps : List PyData}, Rl g F vs ds → toPys ds = some ps → DpAll g.K H vs ps
  | _, [], _, r, e => by cases r; cases e; exact .nil
  | _, d :: ds, _, r, e => by
    cases r with
    | cons a b =>
      unfold toPys at e
      cases z : toPy d with
      | none => rw [z] at e; cases e
      | some p =>
        cases z2 : toPys ds with
        | none => rw [z, z2] at e; cases e
        | some ps => rw [z, z2] at e; cases e; exact .cons (Rv.dp l a z) (Rl.dp l b z2)
end
theorem Br.dp {g : G} {F H : Hp} (l : Same F H) {v : V} {d : D} {p : PyData} (r : Br g F H v d) (e : toPy d = some p) : Dp g.K H v p := by
  rcases r with r | ⟨a, vs, ds, rfl, rfl, h, q⟩
  · exact r.dp l e
  · unfold toPy at e
    cases z : toPys ds with
    | none => rw [z] at e; cases e
    | some ps => rw [z] at e; cases e; exact .lst (sqL_of h) (Rl.dp l q z)
theorem Br.lst {g : G} {F H : Hp} (l : Same F H) {v : V} {ds : List D} (r : Br g F H v (.lst ds)) : ∃ a vs, v = .ref a ∧ H a = some (.lst vs) ∧ Rl g F vs ds := by
  rcases r with r | ⟨a, vs, ds', rfl, e, h, q⟩
  · cases r with
    | lst h q => exact ⟨_, _, rfl, l _ _ h, q⟩
  · cases e; exact ⟨a, vs, rfl, h, q⟩
theorem Br.tup {g : G} {F H : Hp} (l : Same F H) {v : V} {ds : List D} (r : Br g F H v (.tup ds)) : ∃ a vs, v = .ref a ∧ SqT g.K H a vs ∧ Rl g F vs ds := by
  rcases r with r | ⟨a, vs, ds', rfl, e, h, q⟩
  · cases r with
    | tup h _ q => exact ⟨_, _, rfl, sqT_mono l h, q⟩
  · cases e
theorem Br.int {g : G} {F H : Hp} {v : V} {i : Int} (r : Br g F H v (.int i)) : v = .int i := by
  rcases r with r | ⟨a, vs, ds', rfl, e, h, q⟩
  · cases r; rfl
  · cases e
theorem Br.bl {g : G} {F H : Hp} {v : V} {i : Bool} (r : Br g F H v (.bl i)) : v = .bl i := by
  rcases r with r | ⟨a, vs, ds', rfl, e, h, q⟩
  · cases r; rfl
  · cases e
theorem Br.str {g : G} {F H : Hp} {v : V} {i : Str} (r : Br g F H v (.str i)) : v = .str i := by
  rcases r with r | ⟨a, vs, ds', rfl, e, h, q⟩
  · cases r; rfl
  · cases e
theorem Br.non {g : G} {F H : Hp} {v : V} (r : Br g F H v .non) : v = .non := by
  rcases r with r | ⟨a, vs, ds', rfl, e, h, q⟩
  · cases r; rfl
  · cases e
def VO1 (g : G) (r : V → Hp → VK → Prop) (op : D → Option D) : Prop := ∀ (H F : Hp) (v : V) (d z : D), Same F H → Br g F H v d → op d = some z → ∀ Q : VK, (∀ v' H' F', Grow H F H' F' → Rv g F' v' z → Q v' H') → r v H Q
def VO2 (g : G) (r : R2) (op : D → D → Option D) : Prop := ∀ (H F : Hp) (v u : V) (d e z : D), Same F H → Br g F H v d → Br g F H u e → op d e = some z → ∀ Q : VK, (∀ v' H' F', Grow H F H' F' → Rv g F' v' z → Q v' H') → r v u H Q
def VOC (g : G) (r : List V → Hp → VK → Prop) (op : D → Option D) : Prop := VO1 g (fun v => r [v]) op
def VOC2 (g : G) (r : List V → Hp → VK → Prop) (op : D → D → Option D) : Prop := VO2 g (fun v u => r [v, u]) op
/-- .. that give a new list -/
def VN1 (g : G) (r : V → Hp → VK → Prop) (op : D → Option (List D)) : Prop := ∀ (H F : Hp) (v : V) (d : D) (zs : List D), Same F H → Br g F H v d → op d = some zs → ∀ Q : VK, (∀ p vs, H p = none → Rl g F vs zs → Q (.ref p) (upd H p (.lst vs))) → r v H Q
def VN2 (g : G) (r : R2) (op : D → D → Option (List D)) : Prop := ∀ (H F : Hp) (v u : V) (d e : D) (zs : List D), Same F H → Br g F H v d → Br g F H u e → op d e = some zs → ∀ Q : VK, (∀ p vs, H p = none → Rl g F vs zs → Q (.ref p) (upd H p (.lst vs))) → r v u H Q
theorem OpR.or {X : Cx} {f : Value → Value → Sem Value} {r r' : R2} (h : OpR X f r) (h' : OpR X f r') : OpR X f (fun x y H Q => r x y H Q ∨ r' x y H Q) := by
  intro pins s σ H x y v u Q I rx ry q
  rcases q with q | q
  · exact h pins s σ H x y v u Q I rx ry q
  · exact h' pins s σ H x y v u Q I rx ry q
theorem newT {g : G} {H F : Hp} {vs : List V} {ds : List D} {Q : VK} (l : Same F H) (r : Rl g F vs ds) (q : ∀ v' H' F', Grow H F H' F' → Rv g F' v' (.tup ds) → Q v' H') : NewT H Q vs := by
  cases ht : g.tk with
  | false => exact .inl fun p hp => q _ _ _ (Grow.new l hp) (.tup (.inl (.inl upd_same)) (by unfold TkP; rw [ht]; exact upd_same) (r.mono (Grow.new l hp).f))
  | true => exact .inr fun p o hp ko => q _ _ _ (Grow.new l hp) (.tup (.inl (.inr ⟨o, upd_same⟩)) (by unfold TkP; rw [ht]; exact KnT.new ko) (r.mono (Grow.new l hp).f))
section
variable {g : G}
def big : Nat := 16777216
theorem big_eq : big = sizeLine := by rw [sizeLine_eq]; rfl
@[simp] def opAdd : D → D → Option D
  | .int i, .int j => some (.int (i + j))
  | .str x, .str y => if x.length + y.length ≤ big then some (.str (x ++ y)) else none
  | .tup xs, .tup ys => if xs.length + ys.length ≤ big then some (.tup (xs ++ ys)) else none
  | .lst xs, .lst ys => if xs.length + ys.length ≤ big then some (.lst (xs ++ ys)) else none
  | _, _ => none
def rAddD (K : PySem.W.Frag) : R2 := fun x y H Q => rI0 (fun i j => .int (i + j)) x y H Q ∨ (∃ i j, x = .str i ∧ y = .str j ∧ i.length + j.length ≤ sizeLine ∧ Q (.str (i ++ j)) H) ∨ rCatN K x y H Q ∨ rCat x y H Q
theorem op_addD {X : Cx} : OpR X (binaryOp .Add) (rAddD X.K) := op_add.or (op_add_str.or (op_catN.or op_cat))
theorem vo_add : VO2 g (rAddD g.K) opAdd := by
  intro H F v u d e z l rd re h Q q
  unfold opAdd at h
  split at h
  · cases h; cases rd.int; cases re.int
    exact .inl ⟨_, _, rfl, rfl, q _ _ _ (Grow.refl l) (.int _)⟩
  · split at h
    · rename_i hl
      cases h; cases rd.str; cases re.str
      exact .inr (.inl ⟨_, _, rfl, rfl, by rw [← big_eq]; exact hl, q _ _ _ (Grow.refl l) (.str _)⟩)
    · cases h
  · split at h
    · rename_i xs ys hl
      cases h
      obtain ⟨a, vs, rfl, h1, r1⟩ := rd.tup l
      obtain ⟨b, ws, rfl, h2, r2⟩ := re.tup l
      refine .inr (.inr (.inl ?_))
      refine ⟨a, b, vs, ws, rfl, rfl, h1, h2, by rw [r1.length, r2.length, ← big_eq]; exact hl, fun e => ?_, fun _ e => ?_, fun _ _ => newT l (r1.append r2) q⟩
      · subst e
        cases r1
        rcases re with re | ⟨_, _, _, _, e, _⟩
        · exact q _ _ _ (Grow.refl l) re
        · cases e
      · subst e
        cases r2
        rw [List.append_nil] at q
        rcases rd with rd | ⟨_, _, _, _, e, _⟩
        · exact q _ _ _ (Grow.refl l) rd
        · cases e
    · cases h
  · split at h
    · rename_i xs ys hl
      cases h
      obtain ⟨a, vs, rfl, h1, r1⟩ := rd.lst l
      obtain ⟨b, ws, rfl, h2, r2⟩ := re.lst l
      exact .inr (.inr (.inr ⟨a, b, vs, ws, rfl, rfl, h1, h2, by rw [r1.length, r2.length, ← big_eq]; exact hl, fun p hp => q _ _ _ (Grow.new l hp) (.lst upd_same ((r1.append r2).mono (Grow.new l hp).f))⟩))
    · cases h
  · cases h
@[simp] def nAdd : D → D → Option (List D)
  | .lst xs, .lst ys => if xs.length + ys.length ≤ big then some (xs ++ ys) else none
  | _, _ => none
theorem vn_add : VN2 g (rAddD g.K) nAdd := by
  intro H F v u d e z l rd re h Q q
  unfold nAdd at h
  split at h
  · split at h
    · rename_i xs ys hl
      cases h
      obtain ⟨a, vs, rfl, h1, r1⟩ := rd.lst l
      obtain ⟨b, ws, rfl, h2, r2⟩ := re.lst l
      exact .inr (.inr (.inr ⟨a, b, vs, ws, rfl, rfl, h1, h2, by rw [r1.length, r2.length, ← big_eq]; exact hl, fun p hp => q _ _ hp (r1.append r2)⟩))
    · cases h
  · cases h
@[simp] def opSub : D → D → Option D
  | .int i, .int j => some (.int (i - j))
  | _, _ => none
theorem vo_sub : VO2 g (rI0 fun i j => .int (i - j)) opSub := by
  intro H F v u d e z l rd re h Q q
  unfold opSub at h
  split at h
  · cases h; cases rd.int; cases re.int
    exact ⟨_, _, rfl, rfl, q _ _ _ (Grow.refl l) (.int _)⟩
  · cases h
def smallI (i : Int) : Bool := decide (i.natAbs < 18446744073709551616)
theorem small_of {i : Int} (h : smallI i = true) : -(2 ^ 64) < i ∧ i < 2 ^ 64 := by
  have : i.natAbs < 18446744073709551616 := of_decide_eq_true h
  omega
@[simp] def opMul : D → D → Option D
  | .int i, .int j => if smallI i || smallI j then some (.int (i * j)) else none
  | .lst xs, .int k => if xs.length * k.toNat ≤ big ∧ smallI (k * 4) = true ∧ k.natAbs < 9223372036854775808 then some (.lst (List.replicate k.toNat xs).flatten) else none
  | _, _ => none
def rMulD : R2 := fun x y H Q => rI CMul (fun i j => .int (i * j)) x y H Q ∨ rRep x y H Q
theorem op_mulD {X : Cx} : OpR X (binaryOp .Mult) rMulD := op_mul.or op_rep
theorem vo_mul : VO2 g rMulD opMul := by
  intro H F v u d e z l rd re h Q q
  unfold opMul at h
  split at h
  · split at h
    · rename_i hc
      cases h; cases rd.int; cases re.int
      refine .inl ⟨_, _, rfl, rfl, ?_, q _ _ _ (Grow.refl l) (.int _)⟩
      rcases Bool.or_eq_true_iff.mp hc with c | c
      · exact .inl (small_of c)
      · exact .inr (small_of c)
    · cases h
  · split at h
    · rename_i xs k hl
      cases h
      obtain ⟨a, vs, rfl, h1, r1⟩ := rd.lst l
      cases re.int
      obtain ⟨hl1, hl2, hl3⟩ := hl
      exact .inr ⟨a, k, vs, rfl, rfl, h1, by omega, by omega, by rw [r1.length, ← big_eq]; exact hl1, fun p hp => q _ _ _ (Grow.new l hp) (.lst upd_same ((r1.rep k.toNat).mono (Grow.new l hp).f))⟩
    · cases h
  · cases h
@[simp] def nMul : D → D → Option (List D)
  | .lst xs, .int k => if xs.length * k.toNat ≤ big ∧ k.natAbs < 9223372036854775808 then some (List.replicate k.toNat xs).flatten else none
  | _, _ => none
@[simp] def opDiv : D → D → Option D
  | .int i, .int j => if j ≠ 0 ∧ j.natAbs < 1073741824 then some (.int (i.fdiv j)) else none
  | _, _ => none
theorem vo_div : VO2 g (rI CDivN fun i j => .int (i.fdiv j)) opDiv := by
  intro H F v u d e z l rd re h Q q
  unfold opDiv at h
  split at h
  · split at h
    · rename_i hc
      cases h; cases rd.int; cases re.int
      exact ⟨_, _, rfl, rfl, hc, q _ _ _ (Grow.refl l) (.int _)⟩
    · cases h
  · cases h
@[simp] def opMod : D → D → Option D
  | .int i, .int j => if j ≠ 0 then some (.int (i.fmod j)) else none
  | _, _ => none
theorem vo_mod : VO2 g (rI (fun _ j => j ≠ 0) fun i j => .int (i.fmod j)) opMod := by
  intro H F v u d e z l rd re h Q q
  unfold opMod at h
  split at h
  · split at h
    · rename_i hc
      cases h; cases rd.int; cases re.int
      exact ⟨_, _, rfl, rfl, hc, q _ _ _ (Grow.refl l) (.int _)⟩
    · cases h
  · cases h
@[simp] def opNeg : D → Option D
  | .int i => some (.int (-i))
  | _ => none
theorem vo_neg : VO1 g (rU fun i => .int (-i)) opNeg := by
  intro H F v d z l rd h Q q
  unfold opNeg at h
  split at h
  · cases h; cases rd.int
    exact ⟨_, rfl, q _ _ _ (Grow.refl l) (.int _)⟩
  · cases h
@[simp] def cmpI (p : Int → Int → Bool) : D → D → Option D
  | .int i, .int j => some (.bl (p i j))
  | _, _ => none
theorem vo_cmpI (p : Int → Int → Bool) : VO2 g (rI0 fun i j => .bl (p i j)) (cmpI p) := by
  intro H F v u d e z l rd re h Q q
  unfold cmpI at h
  split at h
  · cases h; cases rd.int; cases re.int
    exact ⟨_, _, rfl, rfl, q _ _ _ (Grow.refl l) (.bl _)⟩
  · cases h
@[simp] def opLt : D → D → Option D := cmpI fun i j => decide (i < j)
@[simp] def opLe : D → D → Option D := cmpI fun i j => decide (i ≤ j)
@[simp] def opGt : D → D → Option D := cmpI fun i j => decide (j < i)
@[simp] def opGe : D → D → Option D := cmpI fun i j => decide (j ≤ i)
def eqD (x y : D) : Option Bool := match toPy x, toPy y with
  | some p, some q => if SeqAt.shaped p && SeqAt.shaped q then some (PyData.eqv p q) else none
  | _, _ => none
@[simp] def opEq (x y : D) : Option D := match eqD x y with | some b => some (.bl b) | none => none
@[simp] def opNe (x y : D) : Option D := match eqD x y with | some b => some (.bl (!b)) | none => none
theorem eqD_some {x y : D} {b : Bool} (h : eqD x y = some b) : ∃ p q, toPy x = some p ∧ toPy y = some q ∧ SeqAt.shaped p = true ∧ SeqAt.shaped q = true ∧ b = PyData.eqv p q := by
  unfold eqD at h
  split at h
  · rename_i p q e1 e2
    split at h
    · rename_i hs
      cases h
      obtain ⟨h1, h2⟩ := Bool.and_eq_true_iff.mp hs
      exact ⟨p, q, e1, e2, h1, h2, rfl⟩
    · cases h
  · cases h
theorem vo_eq : VO2 g (rEqD g.K) opEq := by
  intro H F v u d e z l rd re h Q q
  unfold opEq at h
  split at h
  · rename_i b hb
    cases h
    obtain ⟨p, r, e1, e2, s1, s2, rfl⟩ := eqD_some hb
    exact ⟨p, r, rd.dp l e1, re.dp l e2, s1, s2, q _ _ _ (Grow.refl l) (.bl _)⟩
  · cases h
theorem vo_ne : VO2 g (rNeD g.K) opNe := by
  intro H F v u d e z l rd re h Q q
  unfold opNe at h
  split at h
  · rename_i b hb
    cases h
    obtain ⟨p, r, e1, e2, s1, s2, rfl⟩ := eqD_some hb
    exact ⟨p, r, rd.dp l e1, re.dp l e2, s1, s2, q _ _ _ (Grow.refl l) (.bl _)⟩
  · cases h
/-- is, is not: None and truth values -/
@[simp] def isD : D → D → Option Bool
  | .bl a, .bl b => some (decide (a = b))
  | d, .non => some (match d with | .non => true | _ => false)
  | .non, .bl _ => some false
  | .int _, .bl _ => some false
  | .str _, .bl _ => some false
  | .lst _, .bl _ => some false
  | .tup _, .bl _ => some false
  | _, _ => none
@[simp] def opIs (x y : D) : Option D := match isD x y with | some b => some (.bl b) | none => none
@[simp] def opIsNot (x y : D) : Option D := match isD x y with | some b => some (.bl (!b)) | none => none
/-- no truth value -/
def noBl : V → Bool
  | .non | .int _ | .str _ | .ref _ => true
  | _ => false
def rIsO (z : Bool) : R2 := fun x y H Q => ∃ b, y = .bl b ∧ noBl x = true ∧ Q (.bl z) H
theorem op_notO {X : Cx} : OpR X (compareOp .IsNot) (rIsO true) := by
  intro pins s σ H x y v u Q I rx ry h
  obtain ⟨b, rfl, hx, q⟩ := h
  cases (show u = Value.bool b from ry)
  have fin : ∀ v' : Value, plainIs v' (.bool b) = true → v' ≠ .bool b → wpAny (model X.prog X.w) X.A (compareOp .IsNot v' (.bool b)) (EP X pins σ Q) X.xe s := fun v' h1 h2 => wpAny_isNot_other h1 h2 ⟨.bl true, H, I, rfl, q⟩
  cases x with
  | non => cases rx; exact fin _ rfl (by intro z; cases z)
  | int i => obtain ⟨t, rfl⟩ := rx; exact fin _ rfl (by intro z; cases z)
  | str i => obtain ⟨t, rfl⟩ := rx; exact fin _ rfl (by intro z; cases z)
  | ref a => cases rx; exact fin _ rfl (by intro z; cases z)
  | _ => cases hx
def rIsNotD : R2 := fun x y H Q => (y = .non ∧ Q (.bl (!decide (x = .non))) H) ∨ rNotB x y H Q ∨ rIsO true x y H Q
theorem op_isNotD {X : Cx} : OpR X (compareOp .IsNot) rIsNotD := op_notN.or (op_notBl.or op_notO)
theorem isD_cases {H F : Hp} {v u : V} {d e : D} {b : Bool} (l : Same F H) (rd : Br g F H v d) (re : Br g F H u e) (h : isD d e = some b) : (u = .non ∧ b = decide (v = .non)) ∨ (∃ x y, v = .bl x ∧ u = .bl y ∧ b = decide (x = y)) ∨ ∃ y, u = .bl y ∧ noBl v = true ∧ b = false := by
  unfold isD at h
  split at h
  · cases h; cases rd.bl; cases re.bl
    exact .inr (.inl ⟨_, _, rfl, rfl, rfl⟩)
  · cases h; cases re.non
    refine .inl ⟨rfl, ?_⟩
    rcases rd with rd | ⟨a, vs, ds, rfl, rfl, _⟩
    · cases rd <;> rfl
    · rfl
  · cases h; cases re.bl; cases rd.non; exact .inr (.inr ⟨_, rfl, rfl, rfl⟩)
  · cases h; cases re.bl; cases rd.int; exact .inr (.inr ⟨_, rfl, rfl, rfl⟩)
  · cases h; cases re.bl; cases rd.str; exact .inr (.inr ⟨_, rfl, rfl, rfl⟩)
  · cases h; cases re.bl; obtain ⟨a, vs, rfl, _⟩ := rd.lst l; exact .inr (.inr ⟨_, rfl, rfl, rfl⟩)
  · cases h; cases re.bl; obtain ⟨a, vs, rfl, _⟩ := rd.tup l; exact .inr (.inr ⟨_, rfl, rfl, rfl⟩)
  · cases h
theorem vo_isnot : VO2 g rIsNotD opIsNot := by
  intro H F v u d e z l rd re h Q q
  unfold opIsNot at h
  split at h
  · rename_i b hb
    cases h
    rcases isD_cases l rd re hb with ⟨rfl, rfl⟩ | ⟨x, y, rfl, rfl, rfl⟩ | ⟨y, rfl, hv, rfl⟩
    · exact .inl ⟨rfl, q _ _ _ (Grow.refl l) (.bl _)⟩
    · exact .inr (.inl ⟨x, y, rfl, rfl, q _ _ _ (Grow.refl l) (.bl _)⟩)
    · exact .inr (.inr ⟨y, rfl, hv, q _ _ _ (Grow.refl l) (.bl _)⟩)
  · cases h
def flatD : D → Bool
  | .non | .bl _ | .int _ | .str _ => true
  | _ => false
def eqF : D → D → Bool
  | .non, .non => true
  | .bl a, .bl b => a == b
  | .bl a, .int b => (if a then 1 else 0) == b
  | .int a, .bl b => a == (if b then 1 else 0)
  | .int a, .int b => a == b
  | .str a, .str b => a == b
  | _, _ => false
theorem flat_rv {F : Hp} {v : V} {d : D} (r : Rv g F v d) (h : flatD d = true) : flatV v = true := by
  cases r <;> first | rfl | cases h
theorem eqF_rv {F : Hp} {v u : V} {d e : D} (r : Rv g F v d) (s : Rv g F u e) (h : flatD d = true) (h2 : flatD e = true) : eqV v u = eqF d e := by
  cases r <;> first | (cases s <;> first | rfl | cases h2) | cases h
theorem all_flat {F : Hp} : ∀ {vs : List V} {ds : List D}, Rl g F vs ds → ds.all flatD = true → vs.all flatV = true
  | _, _, .nil, _ => rfl
  | _, _, .cons r t, h => by
    rw [List.all_cons, Bool.and_eq_true] at h
    rw [List.all_cons, flat_rv r h.1, all_flat t h.2]; rfl
theorem any_eqF {F : Hp} {u : V} {e : D} (s : Rv g F u e) (h2 : flatD e = true) : ∀ {vs : List V} {ds : List D}, Rl g F vs ds → ds.all flatD = true → vs.any (fun y => eqV y u) = ds.any fun y => eqF y e
  | _, _, .nil, _ => rfl
  | _, _, .cons r t, h => by
    rw [List.all_cons, Bool.and_eq_true] at h
    rw [List.any_cons, List.any_cons, eqF_rv r s h.1 h2, any_eqF s h2 t h.2]
def inD (x y : D) : Option Bool := match y with
  | .lst ys => if flatD x && ys.all flatD then some (ys.any fun y => eqF y x) else
      match toPy x, toPys ys with
      | some p, some qs => if SeqAt.shaped p && SeqAt.shaped (.list qs) then some (qs.any fun z => PyData.eqv z p) else none
      | _, _ => none
  | .tup ys => if flatD x && ys.all flatD then some (ys.any fun y => eqF y x) else
      match toPy x, toPys ys with
      | some p, some qs => if SeqAt.shaped p && SeqAt.shaped (.tuple qs) then some (qs.any fun z => PyData.eqv z p) else none
      | _, _ => none
  | .str t => match x with | .str s => some (!(Builtin.Str.occurrences t s 0 t.length 1).isEmpty) | _ => none
  | _ => none
@[simp] def opIn (x y : D) : Option D := match inD x y with | some b => some (.bl b) | none => none
@[simp] def opNotIn (x y : D) : Option D := match inD x y with | some b => some (.bl (!b)) | none => none
def rNotInT (K : PySem.W.Frag) : R2 := fun x y H Q => ∃ d ds, Dp K H x d ∧ Dp K H y (.tuple ds) ∧ SeqAt.shaped d = true ∧ SeqAt.shaped (.tuple ds) = true ∧ Q (.bl (!(ds.any fun z => PyData.eqv z d))) H
theorem op_notInT {X : Cx} (hu : X.A.units + 65 < cLine) : OpR X (compareOp .NotIn) (rNotInT X.K) := by
  intro pins s σ H x y v u Q I rx ry hw
  obtain ⟨d, ds, hd, he, sd, se, q⟩ := hw
  obtain ⟨as, r1⟩ := Dp.reads I d x v hd rx
  obtain ⟨bs, r2⟩ := Dp.reads I (.tuple ds) y u he ry
  exact SeqAt.notIn_tuple_reads r2 r1 (SeqAt.canLay_of_shaped se) (SeqAt.canLay_of_shaped sd) (room_in_shaped sd hu) ⟨.bl _, H, I, rfl, q⟩
def rNotInA (K : PySem.W.Frag) : R2 := fun x y H Q => rIn K true x y H Q ∨ rNotInD K x y H Q ∨ rNotInT K x y H Q ∨ ∃ i j, x = .str i ∧ y = .str j ∧ Q (.bl (!(!(Builtin.Str.occurrences j i 0 j.length 1).isEmpty))) H
theorem op_notInA {X : Cx} (hu : X.A.units + 65 < cLine) : OpR X (compareOp .NotIn) (rNotInA X.K) := op_notIn_seq.or ((op_notInD hu).or ((op_notInT hu).or op_notIn_str))
theorem Br.flat {F H : Hp} {v : V} {d : D} (r : Br g F H v d) (h : flatD d = true) : Rv g F v d := by
  rcases r with r | ⟨_, _, _, _, rfl, _⟩
  · exact r
  · cases h
theorem inD_cases {H F : Hp} {v u : V} {d e : D} {b : Bool} (l : Same F H) (rd : Br g F H v d) (re : Br g F H u e) (h : inD d e = some b) :
    (∃ p xs, u = .ref p ∧ (SqL g.K H p xs ∨ SqT g.K H p xs) ∧ flatV v = true ∧ xs.all flatV = true ∧ inV v xs = b) ∨
    (∃ d ds, Dp g.K H v d ∧ Dp g.K H u (.list ds) ∧ SeqAt.shaped d = true ∧ SeqAt.shaped (.list ds) = true ∧ (ds.any fun z => PyData.eqv z d) = b) ∨
    (∃ d ds, Dp g.K H v d ∧ Dp g.K H u (.tuple ds) ∧ SeqAt.shaped d = true ∧ SeqAt.shaped (.tuple ds) = true ∧ (ds.any fun z => PyData.eqv z d) = b) ∨
    ∃ i j, v = .str i ∧ u = .str j ∧ (!(Builtin.Str.occurrences j i 0 j.length 1).isEmpty) = b := by
  unfold inD at h
  split at h
  · rename_i ys
    split at h
    · rename_i hf
      cases h
      obtain ⟨f1, f2⟩ := Bool.and_eq_true_iff.mp hf
      obtain ⟨a, vs, rfl, h1, r1⟩ := re.lst l
      exact .inl ⟨a, vs, rfl, .inl (sqL_of h1), flat_rv (rd.flat f1) f1, all_flat r1 f2, any_eqF (rd.flat f1) f1 r1 f2⟩
    · split at h
      · rename_i p qs e1 e2
        split at h
        · rename_i hs
          cases h
          obtain ⟨h1, h2⟩ := Bool.and_eq_true_iff.mp hs
          exact .inr (.inl ⟨p, qs, rd.dp l e1, re.dp l (by unfold toPy; rw [e2]), h1, h2, rfl⟩)
        · cases h
      · cases h
  · rename_i ys
    split at h
    · rename_i hf
      cases h
      obtain ⟨f1, f2⟩ := Bool.and_eq_true_iff.mp hf
      obtain ⟨a, vs, rfl, h1, r1⟩ := re.tup l
      exact .inl ⟨a, vs, rfl, .inr h1, flat_rv (rd.flat f1) f1, all_flat r1 f2, any_eqF (rd.flat f1) f1 r1 f2⟩
    · split at h
      · rename_i p qs e1 e2
        split at h
        · rename_i hs
          cases h
          obtain ⟨h1, h2⟩ := Bool.and_eq_true_iff.mp hs
          exact .inr (.inr (.inl ⟨p, qs, rd.dp l e1, re.dp l (by unfold toPy; rw [e2]), h1, h2, rfl⟩))
        · cases h
      · cases h
  · split at h
    · cases h
      exact .inr (.inr (.inr ⟨_, _, rd.str, re.str, rfl⟩))
    · cases h
  · cases h
theorem vo_notin : VO2 g (rNotInA g.K) opNotIn := by
  intro H F v u d e z l rd re h Q q
  unfold opNotIn at h
  split at h
  · rename_i b hb
    cases h
    rcases inD_cases l rd re hb with ⟨p, xs, e1, e2, e3, e4, rfl⟩ | ⟨p, ds, e1, e2, e3, e4, rfl⟩ | ⟨p, ds, e1, e2, e3, e4, rfl⟩ | ⟨i, j, e1, e2, rfl⟩
    · exact .inl ⟨p, xs, e1, e2, e3, e4, q _ _ _ (Grow.refl l) (.bl _)⟩
    · exact .inr (.inl ⟨p, ds, e1, e2, e3, e4, q _ _ _ (Grow.refl l) (.bl _)⟩)
    · exact .inr (.inr (.inl ⟨p, ds, e1, e2, e3, e4, q _ _ _ (Grow.refl l) (.bl _)⟩))
    · exact .inr (.inr (.inr ⟨i, j, e1, e2, q _ _ _ (Grow.refl l) (.bl _)⟩))
  · cases h
@[simp] def opIx : D → D → Option D
  | .lst xs, .int i => atI xs i
  | .tup xs, .int i => atI xs i
  | .str z, .int i => if z.length ≤ big then match atI z.cps.toList i with | some c => some (.str ⟨#[c]⟩) | none => none else none
  | _, _ => none
theorem atI_rl {F : Hp} {vs : List V} {ds : List D} {i : Int} {z : D} (r : Rl g F vs ds) (h : atI ds i = some z) : ∃ v, atI vs i = some v ∧ Rv g F v z := by
  unfold atI at h ⊢
  rw [r.length]
  cases e : ixN ds.length i with
  | none => rw [e] at h; cases h
  | some j =>
    rw [e] at h
    obtain ⟨v, h1, h2⟩ := r.get (show ds[j]? = some z from h)
    exact ⟨v, h1, h2⟩
theorem vo_ix : VO2 g (rIx g.K) opIx := by
  intro H F v u d e z l rd re h Q q
  unfold opIx at h
  split at h
  · cases re.int
    obtain ⟨a, vs, rfl, h1, r1⟩ := rd.lst l
    obtain ⟨w, h2, r2⟩ := atI_rl r1 h
    exact .inl ⟨a, vs, _, w, rfl, rfl, sqL_of h1, h2, q _ _ _ (Grow.refl l) r2⟩
  · cases re.int
    obtain ⟨a, vs, rfl, h1, r1⟩ := rd.tup l
    obtain ⟨w, h2, r2⟩ := atI_rl r1 h
    exact .inr (.inl ⟨a, vs, _, w, rfl, rfl, h1, h2, q _ _ _ (Grow.refl l) r2⟩)
  · split at h
    · rename_i hz
      split at h
      · rename_i c hc
        cases h; cases re.int; cases rd.str
        exact .inr (.inr ⟨_, _, c, rfl, rfl, by rw [← big_eq]; exact hz, hc, q _ _ _ (Grow.refl l) (.str _)⟩)
      · cases h
    · cases h
  · cases h
@[simp] def opLen : D → Option D
  | .lst xs => some (.int xs.length)
  | .tup xs => some (.int xs.length)
  | .str z => if z.length ≤ big then some (.int z.length) else none
  | _ => none
def rLenD (K : PySem.W.Frag) : List V → Hp → VK → Prop := fun xs H Q => (∃ p ys, xs = [.ref p] ∧ (SqL K H p ys ∨ SqT K H p ys) ∧ Q (.int ys.length) H) ∨ ∃ z, xs = [.str z] ∧ z.length ≤ sizeLine ∧ Q (.int z.length) H
theorem call_lenD {X : Cx} : CallR X (.builtin "len") (rLenD X.K) := call_len_seq.or call_len_str
theorem vo_len : VOC g (rLenD g.K) opLen := by
  intro H F v d z l rd h Q q
  unfold opLen at h
  split at h
  · cases h
    obtain ⟨a, vs, rfl, h1, r1⟩ := rd.lst l
    exact .inl ⟨a, vs, rfl, .inl (sqL_of h1), by rw [r1.length]; exact q _ _ _ (Grow.refl l) (.int _)⟩
  · cases h
    obtain ⟨a, vs, rfl, h1, r1⟩ := rd.tup l
    exact .inl ⟨a, vs, rfl, .inr h1, by rw [r1.length]; exact q _ _ _ (Grow.refl l) (.int _)⟩
  · split at h
    · rename_i hz
      cases h; cases rd.str
      exact .inr ⟨_, rfl, by rw [← big_eq]; exact hz, q _ _ _ (Grow.refl l) (.int _)⟩
    · cases h
  · cases h
@[simp] def opAbs : D → Option D
  | .int i => some (.int (if i < 0 then -i else i))
  | _ => none
theorem vo_abs : VOC g (fun xs H Q => ∃ i, xs = [.int i] ∧ Q (.int (if i < 0 then -i else i)) H) opAbs := by
  intro H F v d z l rd h Q q
  unfold opAbs at h
  split at h
  · cases h; cases rd.int; exact ⟨_, rfl, q _ _ _ (Grow.refl l) (.int _)⟩
  · cases h
@[simp] def opMax2 : D → D → Option D
  | .int i, .int j => some (.int (if j > i then j else i))
  | _, _ => none
@[simp] def opMin2 : D → D → Option D
  | .int i, .int j => some (.int (if j < i then j else i))
  | _, _ => none
theorem vo_min2 : VOC2 g (fun xs H Q => ∃ i j, xs = [.int i, .int j] ∧ Q (.int (if j < i then j else i)) H) opMin2 := by
  intro H F v u d e z l rd re h Q q
  unfold opMin2 at h
  split at h
  · cases h; cases rd.int; cases re.int; exact ⟨_, _, rfl, q _ _ _ (Grow.refl l) (.int _)⟩
  · cases h
@[simp] def opInt : D → Option D
  | .int i => some (.int i)
  | .bl b => some (.int (if b then 1 else 0))
  | _ => none
theorem vo_int : VOC g (fun xs H Q => (∃ i, xs = [.int i] ∧ Q (.int i) H) ∨ ∃ k, xs = [.bl k] ∧ Q (.int (if k then 1 else 0)) H) opInt := by
  intro H F v d z l rd h Q q
  unfold opInt at h
  split at h
  · cases h; cases rd.int; exact .inl ⟨_, rfl, q _ _ _ (Grow.refl l) (.int _)⟩
  · cases h; cases rd.bl; exact .inr ⟨_, rfl, q _ _ _ (Grow.refl l) (.int _)⟩
  · cases h
@[simp] def opStr : D → Option D
  | .int i => if i.natAbs.log2 < 1920 then some (.str (toString i : String)) else none
  | _ => none
theorem vo_str : VOC g (fun xs H Q => ∃ i, xs = [.int i] ∧ i.natAbs.log2 < 1920 ∧ Q (.str (toString i : String)) H) opStr := by
  intro H F v d z l rd h Q q
  unfold opStr at h
  split at h
  · split at h
    · rename_i hz
      cases h; cases rd.int; exact ⟨_, rfl, hz, q _ _ _ (Grow.refl l) (.str _)⟩
    · cases h
  · cases h
@[simp] def opTuple : D → Option D
  | .lst xs => some (.tup xs)
  | .tup xs => some (.tup xs)
  | _ => none
theorem vo_tuple : VOC g (rTupN g.K) opTuple := by
  intro H F v d z l rd h Q q
  unfold opTuple at h
  split at h
  · cases h
    obtain ⟨a, vs, rfl, h1, r1⟩ := rd.lst l
    exact ⟨a, vs, rfl, .inl ⟨sqL_of h1, newT l r1 q⟩⟩
  · cases h
    rcases rd with rd | ⟨_, _, _, _, e, _⟩
    · obtain ⟨a, vs, rfl, h1, r1⟩ := Br.tup l (.inl rd)
      exact ⟨a, vs, rfl, .inr ⟨h1, q _ _ _ (Grow.refl l) rd⟩⟩
    · cases e
  · cases h
@[simp] def nList : D → Option (List D)
  | .lst xs => some xs
  | .tup xs => some xs
  | _ => none
theorem vn_list : VN1 g (fun v => (fun xs H Q => ∃ p ys, xs = [V.ref p] ∧ (SqL g.K H p ys ∨ SqT g.K H p ys) ∧ ∀ l, H l = none → Q (.ref l) (upd H l (.lst ys))) [v]) nList := by
  intro H F v d z l rd h Q q
  unfold nList at h
  split at h
  · cases h
    obtain ⟨a, vs, rfl, h1, r1⟩ := rd.lst l
    exact ⟨a, vs, rfl, .inl (sqL_of h1), fun p hp => q _ _ hp r1⟩
  · cases h
    obtain ⟨a, vs, rfl, h1, r1⟩ := rd.tup l
    exact ⟨a, vs, rfl, .inr h1, fun p hp => q _ _ hp r1⟩
  · cases h
def intsOf : List D → Option (List Int)
  | [] => some []
  | .int i :: r => match intsOf r with | some is => some (i :: is) | none => none
  | _ :: _ => none
def blsOf : List D → Option (List Bool)
  | [] => some []
  | .bl i :: r => match blsOf r with | some is => some (i :: is) | none => none
  | _ :: _ => none
@[simp] def onInts {α : Type} (f : List Int → Option α) : D → Option α
  | .lst ds => match intsOf ds with | some is => f is | none => none
  | _ => none
@[simp] def opSum : D → Option D := onInts fun is => some (.int is.sum)
def minL : List Int → Int
  | [] => 0
  | [x] => x
  | x :: r => if x ≤ minL r then x else minL r
def maxL : List Int → Int
  | [] => 0
  | [x] => x
  | x :: r => if maxL r ≤ x then x else maxL r
@[simp] def opMin : D → Option D := onInts fun is => if is.isEmpty then none else some (.int (minL is))
@[simp] def opMax : D → Option D := onInts fun is => if is.isEmpty then none else some (.int (maxL is))
@[simp] def onBls {α : Type} (f : List Bool → Option α) : D → Option α
  | .lst ds => match blsOf ds with | some is => f is | none => none
  | _ => none
@[simp] def opAll : D → Option D := onBls fun is => some (.bl (is.all id))
@[simp] def opAny : D → Option D := onBls fun is => some (.bl (is.any id))
end
end DL
namespace DL
open PySem PySem.Spec PyProof.Rows L2
@[simp] def dVar (i : Nat) : Den D := fun st => match st[i]? with
  | some (.sh d) => .ok d st
  | some (.ow ds) => .ok (.lst ds) (st.set i (.sh (.lst ds)))
  | some (.o2 dss) => .ok (.lst (dss.map .lst)) (st.set i (.sh (.lst (dss.map .lst))))
  | _ => .stuck
@[simp] def dRd (i : Nat) : Den D := fun st => match st[i]? with
  | some (.sh d) => .ok d st
  | some (.ow ds) => .ok (.lst ds) st
  | some (.rf _ ds) => .ok (.lst ds) st
  | _ => .stuck
@[simp] def dC (d : D) : Den D := retD d
@[simp] def dOp1 (op : D → Option D) (a : Den D) : Den D := bindD a fun x => liftO (op x)
@[simp] def dOp2 (op : D → D → Option D) (a b : Den D) : Den D := bindD a fun x => bindD b fun y => liftO (op x y)
/-- first b, then the name's content -/
@[simp] def dOp2n (op : D → D → Option D) (i : Nat) (b : Den D) : Den D := bindD (dRd i) fun _ => bindD b fun y => bindD (dRd i) fun x => liftO (op x y)
@[simp] def dOp2m (op : D → D → Option D) (a : Den D) (j : Nat) : Den D := bindD a fun x => bindD (dRd j) fun y => liftO (op x y)
@[simp] def dOp1n (op : D → Option D) (i : Nat) : Den D := bindD (dRd i) fun x => liftO (op x)
@[simp] def dN1n (op : D → Option (List D)) (i : Nat) : Den (List D) := bindD (dRd i) fun x => liftO (op x)
@[simp] def dN1 (op : D → Option (List D)) (a : Den D) : Den (List D) := bindD a fun x => liftO (op x)
@[simp] def dN2 (op : D → D → Option (List D)) (a b : Den D) : Den (List D) := bindD a fun x => bindD b fun y => liftO (op x y)
@[simp] def dFrz (a : Den (List D)) : Den D := bindD a fun ds => retD (.lst ds)
@[simp] def dNil : Den (List D) := retD []
@[simp] def dCons (a : Den D) (r : Den (List D)) : Den (List D) := bindD a fun x => bindD r fun xs => retD (x :: xs)
@[simp] def dTup (a : Den (List D)) : Den D := bindD a fun ds => liftO (if ds.length ≤ big then some (.tup ds) else none)
@[simp] def dLst (a : Den (List D)) : Den (List D) := bindD a fun ds => liftO (if ds.length ≤ big then some ds else none)
@[simp] def asB : D → Option Bool
  | .bl b => some b
  | _ => none
@[simp] def dTst (a : Den D) : Den Bool := bindD a fun x => liftO (asB x)
@[simp] def dVal (a : Den Bool) : Den D := bindD a fun b => retD (.bl b)
@[simp] def dAnd (a b : Den Bool) : Den Bool := bindD a fun x => if x then b else retD false
@[simp] def dOr (a b : Den Bool) : Den Bool := bindD a fun x => if x then retD true else b
@[simp] def dNot (a : Den Bool) : Den Bool := bindD a fun x => retD (!x)
@[simp] def dIf {α : Type} (t : Den Bool) (a b : Den α) : Den α := bindD t fun x => if x then a else b
@[simp] def dChain (op op' : D → D → Option D) (a b c : Den D) : Den D := bindD a fun x => bindD b fun y => bindD (liftO (op x y)) fun z => bindD (liftO (asB z)) fun k => if k then bindD c fun w => liftO (op' y w) else retD (.bl false)
section
variable {X : Cx} {g : G} {W : WX} {e a b c : Expr} {f h k : Den D} {t u : Den Bool} {P : Par} {σ : L2.St} {H F : Hp} {st : DSt}
theorem SRc.nth (s : SR g P σ H F st) {i : Nat} {sl : Slot} (h : st[i]? = some sl) : ∃ ov, σ[i]? = some ov := by
  have := s.len
  have hi : i < st.length := by
    rcases Nat.lt_or_ge i st.length with q | q
    · exact q
    · rw [List.getElem?_eq_none q] at h; cases h
  exact ⟨σ[i], by simp [this, hi]⟩
/-- an owned list becomes data -/
theorem SR.freeze {i : Nat} {ds : List D} (s : SR g P σ H F st) (h : st[i]? = some (.ow ds)) : ∃ a F', σ[i]? = some (some (.ref a)) ∧ Same F F' ∧ Rv g F' (.ref a) (.lst ds) ∧ SR g P σ H F' (st.set i (.sh (.lst ds))) := by
  obtain ⟨ov, hov⟩ := SRc.nth s h
  obtain ⟨O, c⟩ := s
  obtain ⟨a, vs, rfl, ho, hn, ha, r⟩ := c.sl i _ _ h hov
  have fa := (c.oo a i ho).1
  have sf : Same F (upd F a (.lst vs)) := fun b o e => by
    rw [upd_ne (fun z => by subst z; rw [fa] at e; cases e)]; exact e
  have rv : Rv g (upd F a (.lst vs)) (.ref a) (.lst ds) := .lst upd_same (r.mono sf)
  refine ⟨a, upd F a (.lst vs), hov, sf, rv, fun b => if b = a then none else O b, ?_⟩
  refine ⟨fun b o e => ?_, c.rr, fun b j e => ?_, fun b n => ?_, by rw [List.length_set]; exact c.len, fun j s ov e1 e2 => ?_⟩
  · by_cases hb : b = a
    · subst hb; rw [upd_same] at e; cases e; exact ha
    · rw [upd_ne hb] at e; exact c.le _ _ e
  · by_cases hb : b = a
    · subst hb; simp at e
    · simp only [if_neg hb] at e
      rw [upd_ne hb]; exact c.oo b j e
  · have hb : b ≠ a := fun z => hn (z ▸ n)
    rw [upd_ne hb]; exact c.no b n
  · by_cases hj : j = i
    · subst hj
      have hlt : j < st.length := by
        rcases Nat.lt_or_ge j st.length with q | q
        · exact q
        · rw [List.getElem?_eq_none q] at h; cases h
      rw [List.getElem?_set_self hlt] at e1
      cases e1
      rw [hov] at e2; cases e2
      exact ⟨_, rfl, rv⟩
    · rw [List.getElem?_set_ne (Ne.symm hj)] at e1
      exact (c.sl j s ov e1 e2).move rfl (fun b o => by
        have hb : b ≠ a := fun z => hj (by rw [z, ho] at o; exact (Option.some.inj o).symm)
        simp only [if_neg hb]; exact o) sf (fun _ _ _ h => h) fun _ _ h => h
theorem Rl.of_get {F : Hp} : ∀ {vs : List V} {ds : List D}, vs.length = ds.length → (∀ (j : Nat) (v : V) (d : D), vs[j]? = some v → ds[j]? = some d → Rv g F v d) → Rl g F vs ds
  | [], [], _, _ => .nil
  | [], _ :: _, h, _ => nomatch h
  | _ :: _, [], h, _ => nomatch h
  | v :: vs, d :: ds, h, k => .cons (k 0 v d rfl rfl) (Rl.of_get (by simpa using h) fun j v d e1 e2 => k (j + 1) v d (by simpa using e1) (by simpa using e2))
theorem lt_of_get {α : Type} {l : List α} {i : Nat} {x : α} (h : l[i]? = some x) : i < l.length := (List.getElem?_eq_some_iff.mp h).1
/-- a list of lists becomes data -/
theorem SR.freeze2 {i : Nat} {dss : List (List D)} (s : SR g P σ H F st) (h : st[i]? = some (.o2 dss)) : ∃ a F', σ[i]? = some (some (.ref a)) ∧ Same F F' ∧ Rv g F' (.ref a) (.lst (dss.map .lst)) ∧ SR g P σ H F' (st.set i (.sh (.lst (dss.map .lst)))) := by
  obtain ⟨ov, hov⟩ := SRc.nth s h
  obtain ⟨O, c⟩ := s
  obtain ⟨a, bs, rfl, ho, hn, ha, nd, na, hl, hr⟩ := c.sl i _ _ h hov
  have own : ∀ x, (x = a ∨ x ∈ bs) → O x = some i ∧ ¬ P.N x := fun x hx => by
    rcases hx with rfl | hx
    · exact ⟨ho, hn⟩
    · obtain ⟨j, hj, e⟩ := List.getElem_of_mem hx
      have e1 : bs[j]? = some x := by rw [List.getElem?_eq_getElem hj, e]
      obtain ⟨o, n, _⟩ := hr j x _ e1 (List.getElem?_eq_getElem (by rw [← hl]; exact hj))
      exact ⟨o, n⟩
  let F' : Hp := fun x => if x = a ∨ x ∈ bs then H x else F x
  have fin : ∀ x, (x = a ∨ x ∈ bs) → F' x = H x := fun x hx => if_pos hx
  have fout : ∀ x, ¬ (x = a ∨ x ∈ bs) → F' x = F x := fun x hx => if_neg hx
  have sf : Same F F' := fun x o e => by
    rw [fout x fun hx => by rw [(c.oo x i (own x hx).1).1] at e; cases e]; exact e
  have rv : Rv g F' (.ref a) (.lst (dss.map .lst)) := by
    refine .lst (vs := bs.map V.ref) (by rw [fin a (.inl rfl)]; exact ha) (Rl.of_get (by simp [hl]) fun j v d e1 e2 => ?_)
    rw [List.getElem?_map] at e1 e2
    cases hb : bs[j]? with
    | none => rw [hb] at e1; cases e1
    | some b =>
      cases hd : dss[j]? with
      | none => rw [hd] at e2; cases e2
      | some ds =>
        rw [hb] at e1; rw [hd] at e2
        cases e1; cases e2
        obtain ⟨_, _, vs, h1, r1⟩ := hr j b ds hb hd
        exact .lst (by rw [fin b (.inr (List.mem_of_getElem? hb))]; exact h1) (r1.mono sf)
  refine ⟨a, F', hov, sf, rv, fun x => if x = a ∨ x ∈ bs then none else O x, ?_⟩
  refine ⟨fun x o e => ?_, c.rr, fun x j e => ?_, fun x n => ?_, by rw [List.length_set]; exact c.len, fun j s ov e1 e2 => ?_⟩
  · by_cases hx : x = a ∨ x ∈ bs
    · rw [fin x hx] at e; exact e
    · rw [fout x hx] at e; exact c.le x o e
  · by_cases hx : x = a ∨ x ∈ bs
    · simp [hx] at e
    · simp only [if_neg hx] at e
      rw [fout x hx]; exact c.oo x j e
  · have hx : ¬ (x = a ∨ x ∈ bs) := fun hx => (own x hx).2 n
    rw [fout x hx]; exact c.no x n
  · by_cases hj : j = i
    · subst hj
      rw [List.getElem?_set_self (lt_of_get h)] at e1
      cases e1
      rw [hov] at e2; cases e2
      exact ⟨_, rfl, rv⟩
    · rw [List.getElem?_set_ne (Ne.symm hj)] at e1
      exact (c.sl j s ov e1 e2).move rfl (fun x o => by
        have hx : ¬ (x = a ∨ x ∈ bs) := fun hx => hj (by rw [(own x hx).1] at o; exact (Option.some.inj o).symm)
        simp only [if_neg hx]; exact o) sf (fun _ _ _ h => h) fun _ _ h => h
theorem ev_var {i : Nat} (he : PE X e (tVar i)) : PE X e (tE g W (dVar i)) := he.imp fun σ H Q ⟨P, F, st, s, o⟩ => by
  unfold dVar at o
  split at o
  · rename_i d hd
    obtain ⟨ov, hov⟩ := SRc.nth s hd
    obtain ⟨O, c⟩ := id s
    obtain ⟨v, rfl, r⟩ := c.sl i _ _ hd hov
    exact ⟨v, hov, o H F (Same.refl _) s v r⟩
  · rename_i ds hd
    obtain ⟨a, F', h1, sf, r, s'⟩ := s.freeze hd
    exact ⟨_, h1, o H F' sf s' _ r⟩
  · rename_i dss hd
    obtain ⟨a, F', h1, sf, r, s'⟩ := s.freeze2 hd
    exact ⟨_, h1, o H F' sf s' _ r⟩
  · exact o.elim
theorem rd_at {i : Nat} {d : D} {st' : DSt} (s : SR g P σ H F st) (h : dRd i st = .ok d st') : st' = st ∧ ∃ v, σ[i]? = some (some v) ∧ Br g F H v d := by
  unfold dRd at h
  split at h
  · rename_i d hd
    cases h
    obtain ⟨ov, hov⟩ := SRc.nth s hd
    obtain ⟨O, c⟩ := id s
    obtain ⟨v, rfl, r⟩ := c.sl i _ _ hd hov
    exact ⟨rfl, v, hov, .inl r⟩
  · rename_i ds hd
    cases h
    obtain ⟨ov, hov⟩ := SRc.nth s hd
    obtain ⟨O, c⟩ := id s
    obtain ⟨a, vs, rfl, ho, hn, ha, r⟩ := c.sl i _ _ hd hov
    exact ⟨rfl, _, hov, .inr ⟨a, vs, ds, rfl, rfl, ha, r⟩⟩
  · rename_i ds hd
    cases h
    obtain ⟨ov, hov⟩ := SRc.nth s hd
    obtain ⟨O, c⟩ := id s
    obtain ⟨a, vs, rfl, ho, hn, ha, r⟩ := c.sl i _ _ hd hov
    exact ⟨rfl, _, hov, .inr ⟨a, vs, ds, rfl, rfl, ha, r⟩⟩
  · cases h
theorem rd_no {i : Nat} {c : Str} {fs : List (Str × D)} {st st' : DSt} : dRd i st ≠ .exn c fs st' := by
  unfold dRd
  split <;> exact fun h => by cases h
theorem ev_c {v : V} {d : D} (he : PE X e (tC v)) (r : ∀ F, Rv g F v d) : PE X e (tE g W (dC d)) := he.imp fun σ H Q ⟨P, F, st, s, o⟩ => o H F (Same.refl _) s v (r F)
theorem ev_int {i : Int} (he : PE X e (tC (.int i))) : PE X e (tE g W (dC (.int i))) := ev_c he fun _ => .int i
theorem ev_bl {i : Bool} (he : PE X e (tC (.bl i))) : PE X e (tE g W (dC (.bl i))) := ev_c he fun _ => .bl i
theorem ev_non (he : PE X e (tC .non)) : PE X e (tE g W (dC .non)) := ev_c he fun _ => .non
theorem ev_str {i : Str} (he : PE X e (tC (.str i))) : PE X e (tE g W (dC (.str i))) := ev_c he fun _ => .str i
/-- the end of an operation on values -/
theorem fin1 {r : V → Hp → VK → Prop} {op : D → Option D} (vo : VO1 g r op) {v : V} {x : D} {Q : VK} (s : SR g P σ H F st) (rx : Br g F H v x) (o : Out g W P σ F (liftO (op x) st) fun d _ H' F' => ∀ v, Rv g F' v d → Q v H') : r v H Q := by
  obtain ⟨z, ez, q⟩ := o.lift
  exact vo H F v x z s.le rx ez Q fun v' H' F' gr rv => q H' F' gr.f (s.grow gr) v' rv
theorem fin2 {r : R2} {op : D → D → Option D} (vo : VO2 g r op) {v u : V} {x y : D} {Q : VK} (s : SR g P σ H F st) (rx : Br g F H v x) (ry : Br g F H u y) (o : Out g W P σ F (liftO (op x y) st) fun d _ H' F' => ∀ v, Rv g F' v d → Q v H') : r v u H Q := by
  obtain ⟨z, ez, q⟩ := o.lift
  exact vo H F v u x y z s.le rx ry ez Q fun v' H' F' gr rv => q H' F' gr.f (s.grow gr) v' rv
theorem ev2 {r : R2} {op : D → D → Option D} (vo : VO2 g r op) (he : PE X e (tOp r (tE g W f) (tE g W h))) : PE X e (tE g W (dOp2 op f h)) := he.imp fun σ H Q ⟨P, F, st, s, o⟩ =>
  ⟨P, F, st, s, o.bind.imp fun x st1 H1 F1 le1 s1 o1 v rx => ⟨P, F1, st1, s1, o1.bind.imp fun y st2 H2 F2 le2 s2 o2 u ry => fin2 vo s2 (.inl (rx.mono le2)) (.inl ry) o2⟩⟩
/-- a name's content, read -/
theorem Out.rd {i : Nat} {α : Type} {kk : D → Den α} {K : α → DSt → Hp → Hp → Prop} (s : SR g P σ H F st) (o : Out g W P σ F (bindD (dRd i) kk st) K) :
    ∃ v d, σ[i]? = some (some v) ∧ Br g F H v d ∧ Out g W P σ F (kk d st) K := by
  unfold bindD at o
  cases e : dRd i st with
  | ok d st' =>
    rw [e] at o
    obtain ⟨rfl, v, h1, h2⟩ := rd_at s e
    exact ⟨v, d, h1, h2, o⟩
  | exn c fs st' => exact (rd_no e).elim
  | stuck => rw [e] at o; exact o.elim
theorem ev2n {r : R2} {i : Nat} {op : D → D → Option D} (vo : VO2 g r op) (he : PE X e (tOp r (tVar i) (tE g W h))) : PE X e (tE g W (dOp2n op i h)) := he.imp fun σ H Q ⟨P, F, st, s, o⟩ => by
  obtain ⟨v, d, hv, _, o1⟩ := o.rd s
  refine ⟨v, hv, P, F, st, s, o1.bind.imp fun y st2 H2 F2 le2 s2 o2 u ry => ?_⟩
  obtain ⟨v', d', hv', rx, o3⟩ := o2.rd s2
  rw [hv] at hv'; cases hv'
  exact fin2 vo s2 rx (.inl ry) o3
theorem ev1 {r : V → Hp → VK → Prop} {op : D → Option D} (vo : VO1 g r op) (he : PE X e (tUn r (tE g W f))) : PE X e (tE g W (dOp1 op f)) := he.imp fun σ H Q ⟨P, F, st, s, o⟩ =>
  ⟨P, F, st, s, o.bind.imp fun x st1 H1 F1 le1 s1 o1 v rx => fin1 vo s1 (.inl rx) o1⟩
theorem evc1 {r : List V → Hp → VK → Prop} {op : D → Option D} (vo : VOC g r op) (he : PE X e (tCB r (tCons (tE g W f) tNil))) : PE X e (tE g W (dOp1 op f)) := he.imp fun σ H Q ⟨P, F, st, s, o⟩ =>
  ⟨P, F, st, s, o.bind.imp fun x st1 H1 F1 le1 s1 o1 v rx => fin1 vo s1 (.inl rx) o1⟩
theorem evc1n {r : List V → Hp → VK → Prop} {i : Nat} {op : D → Option D} (vo : VOC g r op) (he : PE X e (tCB r (tCons (tVar i) tNil))) : PE X e (tE g W (dOp1n op i)) := he.imp fun σ H Q ⟨P, F, st, s, o⟩ => by
  obtain ⟨v, d, hv, rx, o1⟩ := o.rd s
  exact ⟨v, hv, fin1 vo s rx o1⟩
theorem evc2 {r : List V → Hp → VK → Prop} {op : D → D → Option D} (vo : VOC2 g r op) (he : PE X e (tCB r (tCons (tE g W f) (tCons (tE g W h) tNil)))) : PE X e (tE g W (dOp2 op f h)) := he.imp fun σ H Q ⟨P, F, st, s, o⟩ =>
  ⟨P, F, st, s, o.bind.imp fun x st1 H1 F1 le1 s1 o1 v rx => ⟨P, F1, st1, s1, o1.bind.imp fun y st2 H2 F2 le2 s2 o2 u ry => fin2 vo s2 (.inl (rx.mono le2)) (.inl ry) o2⟩⟩
theorem SR.newx {p : Addr} {o : HO} (s : SR g P σ H F st) (h : H p = none) : SRx g P σ (upd H p o) F st p := by
  obtain ⟨O, c⟩ := s
  have f0 : F p = none := by
    cases e : F p with
    | none => rfl
    | some u => rw [c.le _ _ e] at h; cases h
  have r0 : P.R p = none := by
    cases e : P.R p with
    | none => rfl
    | some u => rw [c.rr _ _ e] at h; cases h
  refine ⟨O, c.grow (Grow.new0 c.le h), ?_, f0, r0, fun n => (c.no p n).2.1 h⟩
  cases e : O p with
  | none => rfl
  | some i => exact absurd h (c.oo p i e).2.2.1
theorem SRx.sr {p : Addr} (s : SRx g P σ H F st p) : SR g P σ H F st := let ⟨O, c, _⟩ := s; ⟨O, c⟩
theorem SRx.frz {p : Addr} {vs : List V} (s : SRx g P σ H F st p) (h : H p = some (.lst vs)) : Same F (upd F p (.lst vs)) ∧ SR g P σ H (upd F p (.lst vs)) st := by
  obtain ⟨O, c, o0, f0, r0, n0⟩ := s
  have sf : Same F (upd F p (.lst vs)) := fun b o e => by
    rw [upd_ne (fun z => by subst z; rw [f0] at e; cases e)]; exact e
  refine ⟨sf, O, fun b o e => ?_, c.rr, fun b j e => ?_, fun b n => ?_, c.len, fun j s ov e1 e2 => ?_⟩
  · by_cases hb : b = p
    · subst hb; rw [upd_same] at e; cases e; exact h
    · rw [upd_ne hb] at e; exact c.le _ _ e
  · have hb : b ≠ p := fun z => by rw [z, o0] at e; cases e
    rw [upd_ne hb]; exact c.oo b j e
  · have hb : b ≠ p := fun z => n0 (z ▸ n)
    rw [upd_ne hb]; exact c.no b n
  · exact (c.sl j s ov e1 e2).move rfl (fun _ h => h) sf (fun _ _ _ h => h) fun _ _ h => h
theorem finN {r : V → Hp → VK → Prop} {op : D → Option (List D)} (vo : VN1 g r op) {v : V} {x : D} {Q : VK} (s : SR g P σ H F st) (rx : Br g F H v x) (o : OutN g W P σ F (liftO (op x) st) Q) : r v H Q := by
  cases ez : op x with
  | none => rw [ez] at o; exact o.elim
  | some zs =>
    rw [ez] at o
    exact vo H F v x zs s.le rx ez Q fun p vs hp rv => o _ F p vs (Same.refl _) (s.newx hp) upd_same rv
theorem finN2 {r : R2} {op : D → D → Option (List D)} (vo : VN2 g r op) {v u : V} {x y : D} {Q : VK} (s : SR g P σ H F st) (rx : Br g F H v x) (ry : Br g F H u y) (o : OutN g W P σ F (liftO (op x y) st) Q) : r v u H Q := by
  cases ez : op x y with
  | none => rw [ez] at o; exact o.elim
  | some zs =>
    rw [ez] at o
    exact vo H F v u x y zs s.le rx ry ez Q fun p vs hp rv => o _ F p vs (Same.refl _) (s.newx hp) upd_same rv
theorem OutN.weak {r : Res (List D)} {Q : VK} {F' : Hp} (e : Same F F') (h : OutN g W P σ F r Q) : OutN g W P σ F' r Q := by
  cases r with
  | ok a st' => exact fun H' F2 p vs e2 s => h H' F2 p vs (e.trans e2) s
  | exn c fs st' => exact fun cls dd H' F2 e2 s => h cls dd H' F2 (e.trans e2) s
  | stuck => exact h
theorem OutN.bind {α : Type} {a : Den α} {ff : α → Den (List D)} {Q : VK} (h : OutN g W P σ F (bindD a ff st) Q) : Out g W P σ F (a st) (fun x st1 _ F1 => OutN g W P σ F1 (ff x st1) Q) := by
  unfold bindD at h
  revert h
  cases a st with
  | ok x st' => exact fun h H' F' e s => OutN.weak e h
  | exn c fs st' => exact fun h => h
  | stuck => exact fun h => h
theorem OutN.rd {i : Nat} {kk : D → Den (List D)} {Q : VK} (s : SR g P σ H F st) (o : OutN g W P σ F (bindD (dRd i) kk st) Q) :
    ∃ v d, σ[i]? = some (some v) ∧ Br g F H v d ∧ OutN g W P σ F (kk d st) Q := by
  unfold bindD at o
  cases e : dRd i st with
  | ok d st' =>
    rw [e] at o
    obtain ⟨rfl, v, h1, h2⟩ := rd_at s e
    exact ⟨v, d, h1, h2, o⟩
  | exn c fs st' => exact (rd_no e).elim
  | stuck => rw [e] at o; exact o.elim
theorem evN1n {r : List V → Hp → VK → Prop} {i : Nat} {op : D → Option (List D)} (vo : VN1 g (fun v => r [v]) op) (he : PE X e (tCB r (tCons (tVar i) tNil))) : PE X e (tN g W (dN1n op i)) := he.imp fun σ H Q ⟨P, F, st, s, o⟩ => by
  obtain ⟨v, d, hv, rx, o1⟩ := o.rd s
  exact ⟨v, hv, finN vo s rx o1⟩
theorem evN2 {r : R2} {op : D → D → Option (List D)} (vo : VN2 g r op) (he : PE X e (tOp r (tE g W f) (tE g W h))) : PE X e (tN g W (dN2 op f h)) := he.imp fun σ H Q ⟨P, F, st, s, o⟩ =>
  ⟨P, F, st, s, o.bind.imp fun x st1 H1 F1 le1 s1 o1 v rx => ⟨P, F1, st1, s1, o1.bind.imp fun y st2 H2 F2 le2 s2 o2 u ry => finN2 vo s2 (.inl (rx.mono le2)) (.inl ry) o2⟩⟩
theorem ev_frz {fn : Den (List D)} (he : PE X e (tN g W fn)) : PE X e (tE g W (dFrz fn)) := he.imp fun σ H Q ⟨P, F, st, s, o⟩ => by
  refine ⟨P, F, st, s, ?_⟩
  unfold dFrz bindD at o
  revert o
  cases fn st with
  | ok ds st' => exact fun o H' F' p vs le sx hp r => o H' (upd F' p (.lst vs)) (le.trans (sx.frz hp).1) (sx.frz hp).2 _ (.lst upd_same (r.mono (sx.frz hp).1))
  | exn c fs st' => exact fun o => o
  | stuck => exact fun o => o
theorem ea_nil (ha : PA X [] tNil) : PA X [] (tA g W dNil) := ha.imp fun σ H Q ⟨P, F, st, s, o⟩ => o H F (Same.refl _) s [] .nil
theorem ea_nil' : PA X [] (tA g W dNil) := ea_nil pa_nil
theorem ea_cons {es : List Expr} {fr : Den (List D)} (he : PE X e (tE g W f)) (hr : PA X es (tA g W fr)) (hs : starEach (e :: es) X.env = (false, eval e X.env) :: starEach es X.env := by rfl) : PA X (e :: es) (tA g W (dCons f fr)) :=
  (pa_cons he hr hs).imp fun σ H Q ⟨P, F, st, s, o⟩ => ⟨P, F, st, s, o.bind.imp fun x st1 H1 F1 le1 s1 o1 v rx => ⟨P, F1, st1, s1, o1.bind.imp fun xs st2 H2 F2 le2 s2 o2 vs rxs => o2 H2 F2 (Same.refl _) s2 _ (.cons (rx.mono le2) rxs)⟩⟩
theorem ev_tup {fr : Den (List D)} (he : PE X e (tTupN (tA g W fr))) : PE X e (tE g W (dTup fr)) := he.imp fun σ H Q ⟨P, F, st, s, o⟩ =>
  ⟨P, F, st, s, o.bind.imp fun ds st1 H1 F1 le1 s1 o1 vs rx => by
    obtain ⟨z, ez, q⟩ := o1.lift
    split at ez
    · rename_i hl
      cases ez
      exact ⟨by rw [rx.length, ← big_eq]; exact hl, newT s1.le rx fun v' H' F' gr rv => q _ _ gr.f (s1.grow gr) _ rv⟩
    · cases ez⟩
theorem evN_lst {fr : Den (List D)} (he : PE X e (tLst (tA g W fr))) : PE X e (tN g W (dLst fr)) := he.imp fun σ H Q ⟨P, F, st, s, o⟩ =>
  ⟨P, F, st, s, o.bind.imp fun ds st1 H1 F1 le1 s1 o1 vs rx => by
    unfold liftO at o1
    split at o1
    · rename_i ds' ez
      split at ez
      · rename_i hl
        cases ez
        exact ⟨by rw [rx.length, ← big_eq]; exact hl, fun p hp => o1 _ F1 p vs (Same.refl _) (s1.newx hp) upd_same rx⟩
      · cases ez
    · exact o1.elim⟩
theorem asB_some {d : D} {b : Bool} (h : asB d = some b) : d = .bl b := by
  cases d <;> cases h; rfl
theorem et_tst (he : PT X e (tB (tE g W f))) : PT X e (tT g W (dTst f)) := he.imp fun σ H Q ⟨P, F, st, s, o⟩ =>
  ⟨P, F, st, s, o.bind.imp fun x st1 H1 F1 le1 s1 o1 v rx => by
    obtain ⟨z, ez, q⟩ := o1.lift
    cases asB_some ez
    cases rx
    exact ⟨_, rfl, q H1 F1 (Same.refl _) s1⟩⟩
theorem et_not (he : PT X e (tNot (tT g W t))) : PT X e (tT g W (dNot t)) := he.imp fun σ H Q ⟨P, F, st, s, o⟩ =>
  ⟨P, F, st, s, o.bind.imp fun x st1 H1 F1 le1 s1 o1 => o1 H1 F1 (Same.refl _) s1⟩
theorem et_and (he : PW X e (tAnd (tT g W t) (tT g W u))) : PW X e (tT g W (dAnd t u)) := he.imp fun σ H Q ⟨P, F, st, s, o⟩ =>
  ⟨P, F, st, s, o.bind.imp fun x st1 H1 F1 le1 s1 o1 => by
    cases x with
    | true => exact ⟨P, F1, st1, s1, o1⟩
    | false => exact o1 H1 F1 (Same.refl _) s1⟩
theorem et_or (he : PW X e (tOr (tT g W t) (tT g W u))) : PW X e (tT g W (dOr t u)) := he.imp fun σ H Q ⟨P, F, st, s, o⟩ =>
  ⟨P, F, st, s, o.bind.imp fun x st1 H1 F1 le1 s1 o1 => by
    cases x with
    | true => exact o1 H1 F1 (Same.refl _) s1
    | false => exact ⟨P, F1, st1, s1, o1⟩⟩
/-- and, or, not as values: all parts truth values -/
theorem ev_andV (he : PE X e (tAndV (tE g W f) (tE g W h))) : PE X e (tE g W (dIf (dTst f) h (dC (.bl false)))) := he.imp fun σ H Q ⟨P, F, st, s, o⟩ =>
  ⟨P, F, st, s, o.bind.bind.imp fun x st1 H1 F1 le1 s1 o1 v rx => by
    obtain ⟨z, ez, q⟩ := o1.lift
    cases asB_some ez
    cases rx
    refine ⟨z, rfl, ?_⟩
    cases z with
    | true => exact ⟨P, F1, st1, s1, q H1 F1 (Same.refl _) s1⟩
    | false => exact q H1 F1 (Same.refl _) s1 H1 F1 (Same.refl _) s1 _ (.bl false)⟩
theorem ev_notV (he : PE X e (tNotV (tE g W f))) : PE X e (tE g W (dVal (dNot (dTst f)))) := he.imp fun σ H Q ⟨P, F, st, s, o⟩ =>
  ⟨P, F, st, s, o.bind.bind.bind.imp fun x st1 H1 F1 le1 s1 o1 v rx => by
    obtain ⟨z, ez, q⟩ := o1.lift
    cases asB_some ez
    cases rx
    exact ⟨z, rfl, q H1 F1 (Same.refl _) s1 H1 F1 (Same.refl _) s1 H1 F1 (Same.refl _) s1 _ (.bl _)⟩⟩
theorem chain_imp {r r' : R2} {op op' : D → D → Option D} (vo : VO2 g r op) (vo' : VO2 g r' op') {Q : VK} {σ : L2.St} {H : Hp} (q : tE g W (dChain op op' f h k) σ H Q) : tChain r r' (tE g W f) (tE g W h) (tE g W k) σ H Q := by
  obtain ⟨P, F, st, s, o⟩ := q
  refine ⟨P, F, st, s, o.bind.imp fun x st1 H1 F1 le1 s1 o1 v rx => ⟨P, F1, st1, s1, o1.bind.imp fun y st2 H2 F2 le2 s2 o2 u ry => ?_⟩⟩
  obtain ⟨z, ez, q2⟩ := Out.lift o2.bind
  refine vo H2 F2 v u x y z s2.le (.inl (rx.mono le2)) (.inl ry) ez _ fun v' H' F' gr rv => ?_
  have q3 := q2 H' F' gr.f (s2.grow gr)
  obtain ⟨kb, ek, q4⟩ := Out.lift q3.bind
  cases asB_some ek
  cases rv
  refine ⟨kb, rfl, ?_⟩
  have q5 := q4 H' F' (Same.refl _) (s2.grow gr)
  cases kb with
  | true => exact ⟨P, F', st2, s2.grow gr, q5.bind.imp fun w st3 H3 F3 le3 s3 o3 vw rw' => fin2 vo' s3 (.inl ((ry.mono gr.f).mono le3)) (.inl rw') o3⟩
  | false => exact q5 H' F' (Same.refl _) (s2.grow gr) _ (.bl false)
theorem ev_chain {r r' : R2} {op op' : D → D → Option D} (vo : VO2 g r op) (vo' : VO2 g r' op') (he : PE X e (tChain r r' (tE g W f) (tE g W h) (tE g W k))) : PE X e (tE g W (dChain op op' f h k)) := he.imp fun _ _ _ q => chain_imp vo vo' q
/-- a comparison as a test -/
theorem et2 {r : R2} {op : D → D → Option D} (vo : VO2 g r op) (he : PT X e (tTest (tOp r (tE g W f) (tE g W h)))) : PT X e (tT g W (dTst (dOp2 op f h))) := et_tst (he.imp fun σ H Q ⟨P, F, st, s, o⟩ =>
  ⟨P, F, st, s, o.bind.imp fun x st1 H1 F1 le1 s1 o1 v rx => ⟨P, F1, st1, s1, o1.bind.imp fun y st2 H2 F2 le2 s2 o2 u ry => fin2 vo s2 (.inl (rx.mono le2)) (.inl ry) o2⟩⟩)
theorem et2m {r : R2} {j : Nat} {op : D → D → Option D} (vo : VO2 g r op) (he : PT X e (tTest (tOp r (tE g W f) (tVar j)))) : PT X e (tT g W (dTst (dOp2m op f j))) := et_tst (he.imp fun σ H Q ⟨P, F, st, s, o⟩ =>
  ⟨P, F, st, s, o.bind.imp fun x st1 H1 F1 le1 s1 o1 v rx => by
    obtain ⟨v', d', hv', ry, o3⟩ := o1.rd s1
    exact ⟨v', hv', fin2 vo s1 (.inl rx) ry o3⟩⟩)
end
end DL
namespace DL
open PySem PySem.Spec PyProof.Rows L2
inductive Fl where
  | nx | ret (d : D) | brk | cnt
abbrev DS := Den Fl
def OutS (g : G) (W : WX) (P : Par) (F : Hp) (r : Res Fl) (E : Ends) : Prop := match r with
  | .ok fl st' => ∀ σ' H' F', Same F F' → SR g P σ' H' F' st' → match fl with
    | .nx => E.nx σ' H'
    | .brk => E.bk σ' H'
    | .cnt => E.ct σ' H'
    | .ret d => ∀ v, Rv g F' v d → E.rt v H'
  | .exn c fs st' => ∀ cls dd σ' H' F', Same F F' → SR g P σ' H' F' st' → RepX g F' H' c fs cls dd → W cls dd σ' H'
  | .stuck => False
def tS (g : G) (W : WX) (f : DS) : TS := fun D σ H => ∃ P F st, SR g P σ H F st ∧ OutS g W P F (f st) D
@[simp] def slotSet (i : Nat) (s : Slot) (st : DSt) : Option DSt := match st[i]? with
  | some _ => some (st.set i s)
  | none => none
@[simp] def sExpr (f : Den D) : DS := bindD f fun _ => retD .nx
@[simp] def sRet (f : Den D) : DS := bindD f fun d => retD (.ret d)
@[simp] def sRetN : DS := retD (.ret .non)
@[simp] def sPass : DS := retD .nx
@[simp] def sBrk : DS := retD .brk
@[simp] def sCnt : DS := retD .cnt
@[simp] def putD (i : Nat) (s : Slot) : DS := fun st => match slotSet i s st with
  | some st' => .ok .nx st'
  | none => .stuck
@[simp] def sSet (i : Nat) (f : Den D) : DS := bindD f fun d => putD i (.sh d)
@[simp] def sOwn (i : Nat) (f : Den (List D)) : DS := bindD f fun ds => putD i (.ow ds)
@[simp] def sIf (t : Den Bool) (a b : DS) : DS := bindD t fun x => if x then a else b
@[simp] def sSeq (a b : DS) : DS := fun st => match a st with
  | .ok .nx st' => b st'
  | r => r
/-- targets: one name, some names -/
inductive Tg where
  | nm (i : Nat) | nms (is : List Nat)
def Tg.is : Tg → List Nat
  | .nm i => [i]
  | .nms is => is
@[simp] def setAll : List Nat → List D → DSt → Option DSt
  | [], [], st => some st
  | i :: is, d :: ds, st => match slotSet i (.sh d) st with
    | some st' => setAll is ds st'
    | none => none
  | _, _, _ => none
@[simp] def setT (t : Tg) (d : D) (st : DSt) : Option DSt := match t with
  | .nm i => slotSet i (.sh d) st
  | .nms is => match d with
    | .tup ds => setAll is ds st
    | _ => none
def setσ : List Nat → List V → L2.St → L2.St
  | i :: is, x :: xs, σ => setσ is xs (σ.set i (some x))
  | _, _, σ => σ
def tG (g : G) (t : Tg) : TG := fun v σ H Q => ∃ P F st d, SR g P σ H F st ∧ Rv g F v d ∧ ∃ st', setT t d st = some st' ∧ ∀ xs, SR g P (setσ t.is xs σ) H F st' → Q (setσ t.is xs σ) H
def loop (t : Tg) (body : DS) : List D → DS
  | [] => retD .nx
  | d :: ds => fun st => match setT t d st with
    | none => .stuck
    | some st1 => match body st1 with
      | .ok .nx st2 => loop t body ds st2
      | .ok .cnt st2 => loop t body ds st2
      | .ok .brk st2 => .ok .nx st2
      | r => r
@[simp] def sFor (t : Tg) (fi : Den (List D)) (body : DS) : DS := bindD fi fun ds => loop t body ds
section
variable {X : Cx} {g : G} {W : WX} {P : Par} {σ : L2.St} {H F : Hp} {st : DSt} {e : Expr} {s : Stmt} {ss : List Stmt} {f : Den D} {t : Den Bool} {a b : DS}
theorem OutS.weak {r : Res Fl} {E : Ends} {F' : Hp} (e : Same F F') (h : OutS g W P F r E) : OutS g W P F' r E := by
  cases r with
  | ok a st' => exact fun σ' H' F2 e2 s => h σ' H' F2 (e.trans e2) s
  | exn c fs st' => exact fun cls dd σ' H' F2 e2 s => h cls dd σ' H' F2 (e.trans e2) s
  | stuck => exact h
theorem OutS.bind {α : Type} {a : Den α} {k : α → DS} {E : Ends} (h : OutS g W P F (bindD a k st) E) : Out g W P σ F (a st) (fun x st1 _ F1 => OutS g W P F1 (k x st1) E) := by
  unfold bindD at h
  revert h
  cases a st with
  | ok x st' => exact fun h H' F' e s => OutS.weak e h
  | exn c fs st' => exact fun h cls dd H' F' e s => h cls dd σ H' F' e s
  | stuck => exact fun h => h
/-- a slot is stored -/
theorem slotSet_some {i : Nat} {sl : Slot} {st' : DSt} (h : slotSet i sl st = some st') : i < st.length ∧ st' = st.set i sl := by
  unfold slotSet at h
  split at h
  · rename_i x hx
    cases h
    refine ⟨?_, rfl⟩
    rcases Nat.lt_or_ge i st.length with q | q
    · exact q
    · rw [List.getElem?_eq_none q] at hx; cases hx
  · cases h
theorem SR.put {i : Nat} {v : V} {d : D} (s : SR g P σ H F st) (r : Rv g F v d) (hi : i < st.length) : SR g P (σ.set i (some v)) H F (st.set i (.sh d)) := by
  obtain ⟨O, c⟩ := s
  refine ⟨fun b => if O b = some i then none else O b, c.le, c.rr, fun b j e => ?_, c.no, by rw [List.length_set, List.length_set]; exact c.len, fun j s ov e1 e2 => ?_⟩
  · by_cases hb : O b = some i
    · simp [hb] at e
    · simp only [if_neg hb] at e; exact c.oo b j e
  · by_cases hj : j = i
    · subst hj
      rw [List.getElem?_set_self hi] at e1
      rw [List.getElem?_set_self (by rw [c.len]; exact hi)] at e2
      cases e1; cases e2
      exact ⟨v, rfl, r⟩
    · rw [List.getElem?_set_ne (Ne.symm hj)] at e1 e2
      exact (c.sl j s ov e1 e2).move rfl (fun b o => by
        show (if O b = some i then none else O b) = some j
        rw [if_neg (by rw [o]; intro z; exact hj (Option.some.inj z))]; exact o) (Same.refl _) (fun _ _ _ h => h) fun _ _ h => h
theorem SRx.own {p : Addr} {i : Nat} {vs : List V} {ds : List D} (s : SRx g P σ H F st p) (h : H p = some (.lst vs)) (r : Rl g F vs ds) (hi : i < st.length) : SR g P (σ.set i (some (.ref p))) H F (st.set i (.ow ds)) := by
  obtain ⟨O, c, o0, f0, r0, n0⟩ := s
  refine ⟨fun b => if b = p then some i else if O b = some i then none else O b, c.le, c.rr, fun b j e => ?_, c.no, by rw [List.length_set, List.length_set]; exact c.len, fun j s ov e1 e2 => ?_⟩
  · by_cases hp : b = p
    · subst hp; exact ⟨f0, r0, NT.of h⟩
    · simp only [if_neg hp] at e
      by_cases hb : O b = some i
      · simp [hb] at e
      · simp only [if_neg hb] at e; exact c.oo b j e
  · by_cases hj : j = i
    · subst hj
      rw [List.getElem?_set_self hi] at e1
      rw [List.getElem?_set_self (by rw [c.len]; exact hi)] at e2
      cases e1; cases e2
      exact ⟨p, vs, rfl, by simp, n0, h, r⟩
    · rw [List.getElem?_set_ne (Ne.symm hj)] at e1 e2
      exact (c.sl j s ov e1 e2).move rfl (fun b o => by
        have hp : b ≠ p := fun z => by rw [z, o0] at o; cases o
        simp only [if_neg hp]
        rw [if_neg (by rw [o]; intro z; exact hj (Option.some.inj z))]; exact o) (Same.refl _) (fun _ _ _ h => h) fun _ _ h => h
theorem es_expr (he : PS X s (tDrop (tE g W f))) : PS X s (tS g W (sExpr f)) := he.imp fun D σ H ⟨P, F, st, s, o⟩ =>
  ⟨P, F, st, s, o.bind.imp fun x st1 H1 F1 le1 s1 o1 v rx => o1 σ H1 F1 (Same.refl _) s1⟩
theorem es_ret (he : PS X s (tRet (tE g W f))) : PS X s (tS g W (sRet f)) := he.imp fun D σ H ⟨P, F, st, s, o⟩ =>
  ⟨P, F, st, s, o.bind.imp fun x st1 H1 F1 le1 s1 o1 v rx => o1 σ H1 F1 (Same.refl _) s1 v rx⟩
theorem es_set {i : Nat} (he : PS X s (tAsg (tE g W f) (gName i))) : PS X s (tS g W (sSet i f)) := he.imp fun D σ H ⟨P, F, st, s, o⟩ =>
  ⟨P, F, st, s, o.bind.imp fun x st1 H1 F1 le1 s1 o1 v rx => by
    unfold putD at o1
    split at o1
    · rename_i st' h
      obtain ⟨hi, rfl⟩ := slotSet_some h
      exact o1 _ H1 F1 (Same.refl _) (s1.put rx hi)
    · exact o1.elim⟩
theorem es_own {i : Nat} {fn : Den (List D)} (he : PS X s (tAsg (tN g W fn) (gName i))) : PS X s (tS g W (sOwn i fn)) := he.imp fun D σ H ⟨P, F, st, s, o⟩ => by
  refine ⟨P, F, st, s, ?_⟩
  unfold sOwn bindD at o
  revert o
  cases fn st with
  | ok ds st' =>
    intro o H' F' p vs le sx hp r
    have o : OutS g W P F (putD i (.ow ds) st') D := o
    unfold putD at o
    split at o
    · rename_i st2 h
      obtain ⟨hi, rfl⟩ := slotSet_some h
      exact o _ H' F' le (sx.own hp r hi)
    · exact o.elim
  | exn c fs st' => exact fun o cls dd H' F' e s => o cls dd σ H' F' e s
  | stuck => exact fun o => o
theorem es_if (he : PS X s (tIfS (tT g W t) (tS g W a) (tS g W b))) : PS X s (tS g W (sIf t a b)) := he.imp fun D σ H ⟨P, F, st, s, o⟩ =>
  ⟨P, F, st, s, o.bind.imp fun x st1 H1 F1 le1 s1 o1 => by
    cases x with
    | true => exact ⟨P, F1, st1, s1, o1⟩
    | false => exact ⟨P, F1, st1, s1, o1⟩⟩
theorem seq_imp {D : Ends} (q : tS g W (sSeq a b) D σ H) : tSeq (tS g W a) (tS g W b) D σ H := by
  obtain ⟨P, F, st, s, o⟩ := q
  refine ⟨P, F, st, s, ?_⟩
  unfold sSeq at o
  revert o
  cases a st with
  | ok fl st' =>
    cases fl with
    | nx => exact fun o σ' H' F' le s' => ⟨P, F', st', s', OutS.weak le o⟩
    | ret d => exact fun o => o
    | brk => exact fun o => o
    | cnt => exact fun o => o
  | exn c fs st' => exact fun o => o
  | stuck => exact fun o => o
theorem ess_cons (h1 : PS X s (tS g W a)) (h2 : PSs X ss (tS g W b)) : PSs X (s :: ss) (tS g W (sSeq a b)) := (pss_cons h1 h2).imp fun _ _ _ q => seq_imp q
theorem ess_one (h1 : PS X s (tS g W a)) : PSs X [s] (tS g W a) := pss_one h1
theorem ess_nil : PSs X [] (tS g W sPass) := (pss_nil (X := X)).imp fun D σ H ⟨P, F, st, s, o⟩ => o σ H F (Same.refl _) s
theorem _root_.L2.PG.imp {X : Cx} {e : Expr} {t t' : TG} (h : PG X e t) (i : ∀ v σ H Q, t' v σ H Q → t v σ H Q) : PG X e t' := ⟨fun pins s σ H v u Q I r q => h.run pins s σ H v u Q I r (i v σ H Q q)⟩
theorem eg_nm {i : Nat} (h : PG X e (gName i)) : PG X e (tG g (.nm i)) := h.imp fun v σ H Q ⟨P, F, st, d, s, r, st', e, q⟩ => by
  obtain ⟨hi, rfl⟩ := slotSet_some e
  exact q [v] (s.put r hi)
def gNames : List Nat → TGs
  | [] => gNil
  | i :: is => gCons (gName i) (gNames is)
theorem gNames_imp : ∀ (is : List Nat) (vs : List V) (ds : List D) (σ : L2.St) (H F : Hp) (st st' : DSt) (Q : L2.St → Hp → Prop), SR g P σ H F st → Rl g F vs ds → setAll is ds st = some st' → (∀ xs, SR g P (setσ is xs σ) H F st' → Q (setσ is xs σ) H) → gNames is vs σ H Q
  | [], vs, ds, σ, H, F, st, st', Q, s, r, e, q => by
    cases ds with
    | nil => cases r; cases e; exact ⟨rfl, q [] s⟩
    | cons d ds => cases e
  | i :: is, vs, ds, σ, H, F, st, st', Q, s, r, e, q => by
    cases ds with
    | nil => cases e
    | cons d ds =>
      cases r with
      | cons r1 rs =>
        unfold setAll at e
        split at e
        · rename_i st1 h1
          obtain ⟨hi, rfl⟩ := slotSet_some h1
          exact ⟨_, _, rfl, gNames_imp is _ ds _ H F _ st' Q (s.put r1 hi) rs e fun xs => q (_ :: xs)⟩
        · cases e
theorem setAll_length : ∀ {is : List Nat} {ds : List D} {st st' : DSt}, setAll is ds st = some st' → ds.length = is.length
  | [], [], _, _, _ => rfl
  | [], _ :: _, _, _, e => by cases e
  | _ :: _, [], _, _, e => by cases e
  | i :: is, d :: ds, st, st', e => by
    unfold setAll at e
    split at e
    · rw [List.length_cons, List.length_cons, setAll_length e]
    · cases e
theorem eg_nms {is : List Nat} {n : Nat} (h : PG X e (gTup g.K n (gNames is))) (hn : n = is.length) : PG X e (tG g (.nms is)) := h.imp fun v σ H Q ⟨P, F, st, d, s, r, st', e, q⟩ => by
  cases d with
  | tup ds =>
    obtain ⟨a, vs, rfl, h1, r1⟩ := Br.tup s.le (.inl r)
    exact ⟨a, vs, rfl, h1, by rw [r1.length, setAll_length e, hn], gNames_imp is vs ds σ H F st st' Q s r1 e q⟩
  | _ => cases e
/-- what a turn gives: a thing that is known; a tuple that stands there or is new -/
def Yl (g : G) (F H H' : Hp) (x : V) (d : D) : Prop := (H' = H ∧ Rv g F x d) ∨
  ∃ (q : Addr) (ws : List V) (es : List D), x = .ref q ∧ d = .tup es ∧ Rl g F ws es ∧ g.tk = false ∧ ((H' = H ∧ H q = some (.tup ws)) ∨ (H q = none ∧ H' = upd H q (.tup ws)))
theorem SR.frzT {q : Addr} {ws : List V} (s : SR g P σ H F st) (h : H q = some (.tup ws)) : Same F (upd F q (.tup ws)) ∧ SR g P σ H (upd F q (.tup ws)) st := by
  obtain ⟨O, c⟩ := s
  have sf : Same F (upd F q (.tup ws)) := fun b o e => by
    by_cases hb : b = q
    · subst hb; rw [upd_same]; rw [c.le _ _ e] at h; exact h.symm
    · rw [upd_ne hb]; exact e
  refine ⟨sf, O, fun b o e => ?_, c.rr, fun b j e => ?_, fun b n => ?_, c.len, fun j s ov e1 e2 => (c.sl j s ov e1 e2).move rfl (fun _ h => h) sf (fun _ _ _ h => h) fun _ _ h => h⟩
  · by_cases hb : b = q
    · subst hb; rw [upd_same] at e; rw [← e]; exact h
    · rw [upd_ne hb] at e; exact c.le _ _ e
  · have hb : b ≠ q := fun z => (c.oo b j e).2.2.2 ws (by rw [z]; exact h)
    rw [upd_ne hb]; exact c.oo b j e
  · have hb : b ≠ q := fun z => (c.no b n).2.2 ws (by rw [z]; exact h)
    rw [upd_ne hb]; exact c.no b n
theorem SR.yl {F0 H' : Hp} {x : V} {d : D} (s : SR g P σ H F st) (le : Same F0 F) (y : Yl g F0 H H' x d) : ∃ F', Same F F' ∧ SR g P σ H' F' st ∧ Rv g F' x d := by
  rcases y with ⟨rfl, r⟩ | ⟨q, ws, es, rfl, rfl, r, tk, ⟨rfl, h⟩ | ⟨h, rfl⟩⟩
  · exact ⟨F, Same.refl _, s, r.mono le⟩
  · obtain ⟨sf, s'⟩ := s.frzT h
    exact ⟨_, sf, s', .tup (.inl (.inl upd_same)) (by unfold TkP; rw [tk]; exact upd_same) (r.mono (le.trans sf))⟩
  · exact ⟨_, (Grow.new s.le h).f, s.grow (Grow.new s.le h), .tup (.inl (.inl upd_same)) (by unfold TkP; rw [tk]; exact upd_same) (r.mono (le.trans (Grow.new s.le h).f))⟩
structure Wk (g : G) (J : It) (F : Hp) (ds : List D) : Prop where
  stop : ∀ H', Same F H' → J.stop ds.length H'
  go : ∀ i H', Same F H' → i < ds.length → J.go i H'
  yld : ∀ i H' x H'', Same F H' → i < ds.length → J.yld i H' x H'' → ∃ d, ds[i]? = some d ∧ Yl g F H' H'' x d
def tI (g : G) (W : WX) (fi : Den (List D)) : TI := fun σ H R => ∃ P F st, SR g P σ H F st ∧ Out g W P σ F (fi st) fun ds _ H' F' => ∀ J, Wk g J F' ds → R J H'
theorem _root_.L2.PI.imp {X : Cx} {tg it : Expr} {w w' : TI} (h : PI X tg it w) (i : ∀ σ H R, w' σ H R → w σ H R) : PI X tg it w' := ⟨fun pins s σ H R I q => h.run pins s σ H R I (i σ H R q)⟩
@[simp] def itemsOf : D → Option (List D)
  | .lst xs => some xs
  | .tup xs => some xs
  | _ => none
@[simp] def dItems (f : Den D) : Den (List D) := bindD f fun d => liftO (itemsOf d)
@[simp] def rangeL (n : Int) : Option (List D) := if n.natAbs ≤ big then some ((List.range n.toNat).map fun k : Nat => D.int (k : Int)) else none
@[simp] def rangeL2 (m n : Int) : Option (List D) := if m.natAbs ≤ big ∧ n.natAbs ≤ big then some ((List.range (n - m).toNat).map fun k => D.int (m + (k : Nat))) else none
@[simp] def rngD : D → Option (List D)
  | .int n => rangeL n
  | _ => none
@[simp] def rngD2 : D → D → Option (List D)
  | .int m, .int n => rangeL2 m n
  | _, _ => none
@[simp] def dRng (f : Den D) : Den (List D) := bindD f fun d => liftO (rngD d)
@[simp] def dRng2 (f h : Den D) : Den (List D) := bindD f fun d => bindD h fun d2 => liftO (rngD2 d d2)
theorem wk_l {F : Hp} {a : Addr} {vs : List V} {ds : List D} (h : F a = some (.lst vs)) (r : Rl g F vs ds) : Wk g (Itl g.K a) F ds where
  stop := fun H' le => ⟨vs, sqL_of (le _ _ h), by rw [r.length]; exact Nat.le_refl _⟩
  go := fun i H' le hi => ⟨vs, vs[i]'(by rw [r.length]; exact hi), sqL_of (le _ _ h), by simp [r.length, hi]⟩
  yld := fun i H' x H'' le hi y => by
    obtain ⟨e, y⟩ := y
    obtain ⟨d, h1, h2⟩ := r.get' (y vs (sqL_of (le _ _ h)))
    exact ⟨d, h1, .inl ⟨e, h2⟩⟩
theorem wk_t {F : Hp} {a : Addr} {vs : List V} {ds : List D} (h : SqT g.K F a vs) (r : Rl g F vs ds) : Wk g (Itt g.K a) F ds where
  stop := fun H' le => ⟨vs, sqT_mono le h, by rw [r.length]; exact Nat.le_refl _⟩
  go := fun i H' le hi => ⟨vs, vs[i]'(by rw [r.length]; exact hi), sqT_mono le h, by simp [r.length, hi]⟩
  yld := fun i H' x H'' le hi y => by
    obtain ⟨e, y⟩ := y
    obtain ⟨d, h1, h2⟩ := r.get' (y vs (sqT_mono le h))
    exact ⟨d, h1, .inl ⟨e, h2⟩⟩
theorem wk_r (F : Hp) (lo : Int) (n : Nat) : Wk g (Itr lo n) F ((List.range n).map fun k => D.int (lo + (k : Nat))) where
  stop := fun H' le => by show n ≤ _; simp
  go := fun i H' le hi => by show i < n; simpa using hi
  yld := fun i H' x H'' le hi y => by
    obtain ⟨e, y⟩ := y
    refine ⟨.int (lo + i), ?_, .inl ⟨e, ?_⟩⟩
    · have : i < n := by simpa using hi
      simp [this]
    · rw [y]; exact .int _
def iAny (K : PySem.W.Frag) (tl : TE) : TI := fun σ H R => tl σ H fun x H1 => ∃ a, x = .ref a ∧ (((∃ xs, SqL K H1 a xs) ∧ R (Itl K a) H1) ∨ ((∃ xs, SqT K H1 a xs) ∧ R (Itt K a) H1))
theorem pi_any {tg l : Expr} {tl : TE} (hl : PE X l tl) : PI X tg l (iAny X.K tl) := by
  refine ⟨fun pins s σ H R I h => ?_⟩
  refine thn (hl.run pins s σ H _ I h) fun v s1 ⟨x, H1, I1, r1, q1⟩ => ?_
  obtain ⟨a, e, q1⟩ := q1
  subst e
  cases r1
  rcases q1 with ⟨⟨xs, hq⟩, q⟩ | ⟨⟨xs, hq⟩, q⟩
  · obtain ⟨its, rv, p, hz⟩ := I1.list hq
    refine wpAny_pyIter_list p.isList ?_
    refine ⟨s1.heap.objs.size, [s1.heap.objs.size], _, _, H1, rfl, I1.kept (t' := s1.toks) fun b o e => Heap.get?_push_of_some _ e, turn_list a _, ⟨_, Heap.get?_push_size _ rfl, rfl, rfl⟩, fun b hb => ?_, q⟩
    have e : b = s1.heap.objs.size := by simpa using hb
    subst e
    exact I1.fpOk (Nat.le_refl _) (I1.hok.fresh (Nat.le_refl _))
  · obtain ⟨its, rv, p, hz⟩ := I1.tuple hq
    refine wpAny_pyIter_tuple (show s1.heap.IsTuple a its.toArray from p) ?_
    refine ⟨s1.heap.objs.size, [s1.heap.objs.size], _, _, H1, rfl, I1.kept (t' := s1.toks) fun b o e => Heap.get?_push_of_some _ e, turn_tuple a _, ⟨_, Heap.get?_push_size _ rfl, rfl, rfl⟩, fun b hb => ?_, q⟩
    have e : b = s1.heap.objs.size := by simpa using hb
    subst e
    exact I1.fpOk (Nat.le_refl _) (I1.hok.fresh (Nat.le_refl _))
theorem ei_any {tg it : Expr} (h : PI X tg it (iAny g.K (tE g W f))) : PI X tg it (tI g W (dItems f)) := h.imp fun σ H R ⟨P, F, st, s, o⟩ =>
  ⟨P, F, st, s, o.bind.imp fun d st1 H1 F1 le1 s1 o1 v rx => by
    obtain ⟨ds, ez, q⟩ := o1.lift
    have q := q H1 F1 (Same.refl _) s1
    cases d with
    | lst xs =>
      cases ez
      obtain ⟨a, vs, rfl, h1, r1⟩ := Br.lst (H := F1) (Same.refl _) (.inl rx)
      exact ⟨a, rfl, .inl ⟨⟨vs, sqL_of (s1.le _ _ h1)⟩, q _ (wk_l h1 r1)⟩⟩
    | tup xs =>
      cases ez
      obtain ⟨a, vs, rfl, h1, r1⟩ := Br.tup (H := F1) (Same.refl _) (.inl rx)
      exact ⟨a, rfl, .inr ⟨⟨vs, sqT_mono s1.le h1⟩, q _ (wk_t h1 r1)⟩⟩
    | _ => cases ez⟩
theorem ei_rng {tg it : Expr} (h : PI X tg it (iRng1 (tCons (tE g W f) tNil))) : PI X tg it (tI g W (dRng f)) := h.imp fun σ H R ⟨P, F, st, s, o⟩ =>
  ⟨P, F, st, s, o.bind.imp fun d st1 H1 F1 le1 s1 o1 v rx => by
    obtain ⟨ds, ez, q⟩ := o1.lift
    have q := q H1 F1 (Same.refl _) s1
    cases d with
    | int n =>
      cases rx
      simp only [rngD, rangeL] at ez
      split at ez
      · rename_i hn
        cases ez
        have hb : big = 16777216 := rfl
        have := wk_r (g := g) F1 0 n.toNat
        simp only [Int.zero_add] at this
        exact ⟨n, rfl, by omega, by omega, q _ this⟩
      · cases ez
    | _ => cases ez⟩
theorem es_for {tgt : Tg} {fi : Den (List D)} (he : PS X s (tFor (tI g W fi) (tG g tgt) (tS g W a))) : PS X s (tS g W (sFor tgt fi a)) := he.imp fun E σ H ⟨P, F, st, s, o⟩ =>
  ⟨P, F, st, s, o.bind.imp fun ds st1 H1 F1 le1 s1 o1 J wk => by
    refine ⟨fun i m σ H => m = ds.length - i ∧ i ≤ ds.length ∧ ∃ F' st', Same F1 F' ∧ SR g P σ H F' st' ∧ OutS g W P F' (loop tgt a (ds.drop i) st') E, ⟨ds.length, by simp, Nat.zero_le _, F1, st1, Same.refl _, s1, by simpa using o1⟩, ?_⟩
    rintro i m σ H ⟨rfl, hi, F', st', le, s', o'⟩
    by_cases hlt : i < ds.length
    · refine .inr ⟨wk.go i H (le.trans s'.le) hlt, fun σ H => ∃ F' st', Same F1 F' ∧ SR g P σ H F' st' ∧ OutS g W P F' (loop tgt a (ds.drop (i + 1)) st') E, fun σ' H' p' => ⟨ds.length - (i + 1), by omega, rfl, hlt, p'⟩, fun x H' y => ?_⟩
      obtain ⟨d, hd, yy⟩ := wk.yld i H x H' (le.trans s'.le) hlt y
      obtain ⟨F', le2, s', rd⟩ := s'.yl le yy
      have le := le.trans le2
      have o' := OutS.weak le2 o'
      have hdr : ds.drop i = d :: ds.drop (i + 1) := by
        rw [List.drop_eq_getElem_cons hlt]
        have : ds[i] = d := by
          have := List.getElem?_eq_getElem hlt
          rw [hd] at this; exact (Option.some.inj this).symm
        rw [this]
      rw [hdr] at o'
      unfold loop at o'
      split at o'
      · exact o'.elim
      · rename_i st2 h2
        refine ⟨P, F', st', d, s', rd, st2, h2, fun xs s2 => ⟨P, F', st2, s2, ?_⟩⟩
        revert o'
        cases a st2 with
        | ok fl st3 =>
          cases fl with
          | nx => exact fun o' σ3 H3 F3 le3 s3 => ⟨F3, st3, le.trans le3, s3, OutS.weak le3 o'⟩
          | cnt => exact fun o' σ3 H3 F3 le3 s3 => ⟨F3, st3, le.trans le3, s3, OutS.weak le3 o'⟩
          | brk => exact fun o' => o'
          | ret d => exact fun o' => o'
        | exn c fs st3 => exact fun o' => o'
        | stuck => exact fun o' => o'
    · have e : i = ds.length := by omega
      subst e
      rw [List.drop_length] at o'
      exact .inl ⟨wk.stop H (le.trans s'.le), o' σ H F' (Same.refl _) s'⟩⟩
end
end DL
namespace DL
open PySem PySem.Spec PyProof.Rows L2
@[simp] def dOw (i : Nat) : Den (List D) := fun st => match st[i]? with
  | some (.ow ds) => .ok ds st
  | some (.rf _ ds) => .ok ds st
  | _ => .stuck
@[simp] def setOw (i : Nat) (ds : List D) : Den Unit := fun st => match st[i]? with
  | some (.ow _) => .ok () (st.set i (.ow ds))
  | some (.rf k _) => .ok () (st.set i (.rf k ds))
  | _ => .stuck
@[simp] def mutD {α : Type} (i : Nat) (fn : List D → Option (α × List D)) : Den α := bindD (dOw i) fun ds => bindD (liftO (fn ds)) fun r => bindD (setOw i r.2) fun _ => retD r.1
@[simp] def dAppend (i : Nat) (f : Den D) : Den D := bindD (dOw i) fun _ => bindD f fun y => mutD i fun ds => if ds.length < big then some (.non, ds ++ [y]) else none
@[simp] def popAt (ds : List D) (i : Int) : Option (D × List D) := match seqIndex? i ds.length with
  | some k => match ds[k]? with | some y => if i.natAbs ≤ big then some (y, ds.eraseIdx k) else none | none => none
  | none => none
@[simp] def dPopAt (i : Nat) (f : Den D) : Den D := bindD (dOw i) fun _ => bindD f fun y => match y with
  | .int k => mutD i fun ds => popAt ds k
  | _ => fun _ => .stuck
@[simp] def dPop (i : Nat) : Den D := mutD i fun ds => match ds[ds.length - 1]? with | some y => some (y, ds.dropLast) | none => none
@[simp] def sStore (i : Nat) (ix e : Den D) : DS := bindD e fun v => bindD (dRd i) fun _ => bindD ix fun k => match k with
  | .int k => bindD (mutD i fun ds => match ixN ds.length k with | some j => some ((), ds.set j v) | none => none) fun _ => retD .nx
  | _ => fun _ => .stuck
section
variable {X : Cx} {g : G} {W : WX} {P : Par} {σ : L2.St} {H F : Hp} {st : DSt} {e : Expr} {s : Stmt} {ss : List Stmt} {f h : Den D} {t : Den Bool} {a b : DS}
/-- what an owned slot is; it may be changed -/
theorem SR.owned {i : Nat} {ds : List D} {st' : DSt} (s : SR g P σ H F st) (e : dOw i st = .ok ds st') : st' = st ∧ ∃ a vs, σ[i]? = some (some (.ref a)) ∧ H a = some (.lst vs) ∧ Rl g F vs ds ∧ F a = none ∧ P.R a = none ∧
    ∀ (H' F' : Hp) (vs' : List V) (ds' : List D), Same F F' → Same F' H' → (∀ b, NT H b → F b = none → F' b = none) → (∀ b o, b ≠ a → H b = some o → H' b = some o) → H' a = some (.lst vs') → F' a = none → Rl g F' vs' ds' →
      ∃ st2, setOw i ds' st = .ok () st2 ∧ SR g P σ H' F' st2 := by
  have key : ∀ (mk : List D → Slot) (ds0 : List D), st[i]? = some (mk ds0) → (mk = .ow ∨ ∃ k, mk = .rf k) → ∃ a vs, σ[i]? = some (some (.ref a)) ∧ H a = some (.lst vs) ∧ Rl g F vs ds0 ∧ F a = none ∧ P.R a = none ∧
      ∀ (H' F' : Hp) (vs' : List V) (ds' : List D), Same F F' → Same F' H' → (∀ b, NT H b → F b = none → F' b = none) → (∀ b o, b ≠ a → H b = some o → H' b = some o) → H' a = some (.lst vs') → F' a = none → Rl g F' vs' ds' →
        SR g P σ H' F' (st.set i (mk ds')) := by
    intro mk ds0 hd hk
    obtain ⟨ov, hov⟩ := SRc.nth s hd
    obtain ⟨O, c⟩ := s
    have q0 := c.sl i _ _ hd hov
    have hi : i < st.length := by
      rcases Nat.lt_or_ge i st.length with q | q
      · exact q
      · rw [List.getElem?_eq_none q] at hd; cases hd
    have ⟨a, vs, e1, ho, ha, r, mkok⟩ : ∃ a vs, ov = some (.ref a) ∧ O a = some i ∧ H a = some (.lst vs) ∧ Rl g F vs ds0 ∧ ∀ F' H' vs' ds', H' a = some (.lst vs') → Rl g F' vs' ds' → SlotOk g P O F' H' i (mk ds') ov := by
      rcases hk with rfl | ⟨k, rfl⟩
      · obtain ⟨a, vs, rfl, ho, hn, ha, r⟩ := q0
        exact ⟨a, vs, rfl, ho, ha, r, fun F' H' vs' ds' h1 h2 => ⟨a, vs', rfl, ho, hn, h1, h2⟩⟩
      · obtain ⟨a, vs, rfl, hb, ho, ha, r⟩ := q0
        exact ⟨a, vs, rfl, ho, ha, r, fun F' H' vs' ds' h1 h2 => ⟨a, vs', rfl, hb, ho, h1, h2⟩⟩
    subst e1
    refine ⟨a, vs, hov, ha, r, (c.oo a i ho).1, (c.oo a i ho).2.1, fun H' F' vs' ds' sf sfh nf sh hva fa rr => ⟨O, sfh, fun b o e => ?_, fun b j e => ?_, fun b n => ?_, by rw [List.length_set]; exact c.len, fun j s ov e1 e2 => ?_⟩⟩
    · have hb : b ≠ a := fun z => by rw [z, (c.oo a i ho).2.1] at e; cases e
      exact sh b o hb (c.rr _ _ e)
    · refine ⟨nf b (c.oo b j e).2.2 (c.oo b j e).1, (c.oo b j e).2.1, ?_⟩
      by_cases hb : b = a
      · subst hb; exact NT.of hva
      · exact NT.move (c.oo b j e).2.2 fun u hu => sh b u hb hu
    · refine ⟨nf b (c.no b n).2 (c.no b n).1, ?_⟩
      by_cases hb : b = a
      · subst hb; exact NT.of hva
      · exact NT.move (c.no b n).2 fun u hu => sh b u hb hu
    · by_cases hj : j = i
      · subst hj
        rw [List.getElem?_set_self hi] at e1
        cases e1
        rw [hov] at e2; cases e2
        exact mkok F' H' vs' ds' hva rr
      · rw [List.getElem?_set_ne (Ne.symm hj)] at e1
        exact (c.sl j s ov e1 e2).move rfl (fun _ h => h) sf (fun b o ho' h => sh b o (fun z => hj (by rw [z, ho] at ho'; exact (Option.some.inj ho').symm)) h) fun _ _ h => h
  unfold dOw at e
  split at e
  · rename_i ds0 hd
    cases e
    obtain ⟨a, vs, h1, h2, h3, h4, h5, h6⟩ := key .ow ds hd (.inl rfl)
    exact ⟨rfl, a, vs, h1, h2, h3, h4, h5, fun H' F' vs' ds' a1 a2 a3 a4 a5 a6 a7 => ⟨_, by unfold setOw; rw [hd], h6 H' F' vs' ds' a1 a2 a3 a4 a5 a6 a7⟩⟩
  · rename_i k ds0 hd
    cases e
    obtain ⟨a, vs, h1, h2, h3, h4, h5, h6⟩ := key (.rf k) ds hd (.inr ⟨k, rfl⟩)
    exact ⟨rfl, a, vs, h1, h2, h3, h4, h5, fun H' F' vs' ds' a1 a2 a3 a4 a5 a6 a7 => ⟨_, by unfold setOw; rw [hd], h6 H' F' vs' ds' a1 a2 a3 a4 a5 a6 a7⟩⟩
  · cases e
theorem dOw_no {i : Nat} {c : Str} {fs : List (Str × D)} {st st' : DSt} : dOw i st ≠ .exn c fs st' := by
  unfold dOw
  split <;> exact fun h => by cases h
theorem Out.ow {i : Nat} {α : Type} {kk : List D → Den α} {K : α → DSt → Hp → Hp → Prop} (o : Out g W P σ F (bindD (dOw i) kk st) K) : ∃ ds, dOw i st = .ok ds st ∧ Out g W P σ F (kk ds st) K := by
  unfold bindD at o
  cases e : dOw i st with
  | ok d st' =>
    rw [e] at o
    have : st' = st := by
      unfold dOw at e
      split at e <;> cases e <;> rfl
    subst this
    exact ⟨d, rfl, o⟩
  | exn c fs st' => exact (dOw_no e).elim
  | stuck => rw [e] at o; exact o.elim
/-- a list changed in place, nothing else -/
theorem Out.mut {α : Type} {i : Nat} {fn : List D → Option (α × List D)} {K : α → DSt → Hp → Hp → Prop} (s : SR g P σ H F st) (o : Out g W P σ F (mutD i fn st) K) :
    ∃ a vs ds r, σ[i]? = some (some (.ref a)) ∧ H a = some (.lst vs) ∧ Rl g F vs ds ∧ fn ds = some r ∧ ∀ vs', Rl g F vs' r.2 → ∃ st2, SR g P σ (upd H a (.lst vs')) F st2 ∧ K r.1 st2 (upd H a (.lst vs')) F := by
  obtain ⟨ds, e, o1⟩ := Out.ow o
  obtain ⟨_, a, vs, h1, h2, h3, h4, h5, h6⟩ := s.owned e
  have o1 : Out g W P σ F (bindD (liftO (fn ds)) (fun r => bindD (setOw i r.2) fun _ => retD r.1) st) K := o1
  cases er : fn ds with
  | none => rw [er] at o1; exact o1.elim
  | some r =>
    rw [er] at o1
    refine ⟨a, vs, ds, r, h1, h2, h3, er, fun vs' rr => ?_⟩
    have sfh : Same F (upd H a (.lst vs')) := fun b o e => by
      rw [upd_ne (fun z => by subst z; rw [h4] at e; cases e)]; exact s.le _ _ e
    obtain ⟨st2, e2, s2⟩ := h6 (upd H a (.lst vs')) F vs' r.2 (Same.refl _) sfh (fun b _ h => h) (fun b o hb e => by rw [upd_ne hb]; exact e) upd_same h4 rr
    refine ⟨st2, s2, ?_⟩
    have o2 : Out g W P σ F (bindD (setOw i r.2) (fun _ => retD r.1) st) K := o1
    unfold bindD at o2
    rw [e2] at o2
    exact o2 _ _ (Same.refl _) s2
theorem ev_append {i : Nat} (he : PE X e (tBM g.K "list" rAppend (tVar i) (tCons (tE g W f) tNil))) : PE X e (tE g W (dAppend i f)) := he.imp fun σ H Q ⟨P, F, st, s, o⟩ => by
  obtain ⟨ds, e, o1⟩ := Out.ow o
  obtain ⟨_, a, vs, h1, h2, h3, h4, h5, h6⟩ := s.owned e
  refine ⟨_, h1, .inl ⟨rfl, vs, sqL_of h2⟩, P, F, st, s, o1.bind.imp fun y st1 H1 F1 le1 s1 o2 v rv => ?_⟩
  obtain ⟨a', vs', ds', r, g1, g2, g3, g4, g5⟩ := Out.mut s1 o2
  rw [h1] at g1; cases g1
  split at g4
  · rename_i hl
    cases g4
    obtain ⟨st2, s2, k⟩ := g5 (vs' ++ [v]) (g3.append (.cons rv .nil))
    exact ⟨a, vs', v, rfl, rfl, g2, by rw [g3.length, ← big_eq]; exact hl, k _ .non⟩
  · cases g4
theorem ev_popAt {i : Nat} (he : PE X e (tBM g.K "list" rPopAt (tVar i) (tCons (tE g W f) tNil))) : PE X e (tE g W (dPopAt i f)) := he.imp fun σ H Q ⟨P, F, st, s, o⟩ => by
  obtain ⟨ds, e, o1⟩ := Out.ow o
  obtain ⟨_, a, vs, h1, h2, h3, h4, h5, h6⟩ := s.owned e
  refine ⟨_, h1, .inl ⟨rfl, vs, sqL_of h2⟩, P, F, st, s, o1.bind.imp fun y st1 H1 F1 le1 s1 o2 v rv => ?_⟩
  cases y with
  | int k =>
    cases rv
    obtain ⟨a', vs', ds', r, g1, g2, g3, g4, g5⟩ := Out.mut s1 o2
    rw [h1] at g1; cases g1
    unfold popAt at g4
    split at g4
    · rename_i j hj
      split at g4
      · rename_i y hy
        split at g4
        · rename_i hk
          cases g4
          have hb : big = 16777216 := rfl
          obtain ⟨w, hw, rw'⟩ := g3.get hy
          obtain ⟨st2, s2, kk⟩ := g5 (vs'.eraseIdx j) (g3.eraseIdx j)
          exact ⟨a, vs', k, j, w, rfl, rfl, g2, by omega, by omega, by rw [g3.length]; exact hj, hw, kk _ rw'⟩
        · cases g4
      · cases g4
    · cases g4
  | _ => exact o2.elim
theorem es_store {i : Nat} (he : PS X s (tAsg (tE g W f) (gSub (tVar i) (tE g W h) rSetL))) : PS X s (tS g W (sStore i h f)) := he.imp fun D σ H ⟨P, F, st, s, o⟩ =>
  ⟨P, F, st, s, o.bind.imp fun x st1 H1 F1 le1 s1 o1 v rx => by
    have o1 : OutS g W P F1 (bindD (dRd i) (fun _ => bindD h fun k => match k with
      | .int k => bindD (mutD i fun ds => match ixN ds.length k with | some j => some ((), ds.set j x) | none => none) fun _ => retD .nx
      | _ => fun _ => .stuck) st1) D := o1
    obtain ⟨v0, d0, hv0, _, o2⟩ := Out.rd s1 (OutS.bind o1 (σ := σ) |> fun (q : Out g W P σ F1 (dRd i st1) _) => (by
      revert q
      unfold bindD
      cases ed : dRd i st1 with
      | ok d st' => exact fun q => q
      | exn c fs st' => exact fun q => q
      | stuck => exact fun q => q : Out g W P σ F1 (bindD (dRd i) (fun d => retD d) st1) (fun d st' _ F1 => OutS g W P F1 ((bindD h fun k => match k with
      | .int k => bindD (mutD i fun ds => match ixN ds.length k with | some j => some ((), ds.set j x) | none => none) fun _ => retD .nx
      | _ => fun _ => .stuck) st') D)))
    have o3 := o2 H1 F1 (Same.refl _) s1
    refine ⟨v0, hv0, P, F1, st1, s1, o3.bind.imp fun k st2 H2 F2 le2 s2 o4 vk rk => ?_⟩
    cases k with
    | int k =>
      cases rk
      have o5 := OutS.bind o4 (σ := σ)
      obtain ⟨a', vs', ds', r, g1, g2, g3, g4, g5⟩ := Out.mut s2 o5
      rw [hv0] at g1; cases g1
      split at g4
      · rename_i j hj
        cases g4
        obtain ⟨st3, s3, kk⟩ := g5 (vs'.set j v) (g3.set (rx.mono le2) j)
        exact ⟨a', vs', k, j, rfl, rfl, g2, by rw [g3.length]; exact hj, kk σ _ F2 (Same.refl _) s3⟩
      · cases g4
    | _ => exact o4.elim⟩
def spD (g : G) (df : List D → M D) : Sp := fun vs H Q E => ∃ F ds, Same F H ∧ Rl g F vs ds ∧ match df ds with
  | .ok d => ∀ v H' F', Grow H F H' F' → Rv g F' v d → Q v H'
  | .exn c fs => ∀ cls dd H' F', Grow H F H' F' → RepX g F' H' c fs cls dd → E cls dd H'
  | .stuck => False
@[simp] def dCall (df : List D → M D) (fa : Den (List D)) : Den D := bindD fa fun ds => liftM' (df ds)
theorem call_fin {df : List D → M D} {vs : List V} {ds : List D} {Q : VK} {E : XK} (s : SR g P σ H F st) (r : Rl g F vs ds) (hE : ∀ cls dd H', W cls dd σ H' → E cls dd H') (o : Out g W P σ F (liftM' (df ds) st) fun d _ H' F' => ∀ v, Rv g F' v d → Q v H') : spD g df vs H Q E := by
  refine ⟨F, ds, s.le, r, ?_⟩
  revert o
  unfold liftM'
  cases df ds with
  | ok d => exact fun o v H' F' gr rv => o H' F' gr.f (s.grow gr) v rv
  | exn c fs => exact fun o cls dd H' F' gr rx => hE _ _ _ (o cls dd H' F' gr.f (s.grow gr) rx)
  | stuck => exact fun o => o
theorem ev_call {df : List D → M D} {fa : Den (List D)} (he : PE X e (tCallS (spD g df) (WE W) (tA g W fa))) : PE X e (tE g W (dCall df fa)) := he.imp fun σ H Q ⟨P, F, st, s, o⟩ =>
  ⟨P, F, st, s, o.bind.imp fun ds st1 H1 F1 le1 s1 o1 vs rs => call_fin s1 rs (fun _ _ _ h => h) o1⟩
/-- .. whose first argument is a list that the function changes -/
def spR (g : G) (df : List D → List D → M (D × List D)) : Sp := fun vs H Q _ => ∃ F a ws ss us ds, vs = .ref a :: us ∧ Same F H ∧ F a = none ∧ H a = some (.lst ws) ∧ Rl g F ws ss ∧ Rl g F us ds ∧ match df ss ds with
  | .ok r => ∀ v H' F' ws', Same F F' → Same F' H' → (∀ b, NT H b → F b = none → F' b = none) → (∀ b o, b ≠ a → H b = some o → H' b = some o) → H' a = some (.lst ws') → F' a = none → Rl g F' ws' r.2 → Rv g F' v r.1 → Q v H'
  | _ => False
@[simp] def dCallR (df : List D → List D → M (D × List D)) (i : Nat) (fa : Den (List D)) : Den D := bindD (dOw i) fun _ => bindD fa fun ds => bindD (dOw i) fun ss => bindD (liftM' (df ss ds)) fun r => bindD (setOw i r.2) fun _ => retD r.1
theorem ev_callR {df : List D → List D → M (D × List D)} (nox : ∀ ss ds c fs, df ss ds ≠ .exn c fs) {i : Nat} {fa : Den (List D)} (he : PE X e (tCallS (spR g df) (WE W) (tCons (tVar i) (tA g W fa)))) : PE X e (tE g W (dCallR df i fa)) := he.imp fun σ H Q ⟨P, F, st, s, o⟩ => by
  obtain ⟨ds0, e0, o1⟩ := Out.ow o
  obtain ⟨_, a, vs, h1, h2, h3, h4, h5, h6⟩ := s.owned e0
  refine ⟨_, h1, P, F, st, s, o1.bind.imp fun ds st1 H1 F1 le1 s1 o2 us ru => ?_⟩
  obtain ⟨ss, e1, o3⟩ := Out.ow o2
  obtain ⟨_, a', ws, g1, g2, g3, g4, g5, g6⟩ := s1.owned e1
  rw [h1] at g1; cases g1
  refine ⟨F1, a, ws, ss, us, ds, rfl, s1.le, g4, g2, g3, ru, ?_⟩
  have nx := nox ss ds
  revert o3 nx
  cases df ss ds with
  | ok r =>
    intro o3 nx v H' F' ws' a1 a2 a3 a4 a5 a6 a7 rv
    obtain ⟨st2, e2, s2⟩ := g6 H' F' ws' r.2 a1 a2 a3 a4 a5 a6 a7
    have o4 : Out g W P σ F1 (bindD (setOw i r.2) (fun _ => retD r.1) st1) fun d _ H' F' => ∀ v, Rv g F' v d → Q v H' := o3
    unfold bindD at o4
    rw [e2] at o4
    exact o4 H' F' a1 s2 v rv
  | exn c fs => exact fun _ nx => (nx c fs rfl).elim
  | stuck => exact fun o3 => o3.elim
/-- a body's meaning as a function of its arguments: n slots -/
def runF (m n : Nat) (f : DS) (ds : List D) : M D := if ds.length = m then match f (ds.map Slot.sh ++ List.replicate (n - ds.length) .no) with
  | .ok (.ret d) _ => .ok d
  | .ok .nx _ => .ok .non
  | .exn c fs _ => .exn c fs
  | _ => .stuck
  else .stuck
theorem getElem_start {N : List Str} {vs : List V} {i : Nat} {ov : Option V} (h : (L2.start N vs)[i]? = some ov) : ∀ v, vs[i]? = some v → ov = some v := by
  intro v hv
  unfold L2.start at h
  have hi : i < vs.length := by
    rcases Nat.lt_or_ge i vs.length with q | q
    · exact q
    · rw [List.getElem?_eq_none q] at hv; cases hv
  rw [List.getElem?_append_left (by simpa using hi), List.getElem?_map, hv] at h
  exact (Option.some.inj h).symm
theorem init_sl {O : Addr → Option Nat} {N : List Str} {vs : List V} {ds : List D} (r : Rl g F vs ds) (n : Nat) : ∀ i s ov, (ds.map Slot.sh ++ List.replicate n Slot.no)[i]? = some s → (L2.start N vs)[i]? = some ov → SlotOk g P O F H i s ov := by
  intro i s ov e1 e2
  rcases Nat.lt_or_ge i ds.length with hi | hi
  · rw [List.getElem?_append_left (by simpa using hi), List.getElem?_map, List.getElem?_eq_getElem hi] at e1
    cases e1
    obtain ⟨v, hv, rv⟩ := r.get (List.getElem?_eq_getElem hi)
    exact ⟨v, getElem_start e2 v hv, rv⟩
  · rw [List.getElem?_append_right (by simpa using hi)] at e1
    have : s = Slot.no := by
      have := List.mem_of_getElem? e1
      exact (List.mem_replicate.mp this).2
    subst this
    trivial
/-- THE RULE for a def of data -/
theorem body_ok {N ps : List Str} {f : DS} {n : Nat} {vs : List V} {Q : VK} {E : XK} (hn : n = N.length) (hp : ps.length ≤ N.length) (hl : vs.length = ps.length) (h : spD g (runF ps.length n f) vs H Q E) :
    tS g (fun cls dd _ H => E cls dd H) f { nx := fun _ H' => Q .non H', rt := Q } (L2.start N vs) H := by
  obtain ⟨F, ds, le, r, h⟩ := h
  refine ⟨⟨[], H, fun a => NT H a ∧ F a = none⟩, F, ds.map Slot.sh ++ List.replicate (n - ds.length) .no, ⟨fun _ => none, le, Same.refl _, (fun _ _ e => nomatch e), fun a h => ⟨h.2, h.1⟩, ?_, init_sl r _⟩, ?_⟩
  · have := r.length
    unfold L2.start
    simp only [List.length_append, List.length_map, List.length_replicate]
    omega
  · have gr : ∀ {σ' : L2.St} {H' F' : Hp} {st' : DSt}, Same F F' → SR g ⟨[], H, fun a => NT H a ∧ F a = none⟩ σ' H' F' st' → Grow H F H' F' := fun le ⟨O, c⟩ => ⟨c.rr, le, c.le, fun a h1 h2 => (c.no a ⟨h1, h2⟩).1⟩
    unfold runF at h
    rw [if_pos (by rw [← r.length]; exact hl)] at h
    revert h
    cases f (ds.map Slot.sh ++ List.replicate (n - ds.length) .no) with
    | ok fl st' =>
      cases fl with
      | nx => exact fun h σ' H' F' le s => h .non H' F' (gr le s) .non
      | ret d => exact fun h σ' H' F' le s v rv => h v H' F' (gr le s) rv
      | brk => exact fun h => h.elim
      | cnt => exact fun h => h.elim
    | exn c fs st' => exact fun h cls dd σ' H' F' le s rx => h cls dd H' F' (gr le s) rx
    | stuck => exact fun h => h.elim
/-- .. with a list that it changes, its first argument -/
def runR (m n : Nat) (f : DS) (ss : List D) (ds : List D) : M (D × List D) := if ds.length + 1 = m then match f (.rf 0 ss :: (ds.map Slot.sh ++ List.replicate (n - ds.length - 1) .no)) with
  | .ok (.ret d) (.rf 0 ss' :: _) => .ok (d, ss')
  | .ok .nx (.rf 0 ss' :: _) => .ok (.non, ss')
  | _ => .stuck
  else .stuck
theorem runR_nox (m n : Nat) (f : DS) : ∀ ss ds c fs, runR m n f ss ds ≠ .exn c fs := by
  intro ss ds c fs h
  unfold runR at h
  split at h
  · split at h <;> cases h
  · cases h
theorem start_cons {x : Str} {N : List Str} {v : V} {vs : List V} : L2.start (x :: N) (v :: vs) = some v :: L2.start N vs := by
  unfold L2.start
  simp
theorem body_okR {x : Str} {N ps : List Str} {f : DS} {n : Nat} {vs : List V} {Q : VK} {E : XK} (hn : n = (x :: N).length) (hp : ps.length ≤ (x :: N).length) (hl : vs.length = ps.length) (h : spR g (runR ps.length n f) vs H Q E) :
    tS g (fun cls dd _ H => E cls dd H) f { nx := fun _ H' => Q .non H', rt := Q } (L2.start (x :: N) vs) H := by
  obtain ⟨F, a, ws, ss, us, ds, rfl, le, fa, ha, rs, r, h⟩ := h
  have hln := r.length
  rw [start_cons]
  refine ⟨⟨[a], fun b => if b = a then none else H b, fun b => NT H b ∧ F b = none⟩, F, .rf 0 ss :: (ds.map Slot.sh ++ List.replicate (n - ds.length - 1) .no), ⟨fun b => if b = a then some 0 else none, le, fun b o e => ?_, fun b i e => ?_, fun a h => ⟨h.2, h.1⟩, ?_, fun i s ov e1 e2 => ?_⟩, ?_⟩
  · by_cases hb : b = a
    · subst hb; simp at e
    · simpa [hb] using e
  · by_cases hb : b = a
    · subst hb; exact ⟨fa, by simp, NT.of ha⟩
    · simp [hb] at e
  · unfold L2.start
    simp only [List.length_append, List.length_map, List.length_replicate, List.length_cons] at *
    omega
  · cases i with
    | zero =>
      simp at e1 e2
      subst e1; subst e2
      exact ⟨a, ws, rfl, rfl, by simp, ha, rs⟩
    | succ i =>
      have q := init_sl (P := ⟨[a], fun b => if b = a then none else H b, fun b => NT H b ∧ F b = none⟩) (H := H) (O := fun b => if b = a then some 0 else none) (N := N) r (n - ds.length - 1) i s ov (by simpa using e1) (by simpa using e2)
      have hs : s = .no ∨ ∃ d, s = .sh d := by
        have e1 : (ds.map Slot.sh ++ List.replicate (n - ds.length - 1) Slot.no)[i]? = some s := by simpa using e1
        rcases List.mem_append.mp (List.mem_of_getElem? e1) with h | h
        · obtain ⟨d, _, e⟩ := List.mem_map.mp h
          exact .inr ⟨d, e.symm⟩
        · exact .inl (List.mem_replicate.mp h).2
      rcases hs with rfl | ⟨d, rfl⟩
      · trivial
      · exact q
  · have gr : ∀ {σ' : L2.St} {H' F' : Hp} {ss' : List D} {st' : DSt} {d : D}, Same F F' → SR g ⟨[a], fun b => if b = a then none else H b, fun b => NT H b ∧ F b = none⟩ σ' H' F' (.rf 0 ss' :: st') →
        (∀ v H' F' ws', Same F F' → Same F' H' → (∀ b, NT H b → F b = none → F' b = none) → (∀ b o, b ≠ a → H b = some o → H' b = some o) → H' a = some (.lst ws') → F' a = none → Rl g F' ws' ss' → Rv g F' v d → Q v H') → ∀ v, Rv g F' v d → Q v H' := fun {σ' H' F' ss' st' d} le s k v rv => by
      obtain ⟨ov, hov⟩ := SRc.nth (i := 0) s rfl
      obtain ⟨O, c⟩ := s
      obtain ⟨a', ws', e1, e2, e3, e4, e5⟩ := c.sl 0 _ _ rfl hov
      have : a' = a := by simpa using e2.symm
      subst this
      refine k v H' F' ws' le c.le (fun b h1 h2 => (c.no b ⟨h1, h2⟩).1) (fun b o hb e => c.rr b o (by simp [hb, e])) e4 (c.oo _ _ e3).1 e5 rv
    unfold runR at h
    rw [if_pos (by simp only [List.length_cons] at hl; omega)] at h
    revert h
    cases f (.rf 0 ss :: (ds.map Slot.sh ++ List.replicate (n - ds.length - 1) .no)) with
    | ok fl st' =>
      cases fl with
      | nx =>
        cases st' with
        | nil => exact fun h => h.elim
        | cons s0 st' =>
          cases s0 with
          | rf k ss' =>
            cases k with
            | zero => exact fun h σ' H' F' le s => gr le s h .non .non
            | succ k => exact fun h => h.elim
          | _ => exact fun h => h.elim
      | ret d =>
        cases st' with
        | nil => exact fun h => h.elim
        | cons s0 st' =>
          cases s0 with
          | rf k ss' =>
            cases k with
            | zero => exact fun h σ' H' F' le s v rv => gr le s h v rv
            | succ k => exact fun h => h.elim
          | _ => exact fun h => h.elim
      | brk => exact fun h => h.elim
      | cnt => exact fun h => h.elim
    | exn c fs st' => exact fun h => h.elim
    | stuck => exact fun h => h.elim
theorem spD_len {m n : Nat} {f : DS} {vs : List V} {Q : VK} {E : XK} (h : spD g (runF m n f) vs H Q E) : vs.length = m := by
  obtain ⟨F, ds, le, r, h⟩ := h
  rw [r.length]
  by_cases hm : ds.length = m
  · exact hm
  · unfold runF at h
    rw [if_neg hm] at h
    exact h.elim
theorem spR_len {m n : Nat} {f : DS} {vs : List V} {Q : VK} {E : XK} (h : spR g (runR m n f) vs H Q E) : vs.length = m := by
  obtain ⟨F, a, ws, ss, us, ds, rfl, le, fa, ha, rs, r, h⟩ := h
  rw [List.length_cons, r.length]
  by_cases hm : ds.length + 1 = m
  · exact hm
  · unfold runR at h
    rw [if_neg hm] at h
    exact h.elim
end
end DL
namespace DL
open PySem PySem.Spec PyProof.Rows L2
def wipeD (st : DSt) : List Nat → DSt
  | [] => st
  | v :: vs => (wipeD st vs).set v .no
/-- the names of the block have their old content again -/
def backD (st0 st : DSt) : List Nat → DSt
  | [] => st
  | v :: vs => (backD st0 st vs).set v ((st0[v]?).getD .no)
def plainAt (st : DSt) (v : Nat) : Bool := match st[v]? with
  | some .no => true
  | some (.sh _) => true
  | _ => false
def compGo (vs : List Nat) (t : Tg) (test : Den Bool) (elt : Den D) : List D → Den (List D)
  | [] => retD []
  | d :: ds => fun st => match setT t d st with
    | none => .stuck
    | some st1 => match test st1 with
      | .ok true st2 => match elt st2 with
        | .ok y st3 => match compGo vs t test elt ds (wipeD st3 vs) with
          | .ok ys st4 => .ok (y :: ys) st4
          | _ => .stuck
        | _ => .stuck
      | .ok false st2 => compGo vs t test elt ds (wipeD st2 vs)
      | _ => .stuck
def dComp (vs : List Nat) (t : Tg) (fi : Den (List D)) (test : Den Bool) (elt : Den D) : Den (List D) := bindD fi fun ds => fun st =>
  if ds.length ≤ big ∧ vs.all (plainAt st) = true then
    match compGo vs t test elt ds (wipeD st vs) with
    | .ok ys st' => .ok ys (backD st st' vs)
    | _ => .stuck
  else .stuck
def WN : WX := fun _ _ _ _ => False
@[simp] def dYes : Den Bool := retD true
section
variable {X : Cx} {g : G} {W : WX} {P : Par} {σ : L2.St} {H F : Hp} {st : DSt} {e : Expr}
theorem wipeD_length (st : DSt) : ∀ vs : List Nat, (wipeD st vs).length = st.length
  | [] => rfl
  | v :: vs => by unfold wipeD; rw [List.length_set, wipeD_length st vs]
theorem backD_length (st0 st : DSt) : ∀ vs : List Nat, (backD st0 st vs).length = st.length
  | [] => rfl
  | v :: vs => by unfold backD; rw [List.length_set, backD_length st0 st vs]
theorem wipeD_in {st : DSt} {i : Nat} : ∀ {vs : List Nat}, i ∈ vs → ∀ s, (wipeD st vs)[i]? = some s → s = .no
  | v :: vs, h, s, e => by
    unfold wipeD at e
    by_cases hv : v = i
    · subst hv
      by_cases hl : v < (wipeD st vs).length
      · rw [List.getElem?_set_self hl] at e; cases e; rfl
      · rw [List.getElem?_eq_none (by simpa using hl)] at e; cases e
    · rw [List.getElem?_set_ne hv] at e
      rcases List.mem_cons.mp h with h | h
      · exact absurd h.symm hv
      · exact wipeD_in h s e
theorem wipeD_out {st : DSt} {i : Nat} : ∀ {vs : List Nat}, i ∉ vs → (wipeD st vs)[i]? = st[i]?
  | [], _ => rfl
  | v :: vs, h => by
    unfold wipeD
    rw [List.getElem?_set_ne (fun z => h (by rw [← z]; exact List.mem_cons_self))]
    exact wipeD_out fun z => h (List.mem_cons_of_mem _ z)
theorem wipe_out {σ : L2.St} {i : Nat} : ∀ {vs : List Nat}, i ∉ vs → (wipe σ vs)[i]? = σ[i]?
  | [], _ => rfl
  | v :: vs, h => by
    unfold wipe
    rw [List.getElem?_set_ne (fun z => h (by rw [← z]; exact List.mem_cons_self))]
    exact wipe_out fun z => h (List.mem_cons_of_mem _ z)
theorem backD_out {st0 st : DSt} {i : Nat} : ∀ {vs : List Nat}, i ∉ vs → (backD st0 st vs)[i]? = st[i]?
  | [], _ => rfl
  | v :: vs, h => by
    unfold backD
    rw [List.getElem?_set_ne (fun z => h (by rw [← z]; exact List.mem_cons_self))]
    exact backD_out fun z => h (List.mem_cons_of_mem _ z)
theorem backD_in {st0 st : DSt} {i : Nat} : ∀ {vs : List Nat}, i ∈ vs → ∀ s, (backD st0 st vs)[i]? = some s → s = (st0[i]?).getD .no
  | v :: vs, h, s, e => by
    unfold backD at e
    by_cases hv : v = i
    · subst hv
      by_cases hl : v < (backD st0 st vs).length
      · rw [List.getElem?_set_self hl] at e; cases e; rfl
      · rw [List.getElem?_eq_none (by simpa using hl)] at e; cases e
    · rw [List.getElem?_set_ne hv] at e
      rcases List.mem_cons.mp h with h | h
      · exact absurd h.symm hv
      · exact backD_in h s e
theorem SR.wipe (s : SR g P σ H F st) (vs : List Nat) : SR g P (wipe σ vs) H F (wipeD st vs) := by
  obtain ⟨O, c⟩ := s
  refine ⟨O, c.le, c.rr, c.oo, c.no, by rw [wipe_length, wipeD_length]; exact c.len, fun i s ov e1 e2 => ?_⟩
  by_cases hi : i ∈ vs
  · rw [wipeD_in hi s e1]; trivial
  · rw [wipeD_out hi] at e1
    rw [wipe_out hi] at e2
    exact c.sl i s ov e1 e2
theorem wipe_set {σ : L2.St} {i : Nat} {x : Option V} : ∀ {vs : List Nat}, i ∈ vs → wipe (σ.set i x) vs = wipe σ vs := by
  intro vs hi
  apply List.ext_getElem?
  intro j
  by_cases hj : j ∈ vs
  · have key : ∀ (τ : L2.St) (vs : List Nat), j ∈ vs → (L2.wipe τ vs)[j]? = if j < τ.length then some none else none := by
      intro τ vs
      induction vs with
      | nil => intro h; cases h
      | cons v vs ih =>
        intro h
        unfold L2.wipe
        by_cases hv : v = j
        · subst hv
          by_cases hl : v < τ.length
          · rw [List.getElem?_set_self (by rw [wipe_length]; exact hl), if_pos hl]
          · rw [List.getElem?_eq_none (by simp [wipe_length]; omega), if_neg hl]
        · rw [List.getElem?_set_ne hv]
          rcases List.mem_cons.mp h with h | h
          · exact absurd h.symm hv
          · exact ih h
    rw [key _ _ hj, key _ _ hj, List.length_set]
  · have hij : i ≠ j := fun z => hj (z ▸ hi)
    rw [wipe_out hj, wipe_out hj, List.getElem?_set_ne hij]
theorem wipe_setσ : ∀ {is : List Nat} {xs : List V} {σ : L2.St} {vs : List Nat}, (∀ i ∈ is, i ∈ vs) → wipe (setσ is xs σ) vs = wipe σ vs
  | [], xs, σ, vs, _ => by unfold setσ; rfl
  | i :: is, [], σ, vs, _ => by unfold setσ; rfl
  | i :: is, x :: xs, σ, vs, h => by
    unfold setσ
    rw [wipe_setσ fun j hj => h j (List.mem_cons_of_mem _ hj), wipe_set (h i List.mem_cons_self)]
theorem wipe_wipe (σ : L2.St) (vs : List Nat) : L2.wipe (L2.wipe σ vs) vs = L2.wipe σ vs := by
  have key : ∀ (τ : L2.St) (ws : List Nat), (∀ v ∈ ws, v ∈ vs) → L2.wipe (L2.wipe τ ws) vs = L2.wipe τ vs := by
    intro τ ws
    induction ws with
    | nil => intro _; rfl
    | cons w ws ih =>
      intro h
      show L2.wipe ((L2.wipe τ ws).set w none) vs = _
      rw [wipe_set (h w List.mem_cons_self)]
      exact ih fun v hv => h v (List.mem_cons_of_mem _ hv)
  exact key σ vs fun _ h => h
/-- the new list is guarded while the elements are worked out -/
def gd (P : Par) (D : Addr) (acc : List V) : Par := ⟨P.B, upd P.R D (.lst acc), fun a => P.N a ∨ a = D⟩
theorem SR.guard {D : Addr} {o : HO} {acc : List V} (s : SR g P σ H F st) (h : H D = none) : SR g (gd P D acc) σ (upd H D (.lst acc)) F st := by
  obtain ⟨O, c, o0, f0, r0, n0⟩ := s.newx (o := .lst acc) h
  refine ⟨O, c.le, fun b u e => ?_, fun b i e => ⟨(c.oo b i e).1, ?_, (c.oo b i e).2.2⟩, fun b n => ?_, c.len, fun i s ov e1 e2 => ?_⟩
  · have e : upd P.R D (.lst acc) b = some u := e
    by_cases hb : b = D
    · subst hb; rw [upd_same] at e; rw [← e]; exact upd_same
    · rw [upd_ne hb] at e; exact c.rr b u e
  · have hb : b ≠ D := fun z => by rw [z, o0] at e; cases e
    show upd P.R D (.lst acc) b = none
    rw [upd_ne hb]; exact (c.oo b i e).2.1
  · rcases n with n | rfl
    · exact c.no b n
    · exact ⟨f0, NT.of upd_same⟩
  · exact (c.sl i s ov e1 e2).move rfl (fun _ h => h) (Same.refl _) (fun _ _ _ h => h) fun b o n => fun z => Or.elim z n fun z => by rw [z, o0] at o; cases o
theorem SR.guard_at {D : Addr} {acc : List V} (s : SR g (gd P D acc) σ H F st) : H D = some (.lst acc) := by
  obtain ⟨O, c⟩ := s
  exact c.rr D _ upd_same
theorem SR.reguard {D : Addr} {acc acc' : List V} (s : SR g (gd P D acc) σ H F st) : SR g (gd P D acc') σ (upd H D (.lst acc')) F st := by
  obtain ⟨O, c⟩ := s
  have o0 : O D = none := by
    cases e : O D with
    | none => rfl
    | some i =>
      have := (c.oo D i e).2.1
      have z : upd P.R D (.lst acc) D = none := this
      rw [upd_same] at z; cases z
  have f0 := (c.no D (.inr rfl)).1
  refine ⟨O, fun b u e => ?_, fun b u e => ?_, fun b i e => ?_, fun b n => ?_, c.len, fun i s ov e1 e2 => ?_⟩
  · rw [upd_ne (fun z => by rw [z, f0] at e; cases e)]; exact c.le b u e
  · have e : upd P.R D (.lst acc') b = some u := e
    by_cases hb : b = D
    · subst hb; rw [upd_same] at e; rw [← e]; exact upd_same
    · rw [upd_ne hb] at e ⊢
      exact c.rr b u (by show upd P.R D (.lst acc) b = some u; rw [upd_ne hb]; exact e)
  · have hb : b ≠ D := fun z => by rw [z, o0] at e; cases e
    obtain ⟨h1, h2, h3⟩ := c.oo b i e
    have h2 : upd P.R D (.lst acc) b = none := h2
    rw [upd_ne hb] at h2
    exact ⟨h1, by show upd P.R D (.lst acc') b = none; rw [upd_ne hb]; exact h2, NT.upd hb h3⟩
  · refine ⟨(c.no b n).1, ?_⟩
    by_cases hb : b = D
    · subst hb; exact NT.of upd_same
    · exact NT.upd hb (c.no b n).2
  · exact (c.sl i s ov e1 e2).move rfl (fun _ h => h) (Same.refl _) (fun b o ho h => by rw [upd_ne (fun z => by rw [z, o0] at ho; cases ho)]; exact h) fun _ _ n => n
/-- behind the comprehension -/
theorem SR.unguard {D : Addr} {acc : List V} {H0 F0 : Hp} {st0 : DSt} {vs : List Nat} (s : SR g (gd P D acc) (L2.wipe σ vs) H F st) (s0 : SR g P σ H0 F0 st0) (h0 : H0 D = none) (le : Same F0 F) (hl : st.length = st0.length) (hp : vs.all (plainAt st0) = true) :
    SRx g P σ H F (backD st0 st vs) D := by
  obtain ⟨O, c⟩ := s
  have o0 : O D = none := by
    cases e : O D with
    | none => rfl
    | some i =>
      have z : upd P.R D (.lst acc) D = none := (c.oo D i e).2.1
      rw [upd_same] at z; cases z
  obtain ⟨_, _, _, _, r0, n0⟩ := s0.newx (o := .lst acc) h0
  refine ⟨O, ⟨c.le, fun b u e => ?_, fun b i e => ?_, fun b n => c.no b (.inl n), ?_, fun i sl ov e1 e2 => ?_⟩, o0, (c.no D (.inr rfl)).1, r0, n0⟩
  · have hb : b ≠ D := fun z => by rw [z, r0] at e; cases e
    exact c.rr b u (by show upd P.R D (.lst acc) b = some u; rw [upd_ne hb]; exact e)
  · have hb : b ≠ D := fun z => by rw [z, o0] at e; cases e
    obtain ⟨h1, h2, h3⟩ := c.oo b i e
    have h2 : upd P.R D (.lst acc) b = none := h2
    rw [upd_ne hb] at h2
    exact ⟨h1, h2, h3⟩
  · rw [backD_length]
    have := c.len
    rw [wipe_length] at this
    exact this
  · by_cases hi : i ∈ vs
    · have es := backD_in hi sl e1
      have hpl := List.all_eq_true.mp hp i hi
      unfold plainAt at hpl
      cases e0 : st0[i]? with
      | none => rw [e0] at es; subst es; trivial
      | some s0' =>
        rw [e0] at es hpl
        simp only [Option.getD_some] at es
        subst es
        cases sl with
        | no => trivial
        | sh d =>
          obtain ⟨O0, c0⟩ := s0
          obtain ⟨v, ev, r⟩ := c0.sl i _ ov e0 e2
          exact ⟨v, ev, r.mono le⟩
        | ow ds => cases hpl
        | rf k ds => cases hpl
        | oi k c ns ds => cases hpl
        | o2 dss => cases hpl
        | _ => cases hpl
    · rw [backD_out hi] at e1
      exact (c.sl i sl ov e1 (by rw [wipe_out hi]; exact e2)).move rfl (fun _ h => h) (Same.refl _) (fun _ _ _ h => h) fun _ _ n z => n (.inl z)
theorem comp_imp {vs : List Nat} {t : Tg} {fi : Den (List D)} {test : Den Bool} {elt : Den D} {Q : VK} (hv : ∀ i ∈ t.is, i ∈ vs) (q : tN g W (dComp vs t fi test elt) σ H Q) :
    tLc (tI g W fi) (tG g t) (tT g WN test) (tE g WN elt) vs σ H Q := by
  obtain ⟨P, F, st, s, o⟩ := q
  refine ⟨P, F, st, s, o.bind.imp fun ds st1 H1 F1 le1 s1 o1 J wk D hD => ?_⟩
  split at o1
  · rename_i hc
    obtain ⟨hbig, hpl⟩ := hc
    -- the rest of the walk, from the i-th turn on
    refine ⟨fun i m H => m = ds.length - i ∧ i ≤ ds.length ∧ ∃ F' st' accV acc, Same F1 F' ∧ SR g (gd P D accV) (L2.wipe σ vs) H F' st' ∧ Rl g F' accV acc ∧ acc.length ≤ i ∧ st'.length = st1.length ∧
      ∃ ys stE, compGo vs t test elt (ds.drop i) st' = .ok ys stE ∧ compGo vs t test elt ds (wipeD st1 vs) = .ok (acc ++ ys) stE, ?_, ?_⟩
    · split at o1
      · rename_i ys stE hgo
        exact ⟨ds.length, by simp, Nat.zero_le _, F1, wipeD st1 vs, [], [], Same.refl _, ((s1.wipe vs).guard (o := .lst []) hD), .nil, Nat.zero_le _, wipeD_length _ _, ys, stE, by simpa using hgo, by simpa using hgo⟩
      · exact o1.elim
    · rintro i m H2 ⟨rfl, hi, F', st', accV, acc, le, s', racc, hacc, hlen, ys, stE, hgo, hall⟩
      by_cases hlt : i < ds.length
      · obtain ⟨d0, hd0⟩ : ∃ d, ds[i]? = some d := ⟨ds[i], List.getElem?_eq_getElem hlt⟩
        have hdr : ds.drop i = d0 :: ds.drop (i + 1) := by
          rw [List.drop_eq_getElem_cons hlt]
          have := List.getElem?_eq_getElem hlt
          rw [hd0] at this; rw [← Option.some.inj this]
        rw [hdr] at hgo
        refine .inr ⟨wk.go i H2 (le.trans s'.le) hlt, fun H => ∃ F' st' accV acc, Same F1 F' ∧ SR g (gd P D accV) (L2.wipe σ vs) H F' st' ∧ Rl g F' accV acc ∧ acc.length ≤ i + 1 ∧ st'.length = st1.length ∧
          ∃ ys stE, compGo vs t test elt (ds.drop (i + 1)) st' = .ok ys stE ∧ compGo vs t test elt ds (wipeD st1 vs) = .ok (acc ++ ys) stE, fun H' nx => ⟨ds.length - (i + 1), by omega, rfl, hlt, nx⟩, fun x H' y => ?_⟩
        obtain ⟨d, hd, yy⟩ := wk.yld i H2 x H' (le.trans s'.le) hlt y
        obtain ⟨F', le2, s', rd⟩ := s'.yl le yy
        have le := le.trans le2
        have racc := racc.mono le2
        rw [hd0] at hd; cases hd
        unfold compGo at hgo
        cases hset : setT t d0 st' with
        | none => rw [hset] at hgo; cases hgo
        | some st2 =>
          rw [hset] at hgo
          refine ⟨gd P D accV, F', st', d0, s', rd, st2, hset, fun xs s2 => ⟨?_, ?_⟩⟩
          · rw [wipe_setσ hv, wipe_wipe]
          · refine ⟨gd P D accV, F', st2, s2, ?_⟩
            simp only at hgo
            have lenW : ∀ {σ' : L2.St} {H' F' : Hp} {st3 : DSt}, SR g (gd P D accV) (setσ t.is xs (L2.wipe σ vs)) H' F' st3 → (wipeD st3 vs).length = st1.length := fun {σ' H' F' st3} s3 => by
              rw [wipeD_length]
              have a1 := s3.len
              have a2 := s2.len
              have a3 := s'.len
              have a4 : st2.length = st'.length := by
                have : ∀ is ds (st st' : DSt), setAll is ds st = some st' → st'.length = st.length := by
                  intro is
                  induction is with
                  | nil => intro ds st st' e; cases ds with | nil => cases e; rfl | cons d ds => cases e
                  | cons i is ih =>
                    intro ds st st' e
                    cases ds with
                    | nil => cases e
                    | cons d ds =>
                      unfold setAll at e
                      split at e
                      · rename_i sti hsi
                        obtain ⟨_, rfl⟩ := slotSet_some hsi
                        rw [ih _ _ _ e, List.length_set]
                      · cases e
                unfold setT at hset
                cases t with
                | nm i => obtain ⟨_, rfl⟩ := slotSet_some hset; rw [List.length_set]
                | nms is =>
                  cases d0 with
                  | tup ds => exact this _ _ _ _ hset
                  | _ => cases hset
              omega
            have wp : ∀ {H' F' : Hp} {st3 : DSt}, SR g (gd P D accV) (setσ t.is xs (L2.wipe σ vs)) H' F' st3 → SR g (gd P D accV) (L2.wipe σ vs) H' F' (wipeD st3 vs) := fun {H' F' st3} s3 => by
              have := s3.wipe vs
              rw [wipe_setσ hv, wipe_wipe] at this
              exact this
            revert hgo
            cases test st2 with
            | ok b st3 =>
              intro hgo H3 F3 le3 s3
              cases b with
              | true =>
                rw [if_pos rfl]
                refine ⟨gd P D accV, F3, st3, s3, ?_⟩
                simp only at hgo
                revert hgo
                cases elt st3 with
                | ok y st4 =>
                  intro hgo H4 F4 le4 s4 v rv
                  simp only at hgo
                  have hD4 := s4.guard_at
                  have hb : big = sizeLine := big_eq
                  refine ⟨accV, hD4, by rw [racc.length, ← hb]; omega, F4, wipeD st4 vs, accV ++ [v], acc ++ [y], (le.trans le3).trans le4, (wp s4).reguard, (racc.mono (le3.trans le4)).append (.cons rv .nil), by simp; omega, lenW (σ' := σ) s4, ?_⟩
                  revert hgo
                  cases hr : compGo vs t test elt (ds.drop (i + 1)) (wipeD st4 vs) with
                  | ok ys' st5 =>
                    intro hgo
                    simp only at hgo
                    cases hgo
                    exact ⟨ys', _, rfl, by rw [List.append_assoc]; exact hall⟩
                  | exn c fs st5 => intro hgo; cases hgo
                  | stuck => intro hgo; cases hgo
                | exn c fs st4 => intro hgo; cases hgo
                | stuck => intro hgo; cases hgo
              | false =>
                rw [if_neg Bool.false_ne_true]
                exact ⟨F3, wipeD st3 vs, accV, acc, le.trans le3, wp s3, racc.mono le3, by omega, lenW (σ' := σ) s3, ys, stE, hgo, hall⟩
            | exn c fs st3 => intro hgo; cases hgo
            | stuck => intro hgo; cases hgo
      · have e : i = ds.length := by omega
        subst e
        rw [List.drop_length] at hgo
        cases hgo
        refine .inl ⟨wk.stop H2 (le.trans s'.le), ?_⟩
        rw [hall] at o1
        rw [List.append_nil] at o1
        exact o1 H2 F' D accV le (s'.unguard s1 hD le hlen hpl) s'.guard_at racc
  · exact o1.elim
theorem ev_comp {vs : List Nat} {t : Tg} {fi : Den (List D)} {test : Den Bool} {elt : Den D} (he : PE X e (tLc (tI g W fi) (tG g t) (tT g WN test) (tE g WN elt) vs)) (hv : ∀ i ∈ t.is, i ∈ vs := by decide) : PE X e (tN g W (dComp vs t fi test elt)) := he.imp fun _ _ _ q => comp_imp hv q
end
end DL
namespace DL
open PySem PySem.Spec PyProof.Rows L2
def tyName : D → Option String
  | .non => some "NoneType"
  | .bl _ => some "bool"
  | .int _ => some "int"
  | .str _ => some "str"
  | .lst _ => some "list"
  | .tup _ => some "tuple"
  | _ => none
/-- the built-in type T of a value; a truth value is an int -/
@[simp] def isTy (T : String) : D → Option Bool
  | .non => some (T == "NoneType")
  | .bl _ => some (T == "bool" || T == "int")
  | .int _ => some (T == "int")
  | .str _ => some (T == "str")
  | .lst _ => some (T == "list")
  | .tup _ => some (T == "tuple")
  | _ => none
def okTy (T : String) : Bool := T == "int" || T == "bool" || T == "str" || T == "list" || T == "tuple"
theorem kit_tys {T : String} (h : okTy T = true) {d : D} {b : Bool} (e : isTy T d = some b) : ∃ tn, tyName d = some tn ∧ ∀ K, PySem.W.kitOne K (.type tn) (.type T) = some b := by
  have hT : T = "int" ∨ T = "bool" ∨ T = "str" ∨ T = "list" ∨ T = "tuple" := by
    simpa [okTy, or_assoc] using h
  have key : ∀ tn b, kitB tn T = some b → ∀ K, PySem.W.kitOne K (.type tn) (.type T) = some b := fun tn b h K => kit_ty h
  rcases hT with rfl | rfl | rfl | rfl | rfl <;> cases d <;> cases e <;> first
    | exact ⟨_, rfl, key _ _ (by decide +kernel)⟩
theorem tyX_of {g : G} {H F : Hp} {v : V} {d : D} {tn : String} (l : Same F H) (r : Br g F H v d) (e : tyName d = some tn) : TyX g.K H v (.type tn) := by
  cases d with
  | non => cases e; cases r.non; exact .base .non
  | bl b => cases e; cases r.bl; exact .base (.bl b)
  | int b => cases e; cases r.int; exact .base (.int b)
  | str b => cases e; cases r.str; exact .base (.str b)
  | lst xs => cases e; obtain ⟨a, vs, rfl, h, _⟩ := r.lst l; exact .base (.lst h)
  | tup xs =>
    cases e
    obtain ⟨a, vs, rfl, h, _⟩ := r.tup l
    rcases h with (h | ⟨o, h⟩) | ⟨o, its, n, h1, h2, _⟩
    · exact .base (.tup h)
    · exact .fTuple h
    · exact .kTuple h1 h2
  | ins c ns ds => cases e
  | scr ns => cases e
  | kt ns => cases e
@[simp] def opIsi (T : String) (d : D) : Option D := match isTy T d with | some b => some (.bl b) | none => none
theorem vo_isi {g : G} {T : String} (h : okTy T = true) : VO1 g (fun v => rIsi g.K [v, .ty T]) (opIsi T) := by
  intro H F v d z l rd hz Q q
  unfold opIsi at hz
  split at hz
  · rename_i b hb
    cases hz
    obtain ⟨tn, e1, e2⟩ := kit_tys h hb
    exact ⟨v, .ty T, .type tn, .type T, b, rfl, .ty T, tyX_of l rd e1, e2 _, q _ _ _ (Grow.refl l) (.bl _)⟩
  · cases hz
@[simp] def opIsi2 (T U : String) (d : D) : Option D := match isTy T d, isTy U d with | some b, some c => some (.bl (b || c)) | _, _ => none
theorem vo_isi2 {g : G} {T U : String} (h : okTy T = true) (h' : okTy U = true) : ∀ (H F : Hp) (v : V) (d z : D), Same F H → Br g F H v d → opIsi2 T U d = some z → ∀ Q : VK, (∀ H' F', Grow H F H' F' → ∀ v', Rv g F' v' z → Q v' H') → ∀ p, H p = none → rIsiT g.K [v, .ref p] (upd H p (.tup [.ty T, .ty U])) Q := by
  intro H F v d z l rd hz Q q p hp
  unfold opIsi2 at hz
  split at hz
  · rename_i b c hb hc
    cases hz
    obtain ⟨tn, e1, e2⟩ := kit_tys h hb
    obtain ⟨tn', e1', e2'⟩ := kit_tys h' hc
    rw [e1] at e1'; cases e1'
    have gr := Grow.new0 (o := .tup [.ty T, .ty U]) l hp
    have rd' : Br g F (upd H p (.tup [.ty T, .ty U])) v d := by
      rcases rd with rd | ⟨a, vs, ds, e1, e2, h1, r⟩
      · exact .inl rd
      · exact .inr ⟨a, vs, ds, e1, e2, gr.h _ _ h1, r⟩
    refine ⟨v, p, [.ty T, .ty U], .type tn, [.type T, .type U], b || c, rfl, upd_same, .cons (.ty T) (.cons (.ty U) .nil), tyX_of gr.i rd' e1, ?_, q _ _ gr _ (.bl _)⟩
    refine kitAny_cons (e2 _) (fun hb => kitAny_cons (e2' _) (fun hc => by rw [hb, hc]; exact kitAny_nil) fun hc => by rw [hc]; simp) fun hb => by rw [hb]; rfl
  · cases hz
/-- an own class c at C: what isinstance asks -/
structure IsF (g : G) (c : Str) (C : Addr) : Prop where
  gC : g.mg c = some (.ref C)
  cl : Cls g.K C
  ha : PySem.W.findIn g.K (.ref C) "__class__" = some (some (.builtin "object.__class__"))
  hn : PySem.W.specialIn g.K (.builtin "object.__class__") "__get__" = some (some (.builtin "getset_descriptor.__get__"))
  htk : PySem.W.takesIn g.K (.builtin "object.__class__") = some true
  hm : PySem.W.mroIn g.K C (.type "object") = some true
  tys : ∀ tn ∈ ["NoneType", "bool", "int", "str", "list", "tuple"], PySem.W.kitOne g.K (.type tn) (.ref C) = some false
@[simp] def opIsC (c : Str) : D → Option D
  | .ins c' _ _ => if c' = c then some (.bl true) else none
  | d => match tyName d with | some _ => some (.bl false) | none => none
theorem vo_isC {g : G} {c : Str} {C : Addr} (f : IsF g c C) : VO1 g (fun v => rIsi g.K [v, .ref C]) (opIsC c) := by
  intro H F v d z l rd hz Q q
  have other : ∀ tn, tyName d = some tn → tn ∈ ["NoneType", "bool", "int", "str", "list", "tuple"] → z = .bl false → rIsi g.K [v, .ref C] H Q := fun tn e hm hz => by
    subst hz
    exact ⟨v, .ref C, .type tn, .ref C, false, rfl, .own C, tyX_of l rd e, f.tys tn hm, q _ _ _ (Grow.refl l) (.bl _)⟩
  cases d with
  | ins c' ns ds =>
    simp only [opIsC] at hz
    split at hz
    · rename_i hc
      cases hz
      subst hc
      rcases rd with rd | ⟨_, _, _, _, e, _⟩
      · cases rd with
        | ins h1 h2 h3 h4 =>
          rw [f.gC] at h2
          cases h2
          refine ⟨_, .ref _, .ref C, .ref C, true, rfl, .own C, .base (.ins (l _ _ h1) f.cl f.ha f.hn f.htk f.hm), ?_, q _ _ _ (Grow.refl l) (.bl _)⟩
          unfold PySem.W.kitOne
          rw [if_pos (by simp)]
      · cases e
    · cases hz
  | scr ns => cases hz
  | kt ns => cases hz
  | _ => exact other _ rfl (by simp) (by cases hz; rfl)
@[simp] def getN : List Str → List D → Str → Option D
  | n :: ns, d :: ds, f => if f == n then some d else getN ns ds f
  | _, _, _ => none
theorem getN_rl {g : G} {F : Hp} {f : Str} {z : D} : ∀ {ns : List Str} {vs : List V} {ds : List D}, Rl g F vs ds → getN ns ds f = some z → ∃ v, (ns.zip vs).lookup f = some v ∧ Rv g F v z
  | [], _, _, _, e => by cases e
  | n :: ns, _, _, .nil, e => by cases e
  | n :: ns, v :: vs, d :: ds, .cons r t, e => by
    unfold getN at e
    rw [List.zip_cons_cons, List.lookup_cons]
    cases hf : f == n with
    | true => rw [hf] at e; cases e; exact ⟨v, rfl, r⟩
    | false => rw [hf] at e; exact getN_rl t e
@[simp] def opFld (c f : Str) : D → Option D
  | .ins c' ns ds => if c' = c then getN ns ds f else none
  | _ => none
structure ClsF (g : G) (c : Str) (C : Addr) : Prop where
  gC : g.mg c = some (.ref C)
  cl : Cls g.K C
theorem vo_fld {g : G} {c f : Str} {C : Addr} (k : ClsF g c C) (na : NoAttr g.K C f) {H F : Hp} {v : V} {d z : D} (l : Same F H) (rd : Rv g F v d) (hz : opFld c f d = some z) :
    ∃ a dx fs v', v = .ref a ∧ H a = some (.ins C dx fs) ∧ fs.lookup f = some v' ∧ Rv g F v' z := by
  cases d with
  | ins c' ns ds =>
    simp only [opFld] at hz
    split at hz
    · rename_i hc
      subst hc
      cases rd with
      | ins h1 h2 h3 h4 =>
        rw [k.gC] at h2
        cases h2
        obtain ⟨v', e1, e2⟩ := getN_rl h4 hz
        exact ⟨_, _, _, v', rfl, l _ _ h1, e1, e2⟩
    · cases hz
  | _ => cases hz
section
variable {X : Cx} {g : G} {W : WX} {P : Par} {σ : L2.St} {H F : Hp} {st : DSt} {e : Expr} {s : Stmt} {ss : List Stmt} {f h : Den D}
theorem ev_fld {c n : Str} {C : Addr} (k : ClsF g c C) (na : NoAttr g.K C n) (he : PE X e (tFld g.K (tE g W f) n)) : PE X e (tE g W (dOp1 (opFld c n) f)) := he.imp fun σ H Q ⟨P, F, st, s, o⟩ =>
  ⟨P, F, st, s, o.bind.imp fun x st1 H1 F1 le1 s1 o1 v rx => by
    obtain ⟨z, ez, q⟩ := o1.lift
    obtain ⟨a, dx, fs, v', rfl, h1, h2, h3⟩ := vo_fld k na s1.le rx ez
    exact ⟨a, C, dx, fs, v', rfl, h1, k.cl, na, h2, q H1 F1 (Same.refl _) s1 v' h3⟩⟩
/-- isinstance(x, T), isinstance(x, (T, U)), isinstance(x, C) -/
theorem ev_isi {T : String} (h : okTy T = true) (he : PE X e (tCB (rIsi g.K) (tCons (tE g W f) (tCons (tC (.ty T)) tNil)))) : PE X e (tE g W (dOp1 (opIsi T) f)) := he.imp fun σ H Q ⟨P, F, st, s, o⟩ =>
  ⟨P, F, st, s, o.bind.imp fun x st1 H1 F1 le1 s1 o1 v rx => fin1 (vo_isi h) s1 (.inl rx) o1⟩
theorem ev_isC {c : Str} {C : Addr} (k : IsF g c C) (he : PE X e (tCB (rIsi g.K) (tCons (tE g W f) (tCons (tC (.ref C)) tNil)))) : PE X e (tE g W (dOp1 (opIsC c) f)) := he.imp fun σ H Q ⟨P, F, st, s, o⟩ =>
  ⟨P, F, st, s, o.bind.imp fun x st1 H1 F1 le1 s1 o1 v rx => fin1 (vo_isC k) s1 (.inl rx) o1⟩
theorem ev_isi2 {T U : String} (h : okTy T = true) (h' : okTy U = true) (he : PE X e (tCB (rIsiT g.K) (tCons (tE g W f) (tCons (tTup (tCons (tC (.ty T)) (tCons (tC (.ty U)) tNil))) tNil)))) : PE X e (tE g W (dOp1 (opIsi2 T U) f)) := he.imp fun σ H Q ⟨P, F, st, s, o⟩ =>
  ⟨P, F, st, s, o.bind.imp fun x st1 H1 F1 le1 s1 o1 v rx => by
    obtain ⟨z, ez, q⟩ := o1.lift
    exact ⟨by show 2 ≤ sizeLine; decide, fun p hp => vo_isi2 h h' H1 F1 v x z s1.le (.inl rx) ez Q (fun H' F' gr v' rv => q H' F' gr.f (s1.grow gr) v' rv) p hp⟩⟩
def tO (g : G) (W : WX) (fo : Den (Option Int)) : TO := fun σ H Q => ∃ P F st, SR g P σ H F st ∧ Out g W P σ F (fo st) fun o _ H' _ => Q o H'
@[simp] def asI : D → Option Int
  | .int i => some i
  | _ => none
@[simp] def dNoP : Den (Option Int) := retD none
@[simp] def dPart (f : Den D) : Den (Option Int) := bindD f fun d => liftO (match asI d with | some i => some (some i) | none => none)
theorem _root_.L2.PO.imp {X : Cx} {e : Option Expr} {t t' : TO} (h : PO X e t) (i : ∀ σ H Q, t' σ H Q → t σ H Q) : PO X e t' := ⟨fun pins s σ H Q I q => h.run pins s σ H Q I (i σ H Q q)⟩
theorem eo_none : PO X none (tO g W dNoP) := (po_none (X := X)).imp fun σ H Q ⟨P, F, st, s, o⟩ => o H F (Same.refl _) s
theorem eo_some {e : Expr} (he : PE X e (tE g W f)) : PO X (some e) (tO g W (dPart f)) := (po_some he).imp fun σ H Q ⟨P, F, st, s, o⟩ =>
  ⟨P, F, st, s, o.bind.imp fun x st1 H1 F1 le1 s1 o1 v rx => by
    obtain ⟨z, ez, q⟩ := o1.lift
    cases x with
    | int i => cases ez; cases rx; exact ⟨i, rfl, q H1 F1 (Same.refl _) s1⟩
    | _ => cases ez⟩
def cutD {α : Type} (xs : List α) (lo hi : Option Int) : List α := (xs.drop (HT.sIx xs.length 0 lo)).take (HT.sIx xs.length xs.length hi - HT.sIx xs.length 0 lo)
theorem cut_rl {vs : List V} {ds : List D} (lo hi : Option Int) (r : Rl g F vs ds) : Rl g F (cutV vs lo hi) (cutD ds lo hi) := by
  unfold cutV cutD
  rw [r.length]
  exact (r.drop _).take _
@[simp] def opSl (d : D) (lo hi : Option Int) : Option D := match d with
  | .lst xs => some (.lst (cutD xs lo hi))
  | .tup xs => some (.tup (cutD xs lo hi))
  | .scr ns => some (.lst (cutD (ns.map D.int) lo hi))
  | _ => none
def rSlD (K : PySem.W.Frag) : V → Option Int → Option Int → Hp → VK → Prop := fun x lo hi H Q => rSlL K x lo hi H Q ∨ rSlN K x lo hi H Q
theorem sl_D : SlR X (rSlD X.K) := sl_list.or sl_tupN
theorem fin_sl {v : V} {x : D} {lo hi : Option Int} {Q : VK} (s : SR g P σ H F st) (rx : Br g F H v x) (o : Out g W P σ F (liftO (opSl x lo hi) st) fun d _ H' F' => ∀ v, Rv g F' v d → Q v H') : rSlD g.K v lo hi H Q := by
  obtain ⟨z, ez, q⟩ := o.lift
  cases x with
  | lst xs =>
    cases ez
    obtain ⟨a, vs, rfl, h1, r1⟩ := rx.lst s.le
    exact .inl ⟨a, vs, rfl, sqL_of h1, fun p hp => q _ _ (Grow.new s.le hp).f (s.grow (Grow.new s.le hp)) _ (.lst upd_same ((cut_rl lo hi r1).mono (Grow.new s.le hp).f))⟩
  | tup xs =>
    cases ez
    obtain ⟨a, vs, rfl, h1, r1⟩ := rx.tup s.le
    refine .inr ⟨a, vs, rfl, h1, fun hw => ?_, fun _ => newT s.le (cut_rl lo hi r1) fun v' H' F' gr rv => q _ _ gr.f (s.grow gr) _ rv⟩
    rw [r1.length] at hw
    have e : cutD xs lo hi = xs := by
      unfold cutD
      rw [hw.1, hw.2]
      simp
    rw [e] at q
    rcases rx with rx | ⟨_, _, _, _, z, _⟩
    · exact q H F (Same.refl _) s _ rx
    · cases z
  | scr ns =>
    cases ez
    rcases rx with rx | ⟨_, _, _, _, z, _⟩
    · cases rx with
      | scr h1 =>
        exact .inl ⟨_, _, rfl, sqL_mono s.le h1, fun p hp => q _ _ (Grow.new s.le hp).f (s.grow (Grow.new s.le hp)) _ (.lst upd_same (cut_rl lo hi (Rl.of_ints ns)))⟩
    · cases z
  | _ => cases ez
@[simp] def dSl (a : Den D) (lo hi : Den (Option Int)) : Den D := bindD a fun x => bindD lo fun l => bindD hi fun u => liftO (opSl x l u)
@[simp] def dSln (i : Nat) (lo hi : Den (Option Int)) : Den D := bindD (dRd i) fun _ => bindD lo fun l => bindD hi fun u => bindD (dRd i) fun x => liftO (opSl x l u)
theorem ev_sln {i : Nat} {lo hi : Den (Option Int)} (he : PE X e (tSl (rSlD g.K) (tVar i) (tO g W lo) (tO g W hi))) : PE X e (tE g W (dSln i lo hi)) := he.imp fun σ H Q ⟨P, F, st, s, o⟩ => by
  obtain ⟨v, d, hv, _, o1⟩ := o.rd s
  refine ⟨v, hv, P, F, st, s, o1.bind.imp fun l st2 H2 F2 le2 s2 o2 => ⟨P, F2, st2, s2, o2.bind.imp fun u st3 H3 F3 le3 s3 o3 => ?_⟩⟩
  obtain ⟨v', d', hv', rx, o4⟩ := o3.rd s3
  rw [hv] at hv'; cases hv'
  exact fin_sl s3 rx o4
theorem rgV_rl (F : Hp) (a b : Int) : Rl g F (rgV a b) ((List.range (b - a).toNat).map fun k => D.int (a + (k : Nat))) := by
  unfold rgV
  generalize List.range (b - a).toNat = l
  induction l with
  | nil => exact .nil
  | cons x l ih => exact .cons (.int _) ih
@[simp] def dRg1 (f : Den D) : Den (Int × Int) := bindD f fun d => liftO (match asI d with | some n => if n.natAbs ≤ big then some (0, n) else none | none => none)
@[simp] def dRg2 (f h : Den D) : Den (Int × Int) := bindD f fun d => bindD h fun e => liftO (match asI d, asI e with | some m, some n => if 0 ≤ m ∧ m ≤ big ∧ 0 ≤ n ∧ n ≤ big then some (m, n) else none | _, _ => none)
def rgL (r : Int × Int) : List D := (List.range (r.2 - r.1).toNat).map fun k => D.int (r.1 + (k : Nat))
@[simp] def dLstRg (f : Den (Int × Int)) : Den (List D) := bindD f fun r => if r.2 ≤ big then retD (rgL r) else fun _ => .stuck
@[simp] def dTupRg (f : Den (Int × Int)) : Den D := bindD f fun r => if r.2 ≤ big then retD (.tup (rgL r)) else fun _ => .stuck
theorem rg_ok {r : Int × Int} (h0 : r.1 = 0 ∧ r.2.natAbs ≤ big ∨ 0 ≤ r.1 ∧ r.1 ≤ big ∧ 0 ≤ r.2 ∧ r.2 ≤ big) : RgOk r.1 r.2 := by
  have : big = 16777216 := rfl
  rcases h0 with ⟨h0, h1⟩ | ⟨h0, h1, h2, h3⟩
  · rw [h0]; exact ⟨by omega, by omega, by omega, by omega, by omega⟩
  · exact ⟨by omega, by omega, by omega, by omega, by omega⟩
def PRgImp (X : Cx) (e : Expr) (t t' : L2.St → Hp → (Int → Int → Hp → Prop) → Prop) (h : PRg X e t) (i : ∀ σ H Q, t' σ H Q → t σ H Q) : PRg X e t' := fun pins s σ H Q I q => h pins s σ H Q I (i σ H Q q)
/-- .. with what makes them good -/
def tRgK (g : G) (W : WX) (f : Den (Int × Int)) : L2.St → Hp → (Int → Int → Hp → Prop) → Prop := fun σ H Q => ∃ P F st, SR g P σ H F st ∧ Out g W P σ F (f st) fun r _ H' _ => RgOk r.1 r.2 → Q r.1 r.2 H'
theorem erg1 (he : PRg X e (tRg1 (tE g W f))) : PRg X e (tRgK g W (dRg1 f)) := PRgImp X e _ _ he fun σ H Q ⟨P, F, st, s, o⟩ =>
  ⟨P, F, st, s, o.bind.imp fun x st1 H1 F1 le1 s1 o1 v rx => by
    obtain ⟨z, ez, q⟩ := o1.lift
    cases x with
    | int n =>
      simp only [asI] at ez
      split at ez
      · rename_i hn
        cases ez; cases rx
        exact ⟨n, rfl, q H1 F1 (Same.refl _) s1 (rg_ok (.inl ⟨rfl, hn⟩))⟩
      · cases ez
    | _ => cases ez⟩
theorem evN_rg {fr : Den (Int × Int)} (he : PE X e (tLstRg (tRgK g W fr))) : PE X e (tN g W (dLstRg fr)) := he.imp fun σ H Q ⟨P, F, st, s, o⟩ =>
  ⟨P, F, st, s, o.bind.imp fun r st1 H1 F1 le1 s1 o1 ok => ⟨ok, fun p hp => by
    split at o1
    · exact o1 _ F1 p _ (Same.refl _) (s1.newx hp) upd_same (rgV_rl F1 r.1 r.2)
    · exact o1.elim⟩⟩
theorem ev_tupRg {fr : Den (Int × Int)} (he : PE X e (tTupRgN (tRgK g W fr))) : PE X e (tE g W (dTupRg fr)) := he.imp fun σ H Q ⟨P, F, st, s, o⟩ =>
  ⟨P, F, st, s, o.bind.imp fun r st1 H1 F1 le1 s1 o1 ok => ⟨ok, by
    split at o1
    · exact newT s1.le (rgV_rl F1 r.1 r.2) fun v' H' F' gr rv => o1 _ _ gr.f (s1.grow gr) _ rv
    · exact o1.elim⟩⟩
@[simp] def dMeth (c : Str) (m : Str) (df : List D → M D) (a : Den D) (fa : Den (List D)) : Den D := bindD a fun x => match x with
  | .ins c' ns ds => if c' = c ∧ (getN ns ds m).isNone ∧ ns.length = ds.length then bindD fa fun ys => fun st => match df (x :: ys) with | .ok d => .ok d st | _ => .stuck else fun _ => .stuck
  | _ => fun _ => .stuck
end
section
variable {P : Program} {w : World} {K : PySem.W.Frag} {mg : Str → Option Value} {base : Heap} {x qual : Str} {params : Arguments} {body : List Stmt} {scope : Scope} {f : Addr} {fd : FuncData} {N ps : List Str} {k : Nat}
theorem fn_data {b : DS} (F : FunD K x qual params body scope [] [] f fd) (S : FnScope N ps scope) (hp : ps.length ≤ N.length)
    (hbody : ∀ (cdv : Value) (A : Around) (outer : List Env) (s : Shared) (H : Hp) (E : XK), Room k (A.deeper (envOfC qual scope s.heap.objs.size f cdv)) →
      Takes (cxOf (L2.CX P w) P w K mg base N qual scope f cdv A outer s H E) (fun cls dd _ H => E cls dd H) →
      PassesOwn (model P w) (cxOf (L2.CX P w) P w K mg base N qual scope f cdv A outer s H E).A (cxOf (L2.CX P w) P w K mg base N qual scope f cdv A outer s H E).env (cxOf (L2.CX P w) P w K mg base N qual scope f cdv A outer s H E).xe →
      PSs (cxOf (L2.CX P w) P w K mg base N qual scope f cdv A outer s H E) body (tS ⟨K, mg, none, tk⟩ (fun cls dd _ H => E cls dd H) b)) :
    FnOk P w K mg base (L2.CX P w) (k + 1) f fd ps (spD ⟨K, mg, none, tk⟩ (runF ps.length N.length b)) :=
  F.ok S (fun vs H Q E h => spD_len h) fun cdv A outer s H vs Q E hr h => ⟨_, hbody cdv A outer s H E hr (takes_of rfl rfl rfl rfl) (passes_of rfl), body_ok rfl hp (spD_len h) h⟩
theorem fn_dataR {y : Str} {b : DS} (F : FunD K x qual params body scope [] [] f fd) (S : FnScope (y :: N) ps scope) (hp : ps.length ≤ (y :: N).length)
    (hbody : ∀ (cdv : Value) (A : Around) (outer : List Env) (s : Shared) (H : Hp) (E : XK), Room k (A.deeper (envOfC qual scope s.heap.objs.size f cdv)) →
      Takes (cxOf (L2.CX P w) P w K mg base (y :: N) qual scope f cdv A outer s H E) (fun cls dd _ H => E cls dd H) →
      PassesOwn (model P w) (cxOf (L2.CX P w) P w K mg base (y :: N) qual scope f cdv A outer s H E).A (cxOf (L2.CX P w) P w K mg base (y :: N) qual scope f cdv A outer s H E).env (cxOf (L2.CX P w) P w K mg base (y :: N) qual scope f cdv A outer s H E).xe →
      PSs (cxOf (L2.CX P w) P w K mg base (y :: N) qual scope f cdv A outer s H E) body (tS ⟨K, mg, none, tk⟩ (fun cls dd _ H => E cls dd H) b)) :
    FnOk P w K mg base (L2.CX P w) (k + 1) f fd ps (spR ⟨K, mg, none, tk⟩ (runR ps.length (y :: N).length b)) :=
  F.ok S (fun vs H Q E h => spR_len h) fun cdv A outer s H vs Q E hr h => ⟨_, hbody cdv A outer s H E hr (takes_of rfl rfl rfl rfl) (passes_of rfl), body_okR rfl hp (spR_len h) h⟩
end
end DL
namespace DL
open PySem PySem.Spec PyProof.Rows L2
@[simp] def sSelf (i : Nat) (cn n : Str) (f : Den D) : DS := bindD f fun v => fun st => match st[i]? with
  | some (.oi k c ns ds) => if c ≠ cn ∨ n ∈ ns ∨ ns.length ≠ ds.length ∨ 100 ≤ ns.length then .stuck else .ok .nx (st.set i (.oi k c (ns ++ [n]) (ds ++ [v])))
  | _ => .stuck
theorem putF_new {f : Str} {v : V} : ∀ {ns : List Str} {vs : List V}, f ∉ ns → ns.length = vs.length → putF f v (ns.zip vs) = (ns ++ [f]).zip (vs ++ [v])
  | [], [], _, _ => rfl
  | n :: ns, [], _, e => by cases e
  | [], v :: vs, _, e => by cases e
  | n :: ns, u :: vs, h, e => by
    have hn : n ≠ f := fun z => h (by rw [z]; exact List.mem_cons_self)
    show putF f v ((n, u) :: ns.zip vs) = (n, u) :: ((ns ++ [f]).zip (vs ++ [v]))
    unfold putF
    rw [if_neg hn, putF_new (fun z => h (List.mem_cons_of_mem _ z)) (by simpa using e)]
def spI (g : G) (c : Str) (df : List D → M (List Str × List D)) : Sp := fun vs H Q E => ∃ F a C dx us ds, vs = .ref a :: us ∧ Same F H ∧ F a = none ∧ g.mg c = some (.ref C) ∧ H a = some (.ins C dx []) ∧ Rl g F us ds ∧ match df ds with
  | .ok r => ∀ H' F' ws' dx', Same F F' → Same F' H' → (∀ b, NT H b → F b = none → F' b = none) → (∀ b o, b ≠ a → H b = some o → H' b = some o) → H' a = some (.ins C dx' (r.1.zip ws')) → F' a = none → r.1.length = ws'.length → Rl g F' ws' r.2 → Q .non H'
  | .exn c fs => ∀ cls dd H' F', Same F F' → Same F' H' → (∀ b, NT H b → F b = none → F' b = none) → (∀ b o, b ≠ a → H b = some o → H' b = some o) → RepX g F' H' c fs cls dd → E cls dd H'
  | .stuck => False
def runI (c : Str) (m n : Nat) (f : DS) (ds : List D) : M (List Str × List D) := if ds.length + 1 = m then match f (.oi 0 c [] [] :: (ds.map Slot.sh ++ List.replicate (n - ds.length - 1) .no)) with
  | .ok .nx (.oi 0 c' ns xs :: _) => if c' = c then .ok (ns, xs) else .stuck
  | .exn c fs _ => .exn c fs
  | _ => .stuck
  else .stuck
@[simp] def makeM (c : Str) (df : List D → M (List Str × List D)) (ds : List D) : M D := match df ds with
  | .ok r => .ok (.ins c r.1 r.2)
  | .exn c fs => .exn c fs
  | .stuck => .stuck
section
variable {X : Cx} {g : G} {W : WX} {P : Par} {σ : L2.St} {H F : Hp} {st : DSt} {e : Expr} {s : Stmt} {ss : List Stmt} {f h : Den D}
theorem spI_len {c : Str} {m n : Nat} {f : DS} {vs : List V} {Q : VK} {E : XK} (h : spI g c (runI c m n f) vs H Q E) : vs.length = m := by
  obtain ⟨F, a, C, dx, us, ds, rfl, le, fa, hc, ha, r, h⟩ := h
  rw [List.length_cons, r.length]
  by_cases hm : ds.length + 1 = m
  · exact hm
  · unfold runI at h
    rw [if_neg hm] at h
    exact h.elim
theorem es_self {i : Nat} {n c : Str} {C : Addr} (k : ClsF g c C) (na : NoAttr g.K C n) (he : PS X s (sFld g.K (tVar i) (tE g W f) n)) : PS X s (tS g W (sSelf i c n f)) := he.imp fun D σ H ⟨P, F, st, s, o⟩ => by
  refine ⟨P, F, st, s, OutS.bind o |>.imp fun v st1 H1 F1 le1 s1 o1 vv rv => ?_⟩
  split at o1
  · rename_i k1 c1 ns ds h1
    split at o1
    · exact o1.elim
    · rename_i hns
      have hcc : c1 = c := by
        rcases Classical.em (c1 = c) with z | z
        · exact z
        · exact absurd (.inl z) hns
      have hn1 : n ∉ ns := fun z => hns (.inr (.inl z))
      have hn2 : ns.length = ds.length := by
        rcases Nat.decEq ns.length ds.length with z | z
        · exact absurd (.inr (.inr (.inl z))) hns
        · exact z
      have hn3 : ns.length < 100 := by
        rcases Nat.lt_or_ge ns.length 100 with z | z
        · exact z
        · exact absurd (.inr (.inr (.inr z))) hns
      obtain ⟨ov, hov⟩ := SRc.nth s1 h1
      obtain ⟨O, c0⟩ := id s1
      obtain ⟨a, C1, dx, vs, rfl, hb, ho, hm, hl, ha, r⟩ := c0.sl i _ _ h1 hov
      subst hcc
      rw [k.gC] at hm
      cases hm
      refine ⟨_, hov, a, C, dx, ns.zip vs, rfl, ha, k.cl, na, ?_, ?_⟩
      · rw [List.length_zip]; omega
      · rw [putF_new hn1 hl]
        have gr : ∀ b o, b ≠ a → H1 b = some o → upd H1 a (.ins C dx ((ns ++ [n]).zip (vs ++ [vv]))) b = some o := fun b o hb e => by rw [upd_ne hb]; exact e
        refine o1 σ _ F1 (Same.refl _) ⟨O, fun b o e => ?_, fun b o e => ?_, fun b j e => ?_, fun b nb => ?_, by rw [List.length_set]; exact c0.len, fun j sl ov e1 e2 => ?_⟩
        · rw [upd_ne (fun z => by subst z; rw [(c0.oo b i ho).1] at e; cases e)]; exact c0.le b o e
        · rw [upd_ne (fun z => by subst z; rw [(c0.oo b i ho).2.1] at e; cases e)]; exact c0.rr b o e
        · refine ⟨(c0.oo b j e).1, (c0.oo b j e).2.1, ?_⟩
          by_cases hb : b = a
          · subst hb; exact NT.of upd_same
          · exact NT.upd hb (c0.oo b j e).2.2
        · refine ⟨(c0.no b nb).1, ?_⟩
          by_cases hb : b = a
          · subst hb; exact NT.of upd_same
          · exact NT.upd hb (c0.no b nb).2
        · have hi : i < st1.length := by
            rcases Nat.lt_or_ge i st1.length with q | q
            · exact q
            · rw [List.getElem?_eq_none q] at h1; cases h1
          by_cases hj : j = i
          · subst hj
            rw [List.getElem?_set_self hi] at e1
            cases e1
            rw [hov] at e2; cases e2
            exact ⟨a, C, dx, vs ++ [vv], rfl, hb, ho, k.gC, by simp [hl], upd_same, r.append (.cons rv .nil)⟩
          · rw [List.getElem?_set_ne (Ne.symm hj)] at e1
            exact (c0.sl j sl ov e1 e2).move rfl (fun _ h => h) (Same.refl _) (fun b o ho' h => gr b o (fun z => hj (by rw [z, ho] at ho'; exact (Option.some.inj ho').symm)) h) fun _ _ h => h
  · exact o1.elim
theorem body_okI {x c : Str} {N ps : List Str} {f : DS} {n : Nat} {vs : List V} {Q : VK} {E : XK} (hn : n = (x :: N).length) (hp : ps.length ≤ (x :: N).length) (hl : vs.length = ps.length) (h : spI g c (runI c ps.length n f) vs H Q E) :
    tS g (fun cls dd _ H => E cls dd H) f { nx := fun _ H' => Q .non H', rt := Q } (L2.start (x :: N) vs) H := by
  obtain ⟨F, a, C, dx, us, ds, rfl, le, fa, hc, ha, r, h⟩ := h
  have hln := r.length
  rw [start_cons]
  refine ⟨⟨[a], fun b => if b = a then none else H b, fun b => NT H b ∧ F b = none⟩, F, .oi 0 c [] [] :: (ds.map Slot.sh ++ List.replicate (n - ds.length - 1) .no), ⟨fun b => if b = a then some 0 else none, le, fun b o e => ?_, fun b i e => ?_, fun a h => ⟨h.2, h.1⟩, ?_, fun i s ov e1 e2 => ?_⟩, ?_⟩
  · by_cases hb : b = a
    · subst hb; simp at e
    · simpa [hb] using e
  · by_cases hb : b = a
    · subst hb; exact ⟨fa, by simp, NT.of ha⟩
    · simp [hb] at e
  · unfold L2.start
    simp only [List.length_append, List.length_map, List.length_replicate, List.length_cons] at *
    omega
  · cases i with
    | zero =>
      simp at e1 e2
      subst e1; subst e2
      exact ⟨a, C, dx, [], rfl, rfl, by simp, hc, rfl, ha, .nil⟩
    | succ i =>
      have q := init_sl (P := ⟨[a], fun b => if b = a then none else H b, fun b => NT H b ∧ F b = none⟩) (H := H) (O := fun b => if b = a then some 0 else none) (N := N) r (n - ds.length - 1) i s ov (by simpa using e1) (by simpa using e2)
      have hs : s = .no ∨ ∃ d, s = .sh d := by
        have e1 : (ds.map Slot.sh ++ List.replicate (n - ds.length - 1) Slot.no)[i]? = some s := by simpa using e1
        rcases List.mem_append.mp (List.mem_of_getElem? e1) with h | h
        · obtain ⟨d, _, e⟩ := List.mem_map.mp h
          exact .inr ⟨d, e.symm⟩
        · exact .inl (List.mem_replicate.mp h).2
      rcases hs with rfl | ⟨d, rfl⟩
      · trivial
      · exact q
  · unfold runI at h
    rw [if_pos (by simp only [List.length_cons] at hl; omega)] at h
    revert h
    cases f (.oi 0 c [] [] :: (ds.map Slot.sh ++ List.replicate (n - ds.length - 1) .no)) with
    | ok fl st' =>
      cases fl with
      | nx =>
        cases st' with
        | nil => exact fun h => h.elim
        | cons s0 st' =>
          cases s0 with
          | oi k c' ns xs =>
            cases k with
            | zero =>
              intro h σ' H' F' le s
              simp only at h
              split at h
              · rename_i r hr
                split at hr
                · rename_i hcc
                  cases hr
                  subst hcc
                  obtain ⟨ov, hov⟩ := SRc.nth (i := 0) s rfl
                  obtain ⟨O, c0⟩ := s
                  obtain ⟨a', C', dx', ws', e1, e2, e3, e4, e5, e6, e7⟩ := c0.sl 0 _ _ rfl hov
                  have : a' = a := by simpa using e2.symm
                  subst this
                  rw [hc] at e4
                  cases e4
                  exact h H' F' ws' dx' le c0.le (fun b h1 h2 => (c0.no b ⟨h1, h2⟩).1) (fun b o hb e => c0.rr b o (by simp [hb, e])) e6 (c0.oo _ _ e3).1 e5 e7
                · cases hr
              · rename_i hr
                split at hr <;> cases hr
              · exact h.elim
            | succ k => exact fun h => h.elim
          | _ => exact fun h => h.elim
      | ret d => exact fun h => h.elim
      | brk => exact fun h => h.elim
      | cnt => exact fun h => h.elim
    | exn c fs st' =>
      intro h cls dd σ' H' F' le s rx
      obtain ⟨O, c0⟩ := s
      exact h cls dd H' F' le c0.le (fun b h1 h2 => (c0.no b ⟨h1, h2⟩).1) (fun b o hb e => c0.rr b o (by simp [hb, e])) rx
    | stuck => exact fun h => h.elim
theorem run_makeS {k : Nat} {f C : Addr} {fd : FuncData} {ps : List Str} {sp : Sp} {E : L2.St → XK} {pins : List (Addr × Obj)} {σ : L2.St} {H : Hp} {s : Shared} {Q : VK} {us : List Value} {vs : List V} (M : Mk X.K C f) (F : FnOk X.prog X.w X.K X.mg X.base (L2.CX X.prog X.w) k f fd ps sp) (hr : Room (k + 1) X.A) (hb : Binds X.K fd ps [])
    (hx : PassesAt (L2.CX X.prog X.w) X σ (E σ)) (I : Inv X pins σ H s) (r : Vals vs us)
    (h : ∀ x dx, H x = none → H dx = none → dx ≠ x → sp (.ref x :: vs) (upd (upd H dx (.own x)) x (.ins C dx [])) (fun v H2 => v = .non ∧ Q (.ref x) H2) (E σ)) :
    wpAny (model X.prog X.w) X.A (call (.ref C) us) (EP X pins σ Q) X.xe s := by
  have hq := h (s.heap.objs.size + 1) s.heap.objs.size (I.hok.fresh (Nat.le_succ _)) (I.hok.fresh (Nat.le_refl _)) (Nat.ne_of_lt (Nat.lt_succ_self _))
  have I2 := Inv.made (C := C) I
  have r2 : Vals (V.ref (s.heap.objs.size + 1) :: vs) (Value.ref (s.heap.objs.size + 1) :: us) := .cons rfl r
  have hl : (Value.ref (s.heap.objs.size + 1) :: us).length = ps.length := by
    have e := r2.length
    rw [F.len _ _ _ _ hq] at e
    exact e.symm
  have b := hb _ (Value.ref (s.heap.objs.size + 1) :: us) I2.kIn (by rw [List.append_nil]; exact hl)
  rw [List.append_nil] at b
  refine wpAny_call (make_map (f := f) I.kIn M.makes M.init (beq_iff_eq.mp M.fn) (codeAny_mono (F.run _ X.stack _ _ ⟨Value.ref (s.heap.objs.size + 1) :: us, []⟩ (Value.ref (s.heap.objs.size + 1) :: us) _ _ (E σ) (hr.make C us [])
    (I2.env0.make C us []) b r2 hq) fun r s' hq' => ?_))
  cases r with
  | error e => exact hx pins _ _ e s' I2 hq'
  | ok fl =>
    cases fl with
    | ret u =>
      obtain ⟨v, H', I3, rv, ev, q3⟩ := I2.after hq'
      subst ev
      exact ⟨rv, ⟨V.ref (s.heap.objs.size + 1), H', I3, rfl, q3⟩⟩
    | next => exact False.elim hq'
    | brk => exact False.elim hq'
    | cont => exact False.elim hq'
def tMakeS (C : Addr) (sp : Sp) (E : L2.St → XK) (t : TA) : TE := fun σ H Q => t σ H fun vs H1 => ∀ x dx, H1 x = none → H1 dx = none → dx ≠ x →
  sp (.ref x :: vs) (upd (upd H1 dx (.own x)) x (.ins C dx [])) (fun v H2 => v = .non ∧ Q (.ref x) H2) (E σ)
theorem pe_makeS {k : Nat} {f C : Addr} {fd : FuncData} {ps : List Str} {sp : Sp} {E : L2.St → XK} {x : Str} {p pos : Pos} {e : Expr} {es : List Expr} {t : TA} (M : Mk X.K C f) (F : FnOk X.prog X.w X.K X.mg X.base (L2.CX X.prog X.w) k f fd ps sp) (hr : Room (k + 1) X.A) (hg : Gl X x) (hm : X.mg x = some (.ref C)) (hb : Binds X.K fd ps []) (hx : ∀ σ, PassesAt (L2.CX X.prog X.w) X σ (E σ))
    (ha : PA X (e :: es) t) (hdb : (x == ("__debug__" : Str)) = false := by decide) (he : starEach (e :: es) X.env = (false, eval e X.env) :: starEach es X.env := by rfl) (hpl : (backTo pos (starEach es X.env)).any (·.1) = false := by rfl) :
    PE X (.Call (.Name x p) (e :: es) [] pos) (tMakeS C sp E t) := by
  refine ⟨fun pins s σ H Q I h => ?_⟩
  refine wpAny_Call_Name_kw (ld_glob I hg hm ?_ hdb)
  refine PySem.W.callWith_K (h₀ := X.base) I.ok.mod.kin M.kp (thn (ha.run pos pins s σ H _ I h) fun us s1 ⟨vs, H1, I1, r, q⟩ => ⟨I1.kIn, ?_⟩) he hpl
  exact run_makeS M F hr hb (hx σ) I1 r q
theorem ev_make {c : Str} {C : Addr} {df : List D → M (List Str × List D)} {fa : Den (List D)} (k : g.mg c = some (.ref C)) (he : PE X e (tMakeS C (spI g c df) (WE W) (tA g W fa))) : PE X e (tE g W (dCall (makeM c df) fa)) := he.imp fun σ H Q ⟨P, F, st, s, o⟩ =>
  ⟨P, F, st, s, o.bind.imp fun ds st1 H1 F1 le1 s1 o1 vs rs x dx hx hdx hne => by
    have hn1 : ∀ {b : Addr} {o : HO}, H1 b = some o → b ≠ x ∧ b ≠ dx := fun e => ⟨(fun z => by subst z; rw [hx] at e; cases e), (fun z => by subst z; rw [hdx] at e; cases e)⟩
    have up : Same H1 (upd (upd H1 dx (.own x)) x (.ins C dx [])) := fun b o e => by rw [upd_ne (hn1 e).1, upd_ne (hn1 e).2]; exact e
    have f0 : F1 x = none := by
      cases e : F1 x with
      | none => rfl
      | some o => rw [s1.le _ _ e] at hx; cases hx
    have nf : ∀ {b : Addr}, NT H1 b → NT (upd (upd H1 dx (.own x)) x (.ins C dx [])) b := fun h => NT.same up h
    refine ⟨F1, x, C, dx, vs, ds, rfl, s1.le.trans up, f0, k, upd_same, rs, ?_⟩
    revert o1
    unfold makeM liftM'
    cases df ds with
    | ok r =>
      intro o1 H' F' ws' dx' a1 a2 a3 a4 a5 a6 a7 a8
      refine ⟨rfl, ?_⟩
      have sf : Same F' (upd F' x (.ins C dx' (r.1.zip ws'))) := fun b o e => by rw [upd_ne (fun z => by subst z; rw [a6] at e; cases e)]; exact e
      have gr : Grow H1 F1 H' (upd F' x (.ins C dx' (r.1.zip ws'))) := by
        refine ⟨fun b o e => a4 b o (hn1 e).1 (up b o e), a1.trans sf, fun b o e => ?_, fun b h1 h2 => ?_⟩
        · by_cases hb : b = x
          · subst hb; rw [upd_same] at e; cases e; exact a5
          · rw [upd_ne hb] at e; exact a2 b o e
        · obtain ⟨u, hu⟩ := h1.get
          rw [upd_ne (hn1 hu).1]
          exact a3 b (nf h1) h2
      exact o1 H' _ gr.f (s1.grow gr) _ (.ins upd_same k a7 (a8.mono sf))
    | exn c' fs =>
      intro o1 cls dd H' F' a1 a2 a3 a4 rx
      have gr : Grow H1 F1 H' F' := ⟨fun b o e => a4 b o (hn1 e).1 (up b o e), a1, a2, fun b h1 h2 => a3 b (nf h1) h2⟩
      exact o1 cls dd H' F' a1 (s1.grow gr) rx
    | stuck => exact fun o1 => o1.elim⟩
@[simp] def sAsg (t : Tg) (f : Den D) : DS := bindD f fun d => fun st => match setT t d st with
  | some st' => .ok .nx st'
  | none => .stuck
theorem es_asg {t : Tg} (he : PS X s (tAsg (tE g W f) (tG g t))) : PS X s (tS g W (sAsg t f)) := he.imp fun D σ H ⟨P, F, st, s, o⟩ =>
  ⟨P, F, st, s, OutS.bind o |>.imp fun d st1 H1 F1 le1 s1 o1 v rv => by
    cases hs : setT t d st1 with
    | none => rw [hs] at o1; exact o1.elim
    | some st2 =>
      rw [hs] at o1
      exact ⟨P, F1, st1, d, s1, rv, st2, hs, fun xs s2 => o1 _ _ F1 (Same.refl _) s2⟩⟩
@[simp] def sPar (i j : Nat) (f h : Den D) : DS := bindD f fun x => bindD h fun y => fun st => match slotSet i (.sh x) st with
  | some st1 => match slotSet j (.sh y) st1 with
    | some st2 => .ok .nx st2
    | none => .stuck
  | none => .stuck
@[simp] def sPar3 (i j l : Nat) (f h k : Den D) : DS := bindD f fun x => bindD h fun y => bindD k fun z => fun st => match slotSet i (.sh x) st with
  | some st1 => match slotSet j (.sh y) st1 with
    | some st2 => match slotSet l (.sh z) st2 with
      | some st3 => .ok .nx st3
      | none => .stuck
    | none => .stuck
  | none => .stuck
end
section
variable {P : Program} {w : World} {K : PySem.W.Frag} {mg : Str → Option Value} {base : Heap} {x qual : Str} {params : Arguments} {body : List Stmt} {scope : Scope} {f : Addr} {fd : FuncData} {N ps : List Str} {k : Nat}
theorem fn_init {y c : Str} {b : DS} (F : FunD K x qual params body scope [] [] f fd) (S : FnScope (y :: N) ps scope) (hp : ps.length ≤ (y :: N).length)
    (hbody : ∀ (cdv : Value) (A : Around) (outer : List Env) (s : Shared) (H : Hp) (E : XK), Room k (A.deeper (envOfC qual scope s.heap.objs.size f cdv)) →
      Takes (cxOf (L2.CX P w) P w K mg base (y :: N) qual scope f cdv A outer s H E) (fun cls dd _ H => E cls dd H) →
      PassesOwn (model P w) (cxOf (L2.CX P w) P w K mg base (y :: N) qual scope f cdv A outer s H E).A (cxOf (L2.CX P w) P w K mg base (y :: N) qual scope f cdv A outer s H E).env (cxOf (L2.CX P w) P w K mg base (y :: N) qual scope f cdv A outer s H E).xe →
      PSs (cxOf (L2.CX P w) P w K mg base (y :: N) qual scope f cdv A outer s H E) body (tS ⟨K, mg, none, tk⟩ (fun cls dd _ H => E cls dd H) b)) :
    FnOk P w K mg base (L2.CX P w) (k + 1) f fd ps (spI ⟨K, mg, none, tk⟩ c (runI c ps.length (y :: N).length b)) :=
  F.ok S (fun vs H Q E h => spI_len h) fun cdv A outer s H vs Q E hr h => ⟨_, hbody cdv A outer s H E hr (takes_of rfl rfl rfl rfl) (passes_of rfl), body_okI rfl hp (spI_len h) h⟩
end
end DL
namespace DL
open PySem PySem.Spec PyProof.Rows L2
def tSO (g : G) (W : WX) (a : DS) (fn : Den (List D)) : TS := fun E σ H => ∃ P F st, SR g P σ H F st ∧ match a st with
  | .ok .nx st' => (match fn st' with
    | .ok ds st2 => ∀ σ' H' F' p vs, Same F F' → SRx g P σ' H' F' st2 p → H' p = some (.lst vs) → Rl g F' vs ds → E.rt (.ref p) H'
    | _ => False)
  | _ => False
def runO (m n : Nat) (a : DS) (fn : Den (List D)) (ds : List D) : Option (List D) := if ds.length = m then match a (ds.map Slot.sh ++ List.replicate (n - ds.length) .no) with
  | .ok .nx st' => (match fn st' with
    | .ok zs _ => some zs
    | _ => none)
  | _ => none
  else none
def spO (g : G) (df : List D → Option (List D)) : Sp := fun vs H Q _ => ∃ F ds zs, Same F H ∧ Rl g F vs ds ∧ df ds = some zs ∧ ∀ p vs' H' F', Grow H F H' F' → H p = none → H' p = some (.lst vs') → F' p = none → Rl g F' vs' zs → Q (.ref p) H'
@[simp] def dCallO (df : List D → Option (List D)) (fa : Den (List D)) : Den (List D) := bindD fa fun ds => liftO (df ds)
section
variable {X : Cx} {g : G} {W : WX} {P : Par} {σ : L2.St} {H F : Hp} {st : DSt} {e : Expr} {s : Stmt} {ss : List Stmt} {f h : Den D} {a b : DS} {fn : Den (List D)}
theorem essO_one (he : PS X s (tRet (tN g W fn))) : PSs X [s] (tSO g W sPass fn) := (pss_one he).imp fun E σ H ⟨P, F, st, s, o⟩ => by
  refine ⟨P, F, st, s, ?_⟩
  have o : (match fn st with
    | .ok ds st2 => ∀ σ' H' F' p vs, Same F F' → SRx g P σ' H' F' st2 p → H' p = some (.lst vs) → Rl g F' vs ds → E.rt (.ref p) H'
    | _ => False) := o
  revert o
  unfold OutN
  cases fn st with
  | ok ds st2 => exact fun o H' F' p vs => o σ H' F' p vs
  | exn c fs st2 => exact fun o => o.elim
  | stuck => exact fun o => o.elim
theorem essO_cons (h1 : PS X s (tS g W a)) (h2 : PSs X ss (tSO g W b fn)) : PSs X (s :: ss) (tSO g W (sSeq a b) fn) := (pss_cons h1 h2).imp fun E σ H ⟨P, F, st, s, o⟩ => by
  refine ⟨P, F, st, s, ?_⟩
  unfold sSeq at o
  revert o
  cases a st with
  | ok fl st1 =>
    cases fl with
    | nx =>
      intro o σ1 H1 F1 le1 s1
      refine ⟨P, F1, st1, s1, ?_⟩
      simp only at o
      revert o
      cases b st1 with
      | ok fl st2 =>
        cases fl with
        | nx =>
          simp only
          cases fn st2 with
          | ok ds st3 => exact fun o σ' H' F' p vs le => o σ' H' F' p vs (le1.trans le)
          | exn c fs st3 => exact fun o => o
          | stuck => exact fun o => o
        | _ => exact fun o => o
      | _ => exact fun o => o
    | _ => exact fun o => o.elim
  | _ => exact fun o => o.elim
theorem body_okO {N ps : List Str} {n : Nat} {vs : List V} {Q : VK} {E : XK} (hn : n = N.length) (hp : ps.length ≤ N.length) (hl : vs.length = ps.length) (h : spO g (runO ps.length n a fn) vs H Q E) :
    tSO g (fun cls dd _ H => E cls dd H) a fn { nx := fun _ H' => Q .non H', rt := Q } (L2.start N vs) H := by
  obtain ⟨F, ds, zs, le, r, h, k⟩ := h
  refine ⟨⟨[], H, fun a => NT H a ∧ F a = none⟩, F, ds.map Slot.sh ++ List.replicate (n - ds.length) .no, ⟨fun _ => none, le, Same.refl _, (fun _ _ e => nomatch e), fun a h => ⟨h.2, h.1⟩, ?_, init_sl r _⟩, ?_⟩
  · have := r.length
    unfold L2.start
    simp only [List.length_append, List.length_map, List.length_replicate]
    omega
  · unfold runO at h
    rw [if_pos (by rw [← r.length]; exact hl)] at h
    revert h
    cases a (ds.map Slot.sh ++ List.replicate (n - ds.length) .no) with
    | ok fl st' =>
      cases fl with
      | nx =>
        simp only
        cases fn st' with
        | ok zs' st2 =>
          intro h σ' H' F' p vs' le s hp rr
          cases h
          obtain ⟨O, c, o0, f0, r0, n0⟩ := s
          exact k p vs' H' F' ⟨c.rr, le, c.le, fun a h1 h2 => (c.no a ⟨h1, h2⟩).1⟩ r0 hp f0 rr
        | exn c fs st2 => exact fun h => nomatch h
        | stuck => exact fun h => nomatch h
      | _ => exact fun h => nomatch h
    | exn c fs st2 => exact fun h => nomatch h
    | stuck => exact fun h => nomatch h
theorem ev_callO {df : List D → Option (List D)} {E : L2.St → XK} {fa : Den (List D)} (he : PE X e (tCallS (spO g df) E (tA g W fa))) : PE X e (tN g W (dCallO df fa)) := he.imp fun σ H Q ⟨P, F, st, s, o⟩ =>
  ⟨P, F, st, s, o.bind.imp fun ds st1 H1 F1 le1 s1 o1 vs rs => by
    cases hz : df ds with
    | none => rw [hz] at o1; exact o1.elim
    | some zs =>
      rw [hz] at o1
      refine ⟨F1, ds, zs, s1.le, rs, hz, fun p vs' H' F' gr hp hp' fp rr => o1 H' F' p vs' gr.f ?_ hp' rr⟩
      obtain ⟨O, c⟩ := s1
      refine ⟨O, c.grow gr, ?_, fp, ?_, fun n => (c.no p n).2.1 hp⟩
      · cases e : O p with
        | none => rfl
        | some i => exact absurd hp (c.oo p i e).2.2.1
      · cases e : P.R p with
        | none => rfl
        | some u => rw [c.rr _ _ e] at hp; cases hp⟩
theorem spO_len {m n : Nat} {vs : List V} {Q : VK} {E : XK} (h : spO g (runO m n a fn) vs H Q E) : vs.length = m := by
  obtain ⟨F, ds, zs, le, r, h, k⟩ := h
  rw [r.length]
  by_cases hm : ds.length = m
  · exact hm
  · unfold runO at h
    rw [if_neg hm] at h
    cases h
end
section
variable {P : Program} {w : World} {K : PySem.W.Frag} {mg : Str → Option Value} {base : Heap} {x qual : Str} {params : Arguments} {body : List Stmt} {scope : Scope} {f : Addr} {fd : FuncData} {N ps : List Str} {k : Nat}
theorem fn_own {b : DS} {fn : Den (List D)} (F : FunD K x qual params body scope [] [] f fd) (S : FnScope N ps scope) (hp : ps.length ≤ N.length)
    (hbody : ∀ (cdv : Value) (A : Around) (outer : List Env) (s : Shared) (H : Hp) (E : XK), Room k (A.deeper (envOfC qual scope s.heap.objs.size f cdv)) →
      Takes (cxOf (L2.CX P w) P w K mg base N qual scope f cdv A outer s H E) (fun cls dd _ H => E cls dd H) →
      PassesOwn (model P w) (cxOf (L2.CX P w) P w K mg base N qual scope f cdv A outer s H E).A (cxOf (L2.CX P w) P w K mg base N qual scope f cdv A outer s H E).env (cxOf (L2.CX P w) P w K mg base N qual scope f cdv A outer s H E).xe →
      PSs (cxOf (L2.CX P w) P w K mg base N qual scope f cdv A outer s H E) body (tSO ⟨K, mg, none, tk⟩ (fun cls dd _ H => E cls dd H) b fn)) :
    FnOk P w K mg base (L2.CX P w) (k + 1) f fd ps (spO ⟨K, mg, none, tk⟩ (runO ps.length N.length b fn)) :=
  F.ok S (fun vs H Q E h => spO_len h) fun cdv A outer s H vs Q E hr h => ⟨_, hbody cdv A outer s H E hr (takes_of rfl rfl rfl rfl) (passes_of rfl), body_okO rfl hp (spO_len h) h⟩
/-- the law: called with the script -/
theorem law_sp {f : DS} {n : Nat} {H : Hp} {a : Addr} {ns : List Int} (hS : SqL K H a (ns.map V.int)) (h : runF 1 n f [.scr ns] = .ok (.bl true)) (E : XK) : spD ⟨K, mg, none, tk⟩ (runF 1 n f) [.ref a] H (fun v _ => v = .bl true) E := by
  refine ⟨H, [.scr ns], Same.refl _, .cons (.scr hS) .nil, ?_⟩
  rw [h]
  intro v H' F' gr rv
  cases rv
  rfl
theorem cx_no {w : World} {H : Hp} {s : Shared} {e : Value} {s' : Shared} (h : L2.CX P w [] H s (fun _ _ _ => False) e s') : False := by
  obtain ⟨_, _, _, _, _, _, _, _, _, _, _, _, z⟩ := h
  exact z
end
end DL
namespace DL
open PySem PySem.Spec PyProof.Rows L2
abbrev AlB : Type := Bool × List He.FnW × List He.FnW
/-- a def without what it closes over -/
def clW (K : PySem.W.Frag) (p : Str × Option Str) : He.FnW := match K.lookup (He.fAd K p) with
  | some ⟨_, _, .func fd, _⟩ => some (fd.name, fd.qualname, fd.params, fd.body, fd.scope, fd.globals, [], fd.builtins)
  | _ => none
def obsB (fa : List He.Fa) (fn xn : List He.DefD) (ex : PySem.W.Frag → Bool) (K : PySem.W.Frag) : AlB := ((fa.all fun f => f.ok K) && ((fn.all fun d => d.ok K) && ex K), fn.map (fun d => He.fnW K d.at_), xn.map fun d => clW K d.at_)
def valB (fn xn : List He.DefD) : AlB := (true, fn.map He.DefD.val, xn.map He.DefD.val)
structure Says (fa : List He.Fa) (fn xn : List He.DefD) (ex : PySem.W.Frag → Bool) (K : PySem.W.Frag) : Prop where
  eq : obsB fa fn xn ex K = valB fn xn
def obsBG (n : Nat) (fa : List He.Fa) (fn xn : List He.DefD) (ex : PySem.W.Frag → Bool) (g : Addr → Option Obj) : AlB := obsB fa fn xn ex (He.frG g (cStatics :: He.asD g n))
def hookB (n : Nat) (fa : List He.Fa) (fn xn : List He.DefD) (ex : PySem.W.Frag → Bool) : PySem.W.Hook where
  α := AlB
  obs := fun s => obsBG n fa fn xn ex s.heap.get?
  val := fun _ => valB fn xn
  says := fun _ h => ∃ K : PySem.W.Frag, K.In h ∧ Says fa fn xn ex K
  of := fun _ _ e => ⟨_, He.frG_in, ⟨e⟩⟩
  keeps := fun _ _ _ ⟨K, hK, c⟩ k => ⟨K, PySem.W.Frag.In.keeps hK k, c⟩
theorem obsBG_eq {n : Nat} {fa : List He.Fa} {fn xn : List He.DefD} {ex : PySem.W.Frag → Bool} {g : Addr → Option Obj} {s : Shared} (h : ∀ a, g a = s.heap.get? a) : obsBG n fa fn xn ex g = (hookB n fa fn xn ex).obs s := by
  have e : g = s.heap.get? := funext h
  rw [e] <;> rfl
section
variable {fa : List He.Fa} {fn xn : List He.DefD} {ex : PySem.W.Frag → Bool} {K : PySem.W.Frag}
theorem Says.fact (c : Says fa fn xn ex K) (i : Nat) {f : He.Fa} (h : fa[i]? = some f := by rfl) : f.ok K = true := by
  have c1 := (He.ba (show ((fa.all fun f => f.ok K) && ((fn.all fun d => d.ok K) && ex K)) = true from congrArg (fun z : AlB => z.1) c.eq)).1
  exact List.all_eq_true.mp c1 f (List.mem_of_getElem? h)
theorem Says.xtra (c : Says fa fn xn ex K) : ex K = true :=
  (He.ba (He.ba (show ((fa.all fun f => f.ok K) && ((fn.all fun d => d.ok K) && ex K)) = true from congrArg (fun z : AlB => z.1) c.eq)).2).2
theorem Says.def_ (c : Says fa fn xn ex K) (i : Nat) {d : He.DefD} (h : fn[i]? = some d := by rfl) : ∃ fd, FunD K d.name d.qual d.params d.body d.scope (d.dvs K) (d.kws K) (He.fAd K d.at_) fd := by
  have c2 := (He.ba (He.ba (show ((fa.all fun f => f.ok K) && ((fn.all fun d => d.ok K) && ex K)) = true from congrArg (fun z : AlB => z.1) c.eq)).2).1
  have e : fn.map (fun d => He.fnW K d.at_) = fn.map He.DefD.val := congrArg (fun z : AlB => z.2.1) c.eq
  have e2 : (fn.map fun d => He.fnW K d.at_)[i]? = (fn.map He.DefD.val)[i]? := by rw [e]
  rw [List.getElem?_map, List.getElem?_map, h] at e2
  exact He.DefD.funD (Option.some.inj e2) (List.all_eq_true.mp c2 d (List.mem_of_getElem? h))
theorem Says.clo (c : Says fa fn xn ex K) (i : Nat) {d : He.DefD} (h : xn[i]? = some d := by rfl) : clW K d.at_ = d.val := by
  have e : xn.map (fun d => clW K d.at_) = xn.map He.DefD.val := congrArg (fun z : AlB => z.2.2) c.eq
  have e2 : (xn.map fun d => clW K d.at_)[i]? = (xn.map He.DefD.val)[i]? := by rw [e]
  rw [List.getElem?_map, List.getElem?_map, h] at e2
  exact Option.some.inj e2
end
structure Fk (P : Program) (w : World) (K : PySem.W.Frag) (mg : Str → Option Value) (base : Heap) (x : Str) (lvl : Nat) (f : Addr) (ps : List Str) (sp : Sp) : Prop where
  ok : ∃ fd, FnOk P w K mg base (L2.CX P w) lvl f fd ps sp ∧ Binds K fd ps []
  gm : mg x = some (.ref f)
  kp : PySem.W.keepIn K (.ref f) = true
section
variable {X : Cx} {x : Str} {lvl : Nat} {f : Addr} {ps : List Str} {sp : Sp} {W : WX} {e : Expr} {es : List Expr} {t : TA} {p pos : Pos}
theorem Fk.pe (F : Fk X.prog X.w X.K X.mg X.base x lvl f ps sp) (hr : Room lvl X.A) (hg : Gl X x) (tk : Takes X W) (ha : PA X (e :: es) t)
    (hdb : (x == ("__debug__" : Str)) = false := by decide) (he : starEach (e :: es) X.env = (false, eval e X.env) :: starEach es X.env := by rfl) (hpl : (backTo pos (starEach es X.env)).any (·.1) = false := by rfl) :
    PE X (.Call (.Name x p) (e :: es) [] pos) (tCallS sp (WE W) t) := by
  obtain ⟨fd, G, b⟩ := F.ok
  exact pe_callS G hr hg F.gm F.kp b (fun σ => passAt tk σ) ha hdb he hpl
/-- a method of data -/
structure Mf (P : Program) (w : World) (K : PySem.W.Frag) (mg : Str → Option Value) (base : Heap) (C : Addr) (m : Str) (lvl : Nat) (f : Addr) (ps : List Str) (sp : Sp) : Prop where
  ok : ∃ fd, FnOk P w K mg base (L2.CX P w) lvl f fd ps sp ∧ Binds K fd ps []
  me : Meth K C m f
variable {C : Addr} {m : Str} {o : Expr} {ta : TE} {apos : Pos}
theorem Mf.pe {pl : Sem Bool} (F : Mf X.prog X.w X.K X.mg X.base C m lvl f ps sp) (hr : Room lvl X.A) (c : Cls X.K C) (he : PE X o ta) (ha : PA X (e :: es) t)
    (hst : starEach (e :: es) X.env = (false, eval e X.env) :: starEach es X.env := by rfl) (hpl : (backTo pos (starEach es X.env)).any (·.1) = false := by rfl)
    (ht : eval (.Call (.Attribute o m apos) (e :: es) [] pos) X.env = (do
      let ov ← eval o X.env
      standAt apos.atName
      let (f, first) ← holding [ov] (getMethod ov m pl)
      callWith pos f first (backTo pos (starEach (e :: es) X.env)) (backToKw pos (keywordEach [] X.env))) := by rfl) :
    PE X (.Call (.Attribute o m apos) (e :: es) [] pos) (tMeth C m sp [] E0 ta t) := by
  obtain ⟨fd, G, b⟩ := F.ok
  exact pe_meth he c F.me G hr b .nil passL ha hst hpl ht
/-- the calls of a class -/
structure Kf (P : Program) (w : World) (K : PySem.W.Frag) (mg : Str → Option Value) (base : Heap) (c : Str) (lvl : Nat) (C f : Addr) (ps : List Str) (sp : Sp) : Prop where
  ok : ∃ fd, FnOk P w K mg base (L2.CX P w) lvl f fd ps sp ∧ Binds K fd ps []
  mkr : Mk K C f
  gm : mg c = some (.ref C)
theorem Kf.pe {c : Str} (F : Kf X.prog X.w X.K X.mg X.base c lvl C f ps sp) (hr : Room (lvl + 1) X.A) (hg : Gl X c) (tk : Takes X W) (ha : PA X (e :: es) t)
    (hdb : (c == ("__debug__" : Str)) = false := by decide) (he : starEach (e :: es) X.env = (false, eval e X.env) :: starEach es X.env := by rfl) (hpl : (backTo pos (starEach es X.env)).any (·.1) = false := by rfl) :
    PE X (.Call (.Name c p) (e :: es) [] pos) (tMakeS C sp (WE W) t) := by
  obtain ⟨fd, G, b⟩ := F.ok
  exact pe_makeS F.mkr G hr hg F.gm b (fun σ => passAt tk σ) ha hdb he hpl
theorem room_u {k : Nat} {A : Around} (r : Room k A) : A.units + 65 < cLine := by have := r.un; omega
theorem room_u4 {k : Nat} {A : Around} (r : Room k A) : A.units + 64 < cLine := by have := r.un; omega
/-- a comprehension stored under a name -/
theorem es_ownLc {g : G} {s : Stmt} {i : Nat} {vs : List Nat} {t : Tg} {fi : Den (List D)} {test : Den Bool} {elt : Den D} (he : PS X s (tAsg (tLc (tI g W fi) (tG g t) (tT g WN test) (tE g WN elt) vs) (gName i))) (hv : ∀ i ∈ t.is, i ∈ vs := by decide) : PS X s (tS g W (sOwn i (dComp vs t fi test elt))) :=
  es_own (he.imp fun D σ H q => comp_imp hv q)
theorem ets_nil {g : G} : PTs X [] (tT g W dYes) := ⟨fun pins s σ H Q I ⟨P, F, st, s0, o⟩ => pts_nil.run pins s σ H Q I (o H F (Same.refl _) s0)⟩
end
end DL
namespace DL
open PySem PySem.Spec PyProof.Rows L2
/-- the end of a law: its def's promise, over the facts of the head -/
theorem law_end {l : PySem.W.OpenLaw} {k n : Nat} {q : Program} {loose : List Str} {XP : (Str → Option Value) → Heap → Prop} {d : PySem.DefRec} {fa : List He.Fa} {fn xn : List He.DefD} {ex : PySem.W.Frag → Bool} {f : DS} {H : Nat}
    (hn : l.most = some 63) (hdf : d.params.defaults = []) (hr : Room k callerA) (hname : d.name = ("law" : Str))
    (F : ∀ (w : World) (K : PySem.W.Frag) (mg : Str → Option Value) (h : Heap), K.In h → h.Ns mainGlobals mg → Says fa fn xn ex K → mg ("law" : Str) = some (.ref (He.fAd K (("law" : Str), none))) ∧
      ∃ fd : FuncData, (∀ (s : Shared) (u : Value), BindsTo s fd ⟨[u], []⟩ [(("_law_script" : Str), u)]) ∧ ∀ base : Heap, FnOk l.prog w K mg base (L2.CX l.prog w) k (He.fAd K (("law" : Str), none)) fd [("_law_script" : Str)] (spD ⟨K, mg, none, tk⟩ (runF 1 n f)))
    (math : ∀ ns : List Int, runF 1 n f [.scr ns] = .ok (.bl true)) :
    PySem.W.WalkO q loose XP (hookB H fa fn xn ex).says l.row.toRowW d [] (fun f vs => PySem.call f vs) := by
  refine Att.attach_call hn hdf fun w s₀ s₁ mg mb fa' o pm cd doc a vs ns G Y ho hd hcd hmg hobj hints hlen hg => ?_
  obtain ⟨K, KX, c⟩ := Y
  rw [hname] at hmg
  obtain ⟨g1, fd, hb, hF⟩ := F w K mg _ KX G.T.g c
  rw [hmg] at g1
  cases g1
  exact law_call KX G.T.g G.T.b G.T.builtins G.T.nolimit hg hobj hints (Nat.le_trans hlen (by decide)) hr (fun base _ _ => hF base) hb (fun H hO hS => law_sp hS (math ns) _) fun H e s' h => cx_no h
def isfB (K : PySem.W.Frag) (c : Str) : Bool := He.eqO (PySem.W.findIn K (.ref (He.ga K c)) "__class__") (some (some (.builtin "object.__class__"))) && (He.eqO (PySem.W.specialIn K (.builtin "object.__class__") "__get__") (some (some (.builtin "getset_descriptor.__get__"))) &&
  (decide (PySem.W.takesIn K (.builtin "object.__class__") = some true) && (decide (PySem.W.mroIn K (He.ga K c) (.type "object") = some true) && ["NoneType", "bool", "int", "str", "list", "tuple"].all fun tn => decide (PySem.W.kitOne K (.type tn) (.ref (He.ga K c)) = some false))))
theorem isfB_ok {K : PySem.W.Frag} {mg : Str → Option Value} {c : Str} (k : ClsF ⟨K, mg, none, tk⟩ c (He.ga K c)) (h : isfB K c = true) : IsF ⟨K, mg, none, tk⟩ c (He.ga K c) := by
  unfold isfB at h
  obtain ⟨h1, h⟩ := He.ba h
  obtain ⟨h2, h⟩ := He.ba h
  obtain ⟨h3, h⟩ := He.ba h
  obtain ⟨h4, h5⟩ := He.ba h
  exact ⟨k.gC, k.cl, He.eqO_ok h1, He.eqO_ok h2, of_decide_eq_true h3, of_decide_eq_true h4, fun tn ht => of_decide_eq_true (List.all_eq_true.mp h5 tn ht)⟩
theorem ev_gint {X : Cx} {g : G} {W : WX} {x : Str} {i : Int} {pos : Pos} (h : ∃ t, X.mg x = some (.int i t)) (hg : Gl X x) (hd : (x == ("__debug__" : Str)) = false := by decide) : PE X (.Name x pos) (tE g W (dC (.int i))) := by
  obtain ⟨t, h⟩ := h
  exact ev_c (pe_glob (v := .int i) hg h ⟨_, rfl⟩ hd) fun _ => .int _
theorem ev_gstr {X : Cx} {g : G} {W : WX} {x i : Str} {pos : Pos} (h : ∃ t, X.mg x = some (.str i t)) (hg : Gl X x) (hd : (x == ("__debug__" : Str)) = false := by decide) : PE X (.Name x pos) (tE g W (dC (.str i))) := by
  obtain ⟨t, h⟩ := h
  exact ev_c (pe_glob (v := .str i) hg h ⟨_, rfl⟩ hd) fun _ => .str _
end DL
namespace DL
open PySem PySem.Spec PyProof.Rows L2
def compGo2 (vs : List Nat) (t : Tg) (elt : Den (List D)) : List D → Den (List (List D))
  | [] => retD []
  | d :: ds => fun st => match setT t d st with
    | none => .stuck
    | some st1 => match elt st1 with
      | .ok y st3 => match compGo2 vs t elt ds (wipeD st3 vs) with
        | .ok ys st4 => .ok (y :: ys) st4
        | _ => .stuck
      | _ => .stuck
def dComp2 (vs : List Nat) (t : Tg) (fi : Den (List D)) (elt : Den (List D)) : Den (List (List D)) := bindD fi fun ds => fun st =>
  if ds.length ≤ big ∧ vs.all (plainAt st) = true then
    match compGo2 vs t elt ds (wipeD st vs) with
    | .ok ys st' => .ok ys (backD st st' vs)
    | _ => .stuck
  else .stuck
abbrev BL := List (Addr × List V)
def refs (bl : BL) : List V := bl.map fun q => V.ref q.1
/-- guarded: the new list D and the lists in it -/
def gd2 (P : Par) (D : Addr) (bl : BL) : Par := ⟨P.B, fun x => if x = D then some (.lst (refs bl)) else match bl.lookup x with
  | some vs => some (.lst vs)
  | none => P.R x, fun x => P.N x ∨ x = D ∨ x ∈ bl.map (·.1)⟩
structure RL2 (g : G) (F : Hp) (bl : BL) (dss : List (List D)) : Prop where
  len : bl.length = dss.length
  at_ : ∀ (j : Nat) (q : Addr × List V) (ds : List D), bl[j]? = some q → dss[j]? = some ds → Rl g F q.2 ds
theorem RL2.mono {g : G} {F F' : Hp} {bl : BL} {dss : List (List D)} (e : Same F F') (h : RL2 g F bl dss) : RL2 g F' bl dss := ⟨h.len, fun j q ds e1 e2 => (h.at_ j q ds e1 e2).mono e⟩
theorem RL2.snoc {g : G} {F : Hp} {bl : BL} {dss : List (List D)} {p : Addr} {vs : List V} {ds : List D} (h : RL2 g F bl dss) (r : Rl g F vs ds) : RL2 g F (bl ++ [(p, vs)]) (dss ++ [ds]) := by
  refine ⟨by simp [h.len], fun j q es e1 e2 => ?_⟩
  rcases Nat.lt_or_ge j bl.length with hj | hj
  · rw [List.getElem?_append_left hj] at e1
    rw [List.getElem?_append_left (by rw [← h.len]; exact hj)] at e2
    exact h.at_ j q es e1 e2
  · rw [List.getElem?_append_right hj] at e1
    rw [List.getElem?_append_right (by rw [← h.len]; exact hj)] at e2
    have : j - bl.length = 0 := by
      have := (List.getElem?_eq_some_iff.mp e1).1
      simp at this; omega
    rw [this] at e1
    rw [← h.len, this] at e2
    simp at e1 e2
    subst e1; subst e2
    exact r
theorem lookup_some {bl : BL} {x : Addr} {vs : List V} : bl.lookup x = some vs → (x, vs) ∈ bl := by
  induction bl with
  | nil => intro h; cases h
  | cons q bl ih =>
    obtain ⟨y, ws⟩ := q
    intro h
    rw [List.lookup_cons] at h
    cases hx : x == y with
    | true => rw [hx] at h; cases h; rw [beq_iff_eq.mp hx]; exact List.mem_cons_self
    | false => rw [hx] at h; exact List.mem_cons_of_mem _ (ih h)
theorem lookup_mem {bl : BL} {x : Addr} {vs : List V} (nd : (bl.map (·.1)).Nodup) : (x, vs) ∈ bl → bl.lookup x = some vs := by
  induction bl with
  | nil => intro h; cases h
  | cons q bl ih =>
    obtain ⟨y, ws⟩ := q
    intro h
    rw [List.map_cons, List.nodup_cons] at nd
    rw [List.lookup_cons]
    rcases List.mem_cons.mp h with e | h
    · cases e; simp
    · have hx : (x == y) = false := by
        rw [beq_eq_false_iff_ne]
        intro z
        exact nd.1 (z ▸ List.mem_map.mpr ⟨_, h, rfl⟩)
      rw [hx]; exact ih nd.2 h
theorem lookup_none {bl : BL} {x : Addr} (h : x ∉ bl.map (·.1)) : bl.lookup x = none := by
  cases e : bl.lookup x with
  | none => rfl
  | some vs => exact absurd (List.mem_map.mpr ⟨_, lookup_some e, rfl⟩) h
section
variable {X : Cx} {g : G} {W : WX} {P : Par} {σ : L2.St} {H F : Hp} {st : DSt} {e : Expr} {s : Stmt}
/-- p and the lists in it belong to nobody -/
structure SR2 (g : G) (P : Par) (σ : L2.St) (H F : Hp) (st : DSt) (p : Addr) (bl : BL) : Prop where
  ex : ∃ O, SRc g P O σ H F st ∧ (O p = none ∧ F p = none ∧ P.R p = none ∧ ¬ P.N p) ∧ ∀ b ∈ bl.map (·.1), O b = none ∧ F b = none ∧ P.R b = none ∧ ¬ P.N b
  at_ : H p = some (.lst (refs bl))
  nd : (bl.map (·.1)).Nodup
  np : p ∉ bl.map (·.1)
  it : ∀ q ∈ bl, H q.1 = some (.lst q.2)
def OutN2 (g : G) (W : WX) (P : Par) (σ : L2.St) (F : Hp) (r : Res (List (List D))) (Q : VK) : Prop := match r with
  | .ok dss st' => ∀ H' F' p bl, Same F F' → SR2 g P σ H' F' st' p bl → RL2 g F' bl dss → Q (.ref p) H'
  | .exn c fs st' => ∀ cls dd H' F', Same F F' → SR g P σ H' F' st' → RepX g F' H' c fs cls dd → W cls dd σ H'
  | .stuck => False
def tN2 (g : G) (W : WX) (f : Den (List (List D))) : TE := fun σ H Q => ∃ P F st, SR g P σ H F st ∧ OutN2 g W P σ F (f st) Q
theorem OutN2.weak {r : Res (List (List D))} {Q : VK} {F' : Hp} (e : Same F F') (h : OutN2 g W P σ F r Q) : OutN2 g W P σ F' r Q := by
  cases r with
  | ok a st' => exact fun H' F2 p bl e2 s => h H' F2 p bl (e.trans e2) s
  | exn c fs st' => exact fun cls dd H' F2 e2 s => h cls dd H' F2 (e.trans e2) s
  | stuck => exact h
theorem OutN2.bind {α : Type} {a : Den α} {ff : α → Den (List (List D))} {Q : VK} (h : OutN2 g W P σ F (bindD a ff st) Q) : Out g W P σ F (a st) (fun x st1 _ F1 => OutN2 g W P σ F1 (ff x st1) Q) := by
  unfold bindD at h
  revert h
  cases a st with
  | ok x st' => exact fun h H' F' e s => OutN2.weak e h
  | exn c fs st' => exact fun h => h
  | stuck => exact fun h => h
/-- the guard holds what it guards -/
theorem gd2_at {D : Addr} {bl : BL} (s : SR g (gd2 P D bl) σ H F st) (nd : (bl.map (·.1)).Nodup) (np : D ∉ bl.map (·.1)) : H D = some (.lst (refs bl)) ∧ ∀ q ∈ bl, H q.1 = some (.lst q.2) := by
  obtain ⟨O, c⟩ := s
  refine ⟨c.rr D _ (by show (if D = D then _ else _) = _; rw [if_pos rfl]), fun q hq => c.rr q.1 _ ?_⟩
  have hne : q.1 ≠ D := fun z => np (z ▸ List.mem_map.mpr ⟨_, hq, rfl⟩)
  show (if q.1 = D then _ else _) = _
  rw [if_neg hne, lookup_mem (x := q.1) (vs := q.2) nd hq]
theorem gd2_own {D : Addr} {bl : BL} {O : Addr → Option Nat} (c : SRc g (gd2 P D bl) O σ H F st) {b : Addr} {i : Nat} (h : O b = some i) : b ≠ D ∧ b ∉ bl.map (·.1) ∧ P.R b = none := by
  have q := (c.oo b i h).2.1
  have q : (if b = D then some (HO.lst (refs bl)) else match bl.lookup b with
    | some vs => some (.lst vs)
    | none => P.R b) = none := q
  by_cases hb : b = D
  · rw [if_pos hb] at q; cases q
  · rw [if_neg hb] at q
    refine ⟨hb, fun hm => ?_, ?_⟩
    · cases e : bl.lookup b with
      | some vs => rw [e] at q; cases q
      | none =>
        obtain ⟨⟨b', vs⟩, hq, rfl⟩ := List.mem_map.mp hm
        have : ∀ bl : BL, (b', vs) ∈ bl → bl.lookup b' ≠ none := by
          intro bl
          induction bl with
          | nil => intro h; cases h
          | cons q bl ih =>
            obtain ⟨y, ws⟩ := q
            intro h
            rw [List.lookup_cons]
            cases hx : b' == y with
            | true => simp
            | false =>
              rcases List.mem_cons.mp h with e | h
              · cases e; simp at hx
              · exact ih h
        exact this bl hq e
    · cases e : bl.lookup b with
      | some vs => rw [e] at q; cases q
      | none => rw [e] at q; exact q
theorem gd2_start {D : Addr} (s : SR g P σ H F st) (h : H D = none) : SR g (gd2 P D []) σ (upd H D (.lst [])) F st := by
  obtain ⟨O, c, o0, f0, r0, n0⟩ := s.newx (o := .lst []) h
  refine ⟨O, c.le, fun b u e => ?_, fun b i e => ⟨(c.oo b i e).1, ?_, (c.oo b i e).2.2⟩, fun b n => ?_, c.len, fun i s ov e1 e2 => ?_⟩
  · have e : (if b = D then some (HO.lst (refs [])) else P.R b) = some u := e
    by_cases hb : b = D
    · subst hb; rw [if_pos rfl] at e; rw [← e]; exact upd_same
    · rw [if_neg hb] at e; exact c.rr b u e
  · have hb : b ≠ D := fun z => by rw [z, o0] at e; cases e
    show (if b = D then some (HO.lst (refs [])) else P.R b) = none
    rw [if_neg hb]; exact (c.oo b i e).2.1
  · rcases n with n | rfl | n
    · exact c.no b n
    · exact ⟨f0, NT.of upd_same⟩
    · cases n
  · exact (c.sl i s ov e1 e2).move rfl (fun _ h => h) (Same.refl _) (fun _ _ _ h => h) fun b o n z => by
      rcases z with z | z | z
      · exact n z
      · rw [z, o0] at o; cases o
      · cases z
theorem gd2_step {D p : Addr} {bl : BL} {vs : List V} (s : SRx g (gd2 P D bl) σ H F st p) (hp : H p = some (.lst vs)) (nd : (bl.map (·.1)).Nodup) (np : D ∉ bl.map (·.1)) :
    SR g (gd2 P D (bl ++ [(p, vs)])) σ (upd H D (.lst (refs bl ++ [.ref p]))) F st ∧ ((bl ++ [(p, vs)]).map (·.1)).Nodup ∧ D ∉ (bl ++ [(p, vs)]).map (·.1) := by
  obtain ⟨O, c, o0, f0, r0, n0⟩ := s
  have hpD : p ≠ D := fun z => n0 (.inr (.inl z))
  have hpb : p ∉ bl.map (·.1) := fun z => n0 (.inr (.inr z))
  have fD := (c.no D (.inr (.inl rfl))).1
  have e1 : refs (bl ++ [(p, vs)]) = refs bl ++ [.ref p] := by simp [refs]
  refine ⟨⟨O, fun b u e => ?_, fun b u e => ?_, fun b i e => ?_, fun b n => ?_, c.len, fun i s ov e1 e2 => ?_⟩, ?_, ?_⟩
  · rw [upd_ne (fun z => by rw [z, fD] at e; cases e)]; exact c.le b u e
  · have e : (if b = D then some (HO.lst (refs (bl ++ [(p, vs)]))) else match (bl ++ [(p, vs)]).lookup b with
      | some vs => some (.lst vs)
      | none => P.R b) = some u := e
    by_cases hb : b = D
    · subst hb; rw [if_pos rfl, e1] at e; rw [← e]; exact upd_same
    · rw [if_neg hb] at e
      rw [upd_ne hb]
      by_cases hbp : b = p
      · subst hbp
        have : (bl ++ [(b, vs)]).lookup b = some vs := by
          rw [List.lookup_append, lookup_none hpb]
          simp
        rw [this] at e
        rw [hp]; exact e
      · have : (bl ++ [(p, vs)]).lookup b = bl.lookup b := by
          rw [List.lookup_append]
          have : List.lookup b [(p, vs)] = none := by
            rw [List.lookup_cons]
            have : (b == p) = false := by rw [beq_eq_false_iff_ne]; exact hbp
            rw [this]; rfl
          rw [this]
          cases bl.lookup b <;> rfl
        rw [this] at e
        exact c.rr b u (by show (if b = D then _ else _) = _; rw [if_neg hb]; exact e)
  · obtain ⟨h1, h2, h3⟩ := gd2_own c e
    have hbp : b ≠ p := fun z => by rw [z, o0] at e; cases e
    refine ⟨(c.oo b i e).1, ?_, NT.upd h1 (c.oo b i e).2.2⟩
    show (if b = D then _ else _) = _
    rw [if_neg h1, lookup_none (by simp [h2, hbp])]
    exact h3
  · refine ⟨?_, ?_⟩
    · rcases n with n | n | n
      · exact (c.no b (.inl n)).1
      · exact (c.no b (.inr (.inl n))).1
      · rw [List.map_append, List.mem_append] at n
        rcases n with n | n
        · exact (c.no b (.inr (.inr n))).1
        · have : b = p := by simpa using n
          rw [this]; exact f0
    · by_cases hb : b = D
      · subst hb; exact NT.of upd_same
      · refine NT.upd hb ?_
        rcases n with n | n | n
        · exact (c.no b (.inl n)).2
        · exact absurd n hb
        · rw [List.map_append, List.mem_append] at n
          rcases n with n | n
          · exact (c.no b (.inr (.inr n))).2
          · have : b = p := by simpa using n
            rw [this]; exact NT.of hp
  · exact (c.sl i s ov e1 e2).move rfl (fun _ h => h) (Same.refl _) (fun b o ho h => by rw [upd_ne (gd2_own c ho).1]; exact h) fun b o n z => by
      rcases z with z | z | z
      · exact n (.inl z)
      · exact n (.inr (.inl z))
      · rw [List.map_append, List.mem_append] at z
        rcases z with z | z
        · exact n (.inr (.inr z))
        · have : b = p := by simpa using z
          rw [this, o0] at o; cases o
  · rw [List.map_append, List.nodup_append]
    refine ⟨nd, by simp, fun a ha b hb => ?_⟩
    have : b = p := by simpa using hb
    rw [this]; intro z; exact hpb (z ▸ ha)
  · rw [List.map_append, List.mem_append]
    intro z
    rcases z with z | z
    · exact np z
    · have : D = p := by simpa using z
      exact hpD this.symm
theorem gd2_end {D : Addr} {bl : BL} {H0 F0 : Hp} {st0 : DSt} {vs : List Nat} (s : SR g (gd2 P D bl) (L2.wipe σ vs) H F st) (s0 : SR g P σ H0 F0 st0) (h0 : H0 D = none) (hb0 : ∀ b ∈ bl.map (·.1), P.R b = none ∧ ¬ P.N b) (le : Same F0 F) (hl : st.length = st0.length) (hp : vs.all (plainAt st0) = true)
    (nd : (bl.map (·.1)).Nodup) (np : D ∉ bl.map (·.1)) : SR2 g P σ H F (backD st0 st vs) D bl := by
  obtain ⟨a1, a2⟩ := gd2_at s nd np
  obtain ⟨O, c⟩ := s
  have fresh : ∀ b, H0 b = none → P.R b = none ∧ ¬ P.N b := fun b h => by
    obtain ⟨_, _, _, _, r0, n0⟩ := s0.newx (o := .lst []) h
    exact ⟨r0, n0⟩
  have on : ∀ b, (b = D ∨ b ∈ bl.map (·.1)) → O b = none := fun b hb => by
    cases e : O b with
    | none => rfl
    | some i =>
      obtain ⟨h1, h2, _⟩ := gd2_own c e
      rcases hb with hb | hb
      · exact absurd hb h1
      · exact absurd hb h2
  refine ⟨⟨O, ⟨c.le, fun b u e => ?_, fun b i e => ⟨(c.oo b i e).1, (gd2_own c e).2.2, (c.oo b i e).2.2⟩, fun b n => c.no b (.inl n), ?_, fun i sl ov e1 e2 => ?_⟩, ⟨on D (.inl rfl), (c.no D (.inr (.inl rfl))).1, (fresh D h0).1, (fresh D h0).2⟩,
    fun b hb => ⟨on b (.inr hb), (c.no b (.inr (.inr hb))).1, (hb0 b hb).1, (hb0 b hb).2⟩⟩, a1, nd, np, a2⟩
  · have hb : b ≠ D := fun z => by rw [z, (fresh D h0).1] at e; cases e
    have hbl : b ∉ bl.map (·.1) := fun z => by rw [(hb0 b z).1] at e; cases e
    refine c.rr b u ?_
    show (if b = D then _ else _) = _
    rw [if_neg hb, lookup_none hbl]
    exact e
  · rw [backD_length]
    have := c.len
    rw [wipe_length] at this
    exact this
  · by_cases hi : i ∈ vs
    · have es := backD_in hi sl e1
      have hpl := List.all_eq_true.mp hp i hi
      unfold plainAt at hpl
      cases e0 : st0[i]? with
      | none => rw [e0] at es; subst es; trivial
      | some s0' =>
        rw [e0] at es hpl
        simp only [Option.getD_some] at es
        subst es
        cases sl with
        | no => trivial
        | sh d =>
          obtain ⟨O0, c0⟩ := s0
          obtain ⟨v, ev, r⟩ := c0.sl i _ ov e0 e2
          exact ⟨v, ev, r.mono le⟩
        | _ => cases hpl
    · rw [backD_out hi] at e1
      exact (c.sl i sl ov e1 (by rw [wipe_out hi]; exact e2)).move rfl (fun _ h => h) (Same.refl _) (fun _ _ _ h => h) fun _ _ n z => n (.inl z)
theorem setT_length {t : Tg} {d : D} {st st' : DSt} (h : setT t d st = some st') : st'.length = st.length := by
  have key : ∀ is ds (st st' : DSt), setAll is ds st = some st' → st'.length = st.length := by
    intro is
    induction is with
    | nil => intro ds st st' e; cases ds with | nil => cases e; rfl | cons d ds => cases e
    | cons i is ih =>
      intro ds st st' e
      cases ds with
      | nil => cases e
      | cons d ds =>
        unfold setAll at e
        split at e
        · rename_i sti hsi
          obtain ⟨_, rfl⟩ := slotSet_some hsi
          rw [ih _ _ _ e, List.length_set]
        · cases e
  unfold setT at h
  cases t with
  | nm i => obtain ⟨_, rfl⟩ := slotSet_some h; rw [List.length_set]
  | nms is =>
    cases d with
    | tup ds => exact key _ _ _ _ h
    | _ => cases h
theorem comp2_imp {vs : List Nat} {t : Tg} {fi : Den (List D)} {elt : Den (List D)} {Q : VK} (hv : ∀ i ∈ t.is, i ∈ vs) (q : tN2 g W (dComp2 vs t fi elt) σ H Q) :
    tLc (tI g W fi) (tG g t) (tT g WN dYes) (tN g WN elt) vs σ H Q := by
  obtain ⟨P, F, st, s, o⟩ := q
  refine ⟨P, F, st, s, OutN2.bind o |>.imp fun ds st1 H1 F1 le1 s1 o1 J wk D hD => ?_⟩
  split at o1
  · rename_i hc
    obtain ⟨hbig, hpl⟩ := hc
    refine ⟨fun i m H => m = ds.length - i ∧ i ≤ ds.length ∧ ∃ F' st' bl acc, Same F1 F' ∧ SR g (gd2 P D bl) (L2.wipe σ vs) H F' st' ∧ RL2 g F' bl acc ∧ acc.length ≤ i ∧ st'.length = st1.length ∧ (bl.map (·.1)).Nodup ∧ D ∉ bl.map (·.1) ∧ (∀ b ∈ bl.map (·.1), P.R b = none ∧ ¬ P.N b) ∧
      ∃ ys stE, compGo2 vs t elt (ds.drop i) st' = .ok ys stE ∧ compGo2 vs t elt ds (wipeD st1 vs) = .ok (acc ++ ys) stE, ?_, ?_⟩
    · split at o1
      · rename_i ys stE hgo
        exact ⟨ds.length, by simp, Nat.zero_le _, F1, wipeD st1 vs, [], [], Same.refl _, gd2_start (s1.wipe vs) hD, ⟨rfl, fun j q es e1 _ => by simp at e1⟩, Nat.zero_le _, wipeD_length _ _, .nil, by simp, by simp, ys, stE, by simpa using hgo, by simpa using hgo⟩
      · exact o1.elim
    · rintro i m H2 ⟨rfl, hi, F', st', bl, acc, le, s', racc, hacc, hlen, nd, np, hR, ys, stE, hgo, hall⟩
      by_cases hlt : i < ds.length
      · obtain ⟨d0, hd0⟩ : ∃ d, ds[i]? = some d := ⟨ds[i], List.getElem?_eq_getElem hlt⟩
        have hdr : ds.drop i = d0 :: ds.drop (i + 1) := by
          rw [List.drop_eq_getElem_cons hlt]
          have := List.getElem?_eq_getElem hlt
          rw [hd0] at this; rw [← Option.some.inj this]
        rw [hdr] at hgo
        refine .inr ⟨wk.go i H2 (le.trans s'.le) hlt, fun H => ∃ F' st' bl acc, Same F1 F' ∧ SR g (gd2 P D bl) (L2.wipe σ vs) H F' st' ∧ RL2 g F' bl acc ∧ acc.length ≤ i + 1 ∧ st'.length = st1.length ∧ (bl.map (·.1)).Nodup ∧ D ∉ bl.map (·.1) ∧ (∀ b ∈ bl.map (·.1), P.R b = none ∧ ¬ P.N b) ∧
          ∃ ys stE, compGo2 vs t elt (ds.drop (i + 1)) st' = .ok ys stE ∧ compGo2 vs t elt ds (wipeD st1 vs) = .ok (acc ++ ys) stE, fun H' nx => ⟨ds.length - (i + 1), by omega, rfl, hlt, nx⟩, fun x H' y => ?_⟩
        obtain ⟨d, hd, yy⟩ := wk.yld i H2 x H' (le.trans s'.le) hlt y
        obtain ⟨F', le2, s', rd⟩ := s'.yl le yy
        have le := le.trans le2
        have racc := racc.mono le2
        rw [hd0] at hd; cases hd
        unfold compGo2 at hgo
        cases hset : setT t d0 st' with
        | none => rw [hset] at hgo; cases hgo
        | some st2 =>
          rw [hset] at hgo
          refine ⟨gd2 P D bl, F', st', d0, s', rd, st2, hset, fun xs s2 => ⟨?_, ?_⟩⟩
          · rw [wipe_setσ hv, wipe_wipe]
          · refine ⟨gd2 P D bl, F', st2, s2, fun H3 F3 le3 s3 => ?_⟩
            show (if true = true then _ else _)
            rw [if_pos rfl]
            refine ⟨gd2 P D bl, F3, st2, s3, ?_⟩
            simp only at hgo
            revert hgo
            cases elt st2 with
            | ok y st4 =>
              intro hgo H4 F4 p vs4 le4 s4 hp4 rv
              simp only at hgo
              have hD4 := (gd2_at s4.sr nd np).1
              have hb : big = sizeLine := big_eq
              have hlb : (refs bl).length = acc.length := by simp [refs, racc.len]
              have hfresh : P.R p = none ∧ ¬ P.N p := by
                obtain ⟨O, c, o0, f0, r0, n0⟩ := s4
                have hpD : p ≠ D := fun z => n0 (.inr (.inl z))
                have hpb : p ∉ bl.map (·.1) := fun z => n0 (.inr (.inr z))
                have r1 : (if p = D then some (HO.lst (refs bl)) else match bl.lookup p with
                  | some vs => some (.lst vs)
                  | none => P.R p) = none := r0
                rw [if_neg hpD, lookup_none hpb] at r1
                exact ⟨r1, fun z => n0 (.inl z)⟩
              have s5 : SRx g (gd2 P D bl) (L2.wipe σ vs) H4 F4 (wipeD st4 vs) p := by
                obtain ⟨O, c, rest⟩ := s4
                obtain ⟨O2, c2⟩ : ∃ O2, SRc g (gd2 P D bl) O2 (L2.wipe (setσ t.is xs (L2.wipe σ vs)) vs) H4 F4 (wipeD st4 vs) ∧ O2 = O := by
                  refine ⟨O, ⟨c.le, c.rr, c.oo, c.no, by rw [wipe_length, wipeD_length]; exact c.len, fun i s ov e1 e2 => ?_⟩, rfl⟩
                  by_cases hi : i ∈ vs
                  · rw [wipeD_in hi s e1]; trivial
                  · rw [wipeD_out hi] at e1
                    rw [wipe_out hi] at e2
                    exact c.sl i s ov e1 e2
                obtain ⟨c2, rfl⟩ := c2
                rw [wipe_setσ hv, wipe_wipe] at c2
                exact ⟨_, c2, rest⟩
              obtain ⟨g1, g2, g3⟩ := gd2_step s5 hp4 nd np
              refine ⟨refs bl, hD4, by rw [hlb, ← hb]; omega, F4, wipeD st4 vs, bl ++ [(p, vs4)], acc ++ [y], (le.trans le3).trans le4, g1, (racc.mono (le3.trans le4)).snoc rv, by simp; omega, ?_, g2, g3, fun b hb => ?_, ?_⟩
              · rw [wipeD_length]
                have a1 := s4.sr.len
                have a2 := s2.len
                have a4 := setT_length hset
                omega
              · rw [List.map_append, List.mem_append] at hb
                rcases hb with hb | hb
                · exact hR b hb
                · have : b = p := by simpa using hb
                  rw [this]; exact hfresh
              · revert hgo
                cases hr : compGo2 vs t elt (ds.drop (i + 1)) (wipeD st4 vs) with
                | ok ys' st5 =>
                  intro hgo
                  simp only at hgo
                  cases hgo
                  exact ⟨ys', _, rfl, by rw [List.append_assoc]; exact hall⟩
                | exn c fs st5 => intro hgo; cases hgo
                | stuck => intro hgo; cases hgo
            | exn c fs st4 => intro hgo; cases hgo
            | stuck => intro hgo; cases hgo
      · have e : i = ds.length := by omega
        subst e
        rw [List.drop_length] at hgo
        cases hgo
        refine .inl ⟨wk.stop H2 (le.trans s'.le), ?_⟩
        rw [hall] at o1
        rw [List.append_nil] at o1
        exact o1 H2 F' D bl le (gd2_end s' s1 hD hR le hlen hpl nd np) racc
  · exact o1.elim
def putD2 (i : Nat) (dss : List (List D)) : DS := fun st => match slotSet i (.o2 dss) st with
  | some st' => .ok .nx st'
  | none => .stuck
@[simp] def sOwn2 (i : Nat) (f : Den (List (List D))) : DS := bindD f fun dss => putD2 i dss
theorem SR2.own {p : Addr} {i : Nat} {bl : BL} {dss : List (List D)} (s : SR2 g P σ H F st p bl) (r : RL2 g F bl dss) (hi : i < st.length) : SR g P (σ.set i (some (.ref p))) H F (st.set i (.o2 dss)) := by
  obtain ⟨⟨O, c, ⟨o0, f0, r0, n0⟩, hb⟩, hp, nd, np, it⟩ := s
  refine ⟨fun b => if b = p ∨ b ∈ bl.map (·.1) then some i else if O b = some i then none else O b, c.le, c.rr, fun b j e => ?_, c.no, by rw [List.length_set, List.length_set]; exact c.len, fun j s ov e1 e2 => ?_⟩
  · by_cases hq : b = p ∨ b ∈ bl.map (·.1)
    · rcases hq with rfl | hq
      · exact ⟨f0, r0, NT.of hp⟩
      · obtain ⟨q, hq1, rfl⟩ := List.mem_map.mp hq
        exact ⟨(hb _ hq).2.1, (hb _ hq).2.2.1, NT.of (it q hq1)⟩
    · simp only [if_neg hq] at e
      by_cases ho : O b = some i
      · simp [ho] at e
      · simp only [if_neg ho] at e; exact c.oo b j e
  · by_cases hj : j = i
    · subst hj
      rw [List.getElem?_set_self hi] at e1
      rw [List.getElem?_set_self (by rw [c.len]; exact hi)] at e2
      cases e1; cases e2
      refine ⟨p, bl.map (·.1), rfl, by simp, n0, by rw [hp]; simp [refs], nd, np, by simp [r.len], fun k b ds e1 e2 => ?_⟩
      rw [List.getElem?_map] at e1
      cases hk : bl[k]? with
      | none => rw [hk] at e1; cases e1
      | some q =>
        rw [hk] at e1
        have e1 : q.1 = b := Option.some.inj e1
        have hm : q ∈ bl := List.mem_of_getElem? hk
        have hm2 : b ∈ bl.map (·.1) := e1 ▸ List.mem_map.mpr ⟨q, hm, rfl⟩
        refine ⟨by simp only [if_pos (Or.inr hm2)], (hb b hm2).2.2.2, q.2, by rw [← e1]; exact it q hm, r.at_ k q ds hk e2⟩
    · rw [List.getElem?_set_ne (Ne.symm hj)] at e1 e2
      exact (c.sl j s ov e1 e2).move rfl (fun b o => by
        have h1 : ¬ (b = p ∨ b ∈ bl.map (·.1)) := fun z => by
          rcases z with rfl | z
          · rw [o0] at o; cases o
          · rw [(hb b z).1] at o; cases o
        simp only [if_neg h1]
        rw [if_neg (by rw [o]; intro z; exact hj (Option.some.inj z))]; exact o) (Same.refl _) (fun _ _ _ h => h) fun _ _ h => h
theorem es_own2 {i : Nat} {vs : List Nat} {t : Tg} {fi : Den (List D)} {elt : Den (List D)} (he : PS X s (tAsg (tLc (tI g W fi) (tG g t) (tT g WN dYes) (tN g WN elt) vs) (gName i))) (hv : ∀ i ∈ t.is, i ∈ vs := by decide) : PS X s (tS g W (sOwn2 i (dComp2 vs t fi elt))) :=
  (he.imp fun E σ H q => comp2_imp (Q := fun x H1 => gName i x σ H1 E.nx) hv q).imp fun E σ H ⟨P, F, st, s, o⟩ => by
    refine ⟨P, F, st, s, ?_⟩
    unfold sOwn2 at o
    have o : OutS g W P F (bindD (dComp2 vs t fi elt) (fun dss => putD2 i dss) st) E := o
    unfold bindD at o
    revert o
    cases dComp2 vs t fi elt st with
    | ok dss st' =>
      intro o H' F' p bl le s2 r
      have o : OutS g W P F (putD2 i dss st') E := o
      unfold putD2 at o
      split at o
      · rename_i st2 h
        obtain ⟨hi, rfl⟩ := slotSet_some h
        exact o _ H' F' le (s2.own r hi)
      · exact o.elim
    | exn c fs st' => exact fun o cls dd H' F' e s => o cls dd σ H' F' e s
    | stuck => exact fun o => o
end
end DL
namespace DL
open PySem PySem.Spec PyProof.Rows L2
theorem nodup_inj {α : Type} {l : List α} (nd : l.Nodup) {i j : Nat} (hi : i < l.length) (hj : j < l.length) (h : l[i] = l[j]) : i = j := by
  have p := List.pairwise_iff_getElem.mp nd
  rcases Nat.lt_trichotomy i j with q | q | q
  · exact absurd h (p i j hi hj q)
  · exact q
  · exact absurd h.symm (p j i hj hi q)
/-- no exception leaves -/
@[simp] def noX {α : Type} (a : Den α) : Den α := fun st => match a st with
  | .exn _ _ _ => .stuck
  | r => r
/-- the lists of a slot out of sight, guarded -/
def P2 (P : Par) (H : Hp) (a : Addr) (bs : List Addr) : Par := ⟨P.B, fun x => if x = a ∨ x ∈ bs then H x else P.R x, fun x => P.N x ∨ x = a ∨ x ∈ bs⟩
section
variable {X : Cx} {g : G} {W : WX} {P : Par} {σ : L2.St} {H F : Hp} {st : DSt} {e : Expr} {s : Stmt} {f h k : Den D}
theorem SR.hide {i : Nat} {dss : List (List D)} (s : SR g P σ H F st) (h : st[i]? = some (.o2 dss)) : ∃ a bs, σ[i]? = some (some (.ref a)) ∧ H a = some (.lst (bs.map V.ref)) ∧ bs.length = dss.length ∧
    (∀ (j : Nat) (b : Addr) (ds : List D), bs[j]? = some b → dss[j]? = some ds → ∃ vs, H b = some (.lst vs) ∧ Rl g F vs ds) ∧ SR g (P2 P H a bs) σ H F (st.set i .no) ∧
    ∀ (H' F' : Hp) (st' : DSt), Same F F' → SR g (P2 P H a bs) σ H' F' st' → st'[i]? = some .no → (∀ x, (x = a ∨ x ∈ bs) → H' x = H x) ∧ SR g P σ H' F' (st'.set i (.o2 dss)) ∧
      ∀ (j : Nat) (b : Addr) (ds' : List D) (vs' : List V), bs[j]? = some b → Rl g F' vs' ds' → SR g P σ (upd H' b (.lst vs')) F' (st'.set i (.o2 (dss.set j ds'))) := by
  obtain ⟨ov, hov⟩ := SRc.nth s h
  obtain ⟨O, c⟩ := s
  obtain ⟨a, bs, rfl, ho, hn, ha, nd, na, hl, hr⟩ := c.sl i _ _ h hov
  have own : ∀ x, (x = a ∨ x ∈ bs) → O x = some i ∧ ¬ P.N x := fun x hx => by
    rcases hx with rfl | hx
    · exact ⟨ho, hn⟩
    · obtain ⟨j, hj, e⟩ := List.getElem_of_mem hx
      have e1 : bs[j]? = some x := by rw [List.getElem?_eq_getElem hj, e]
      obtain ⟨o, n, _⟩ := hr j x _ e1 (List.getElem?_eq_getElem (by rw [← hl]; exact hj))
      exact ⟨o, n⟩
  refine ⟨a, bs, hov, ha, hl, fun j b ds e1 e2 => (hr j b ds e1 e2).2.2, ?_, ?_⟩
  · refine ⟨fun x => if x = a ∨ x ∈ bs then none else O x, c.le, fun x o e => ?_, fun x j e => ?_, fun x n => ?_, by rw [List.length_set]; exact c.len, fun j s ov e1 e2 => ?_⟩
    · have e : (if x = a ∨ x ∈ bs then H x else P.R x) = some o := e
      by_cases hx : x = a ∨ x ∈ bs
      · rw [if_pos hx] at e; exact e
      · rw [if_neg hx] at e; exact c.rr x o e
    · by_cases hx : x = a ∨ x ∈ bs
      · simp [hx] at e
      · simp only [if_neg hx] at e
        refine ⟨(c.oo x j e).1, ?_, (c.oo x j e).2.2⟩
        show (if x = a ∨ x ∈ bs then H x else P.R x) = none
        rw [if_neg hx]; exact (c.oo x j e).2.1
    · rcases n with n | n
      · exact c.no x n
      · exact ⟨(c.oo x i (own x n).1).1, (c.oo x i (own x n).1).2.2⟩
    · by_cases hj : j = i
      · subst hj
        rw [List.getElem?_set_self (lt_of_get h)] at e1
        cases e1; trivial
      · rw [List.getElem?_set_ne (Ne.symm hj)] at e1
        have hx : ∀ x, O x = some j → ¬ (x = a ∨ x ∈ bs) := fun x o hx => hj (by rw [(own x hx).1] at o; exact (Option.some.inj o).symm)
        exact (c.sl j s ov e1 e2).move rfl (fun x o => by simp only [if_neg (hx x o)]; exact o) (Same.refl _) (fun _ _ _ h => h) fun x o n z => by
          rcases z with z | z
          · exact n z
          · exact hx x o z
  · rintro H' F' st' le ⟨O', c'⟩ hno
    have hR : ∀ x, (x = a ∨ x ∈ bs) → (P2 P H a bs).R x = H x := fun x hx => if_pos hx
    have hH : ∀ x, (x = a ∨ x ∈ bs) → H' x = H x := fun x hx => by
      obtain ⟨o, ho⟩ := (c.oo x i (own x hx).1).2.2.get
      rw [ho]
      exact c'.rr x o (by rw [hR x hx]; exact ho)
    have o0 : ∀ x, (x = a ∨ x ∈ bs) → O' x = none := fun x hx => by
      cases e : O' x with
      | none => rfl
      | some j =>
        have := (c'.oo x j e).2.1
        rw [hR x hx] at this
        exact absurd this (c.oo x i (own x hx).1).2.2.1
    have f0 : ∀ x, (x = a ∨ x ∈ bs) → F' x = none := fun x hx => (c'.no x (.inr hx)).1
    have r0 : ∀ x, (x = a ∨ x ∈ bs) → P.R x = none := fun x hx => (c.oo x i (own x hx).1).2.1
    have rr' : ∀ x o, P.R x = some o → (¬ (x = a ∨ x ∈ bs)) ∧ H' x = some o := fun x o e => by
      have hx : ¬ (x = a ∨ x ∈ bs) := fun hx => by rw [r0 x hx] at e; cases e
      exact ⟨hx, c'.rr x o (by show (if x = a ∨ x ∈ bs then H x else P.R x) = some o; rw [if_neg hx]; exact e)⟩
    -- the new owner map
    have key : ∀ (H2 : Hp) (dss2 : List (List D)), (∀ x, ¬ (x ∈ bs) → H2 x = H' x) → (∀ x, NT H' x → NT H2 x) → bs.length = dss2.length → (∀ (j : Nat) (b : Addr) (ds : List D), bs[j]? = some b → dss2[j]? = some ds → ∃ vs, H2 b = some (.lst vs) ∧ Rl g F' vs ds) →
        SR g P σ H2 F' (st'.set i (.o2 dss2)) := by
      intro H2 dss2 hout hne hl2 hrow
      have hxF : ∀ x o, F' x = some o → ¬ (x = a ∨ x ∈ bs) := fun x o e hx => by rw [f0 x hx] at e; cases e
      refine ⟨fun x => if x = a ∨ x ∈ bs then some i else if O' x = some i then none else O' x, fun x o e => ?_, fun x o e => ?_, fun x j e => ?_, fun x n => ?_, by rw [List.length_set]; exact c'.len, fun j s ov e1 e2 => ?_⟩
      · rw [hout x fun z => hxF x o e (.inr z)]; exact c'.le x o e
      · rw [hout x fun z => (rr' x o e).1 (.inr z)]; exact (rr' x o e).2
      · by_cases hx : x = a ∨ x ∈ bs
        · exact ⟨f0 x hx, r0 x hx, hne x (NT.move (c.oo x i (own x hx).1).2.2 fun u hu => by rw [hH x hx]; exact hu)⟩
        · simp only [if_neg hx] at e
          by_cases ho : O' x = some i
          · simp [ho] at e
          · simp only [if_neg ho] at e
            refine ⟨(c'.oo x j e).1, ?_, hne x (c'.oo x j e).2.2⟩
            have := (c'.oo x j e).2.1
            have : (if x = a ∨ x ∈ bs then H x else P.R x) = none := this
            rw [if_neg hx] at this; exact this
      · have := c'.no x (.inl n)
        exact ⟨this.1, hne x this.2⟩
      · by_cases hj : j = i
        · subst hj
          rw [List.getElem?_set_self (lt_of_get hno)] at e1
          cases e1
          rw [hov] at e2; cases e2
          refine ⟨a, bs, rfl, by simp, hn, by rw [hout a na, hH a (.inl rfl)]; exact ha, nd, na, hl2, fun j b ds e1 e2 => ?_⟩
          have hb := List.mem_of_getElem? e1
          exact ⟨by simp only [if_pos (Or.inr hb)], (own b (.inr hb)).2, hrow j b ds e1 e2⟩
        · rw [List.getElem?_set_ne (Ne.symm hj)] at e1
          have hx : ∀ x, O' x = some j → ¬ (x = a ∨ x ∈ bs) := fun x o hx => by rw [o0 x hx] at o; cases o
          exact (c'.sl j s ov e1 e2).move rfl (fun x o => by
            simp only [if_neg (hx x o)]
            rw [if_neg (by rw [o]; intro z; exact hj (Option.some.inj z))]; exact o) (Same.refl _) (fun x u o h => by rw [hout x fun z => hx x o (.inr z)]; exact h) fun _ _ n z => n (.inl z)
    refine ⟨hH, key H' dss (fun _ _ => rfl) (fun _ h => h) hl fun j b ds e1 e2 => ?_, fun j b ds' vs' hb rr => ?_⟩
    · obtain ⟨_, _, vs, h1, r1⟩ := hr j b ds e1 e2
      exact ⟨vs, by rw [hH b (.inr (List.mem_of_getElem? e1))]; exact h1, r1.mono le⟩
    · have hbm := List.mem_of_getElem? hb
      refine key _ _ (fun x hx => upd_ne fun z => hx (z ▸ hbm)) (fun x hx => ?_) (by rw [List.length_set]; exact hl) fun j2 b2 ds2 e1 e2 => ?_
      · by_cases hz : x = b
        · subst hz; exact NT.of upd_same
        · exact NT.upd hz hx
      · by_cases hjj : j2 = j
        · subst hjj
          rw [hb] at e1
          cases e1
          rw [List.getElem?_set_self (by rw [← hl]; exact lt_of_get hb)] at e2
          cases e2
          exact ⟨vs', upd_same, rr⟩
        · rw [List.getElem?_set_ne (Ne.symm hjj)] at e2
          obtain ⟨_, _, vs, h1, r1⟩ := hr j2 b2 ds2 e1 e2
          have hbb : b2 ≠ b := fun z => by
            subst z
            have h1 := (List.getElem?_eq_some_iff.mp e1)
            have h2 := (List.getElem?_eq_some_iff.mp hb)
            obtain ⟨l1, q1⟩ := h1
            obtain ⟨l2, q2⟩ := h2
            exact hjj (nodup_inj nd l1 l2 (q1.trans q2.symm))
          exact ⟨vs, by rw [upd_ne hbb, hH b2 (.inr (List.mem_of_getElem? e1))]; exact h1, r1.mono le⟩
@[simp] def dO2 (i : Nat) : Den (List (List D)) := fun st => match st[i]? with
  | some (.o2 dss) => .ok dss st
  | _ => .stuck
@[simp] def hideD (i : Nat) : Den Unit := fun st => .ok () (st.set i .no)
@[simp] def backO (i : Nat) (dss : List (List D)) : Den Unit := fun st => match st[i]? with
  | some .no => .ok () (st.set i (.o2 dss))
  | _ => .stuck
@[simp] def rowAt {α : Type} (dss : List α) (k : D) : Option (Nat × α) := match k with
  | .int k => match ixN dss.length k with
    | some j => match dss[j]? with
      | some ds => some (j, ds)
      | none => none
    | none => none
  | _ => none
@[simp] def dIx2 (i : Nat) (e1 e2 : Den D) : Den D := bindD (dO2 i) fun _ => bindD e1 fun k1 => bindD (dO2 i) fun dss => bindD (liftO (rowAt dss k1)) fun r => bindD (hideD i) fun _ => bindD (noX e2) fun k2 => bindD (backO i dss) fun _ => liftO (match rowAt r.2 k2 with | some q => some q.2 | none => none)
@[simp] def sStore2 (i : Nat) (e1 e2 e : Den D) : DS := bindD e fun v => bindD (dO2 i) fun _ => bindD e1 fun k1 => bindD (dO2 i) fun dss => bindD (liftO (rowAt dss k1)) fun r => bindD (hideD i) fun _ => bindD (noX e2) fun k2 =>
  bindD (liftO (rowAt r.2 k2)) fun q => bindD (backO i (dss.set r.1 (r.2.set q.1 v))) fun _ => retD .nx
theorem dO2_ok {i : Nat} {α : Type} {kk : List (List D) → Den α} {K : α → DSt → Hp → Hp → Prop} (o : Out g W P σ F (bindD (dO2 i) kk st) K) : ∃ dss, st[i]? = some (.o2 dss) ∧ Out g W P σ F (kk dss st) K := by
  unfold bindD dO2 at o
  cases e : st[i]? with
  | none => rw [e] at o; exact o.elim
  | some sl =>
    rw [e] at o
    cases sl with
    | o2 dss => exact ⟨dss, rfl, o⟩
    | _ => exact o.elim
theorem rowAt_some {α : Type} {dss : List α} {k : D} {r : Nat × α} (h : rowAt dss k = some r) : ∃ z, k = .int z ∧ ixN dss.length z = some r.1 ∧ dss[r.1]? = some r.2 := by
  unfold rowAt at h
  split at h
  · rename_i z
    split at h
    · rename_i j hj
      split at h
      · rename_i ds hd
        cases h
        exact ⟨z, rfl, hj, hd⟩
      · cases h
    · cases h
  · cases h
theorem atI_of {α : Type} {xs : List α} {z : Int} {j : Nat} {v : α} (h : ixN xs.length z = some j) (hv : xs[j]? = some v) : atI xs z = some v := by
  unfold atI
  rw [h]; exact hv
/-- the first index of two: the row -/
theorem row2 {i : Nat} {α : Type} {a0 : Addr} {k1 : D} {v1 : V} (s : SR g P σ H F st) (hv0 : σ[i]? = some (some (.ref a0))) (rv1 : Rv g F v1 k1) {kk : List (List D) → Nat × List D → Den α} {K : α → DSt → Hp → Hp → Prop}
    (o : Out g W P σ F (bindD (dO2 i) (fun dss => bindD (liftO (rowAt dss k1)) fun r => kk dss r) st) K) :
    ∃ (dss : List (List D)) (bs : List Addr) (b : Addr) (vs : List V) (r : Nat × List D) (z1 : Int), st[i]? = some (.o2 dss) ∧ v1 = .int z1 ∧ dss[r.1]? = some r.2 ∧ bs[r.1]? = some b ∧ H b = some (.lst vs) ∧ Rl g F vs r.2 ∧ SqL g.K H a0 (bs.map V.ref) ∧ atI (bs.map V.ref) z1 = some (.ref b) ∧
      SR g (P2 P H a0 bs) σ H F (st.set i .no) ∧ Out g W P σ F (kk dss r st) K ∧ ∀ (H' F' : Hp) (st' : DSt), Same F F' → SR g (P2 P H a0 bs) σ H' F' st' → st'[i]? = some .no → H' b = H b ∧ SR g P σ H' F' (st'.set i (.o2 dss)) ∧
        ∀ (ds' : List D) (vs' : List V), Rl g F' vs' ds' → SR g P σ (upd H' b (.lst vs')) F' (st'.set i (.o2 (dss.set r.1 ds'))) := by
  obtain ⟨dss, hst, o2⟩ := dO2_ok o
  obtain ⟨a, bs, hv, ha, hl, hrow, s2, back⟩ := s.hide hst
  rw [hv0] at hv; cases hv
  cases er : rowAt dss k1 with
  | none => simp only [er, bindD, liftO] at o2; exact o2.elim
  | some r =>
    simp only [er, bindD, liftO] at o2
    obtain ⟨z1, rfl, hj, hd⟩ := rowAt_some er
    cases rv1
    obtain ⟨b, hb⟩ : ∃ b, bs[r.1]? = some b := ⟨bs[r.1]'(by rw [hl]; exact lt_of_get hd), List.getElem?_eq_getElem _⟩
    obtain ⟨vs, hbv, rvs⟩ := hrow r.1 b r.2 hb hd
    refine ⟨dss, bs, b, vs, r, z1, hst, rfl, hd, hb, hbv, rvs, sqL_of ha, atI_of (by rw [List.length_map, hl]; exact hj) (by rw [List.getElem?_map, hb]; rfl), s2, o2, fun H' F' st' le s' hno => ?_⟩
    obtain ⟨h1, h2, h3⟩ := back H' F' st' le s' hno
    exact ⟨h1 b (.inr (List.mem_of_getElem? hb)), h2, fun ds' vs' rr => h3 r.1 b ds' vs' hb rr⟩
theorem es_store2 {i : Nat} (he : PS X s (tAsg (tE g W k) (gSub (tOp (rIx g.K) (tVar i) (tE g W f)) (tE g W h) rSetL))) : PS X s (tS g W (sStore2 i f h k)) := he.imp fun D σ H ⟨P, F, st, s, o⟩ =>
  ⟨P, F, st, s, o.bind.imp fun x st0 H0 F0 le0 s0 o0 v rx => by
    have o0 : Out g W P σ F0 (bindD (dO2 i) (fun _ => bindD f fun k1 => bindD (dO2 i) fun dss => bindD (liftO (rowAt dss k1)) fun r => bindD (hideD i) fun _ => bindD (noX h) fun k2 =>
      bindD (liftO (rowAt r.2 k2)) fun q => bindD (backO i (dss.set r.1 (r.2.set q.1 x))) fun _ => retD ()) st0) fun _ st' H' F' => D.nx σ H' := by
      revert o0
      simp only [bindD]
      cases dO2 i st0 with
      | ok a st1 =>
        simp only
        cases f st1 with
        | ok k1 st2 =>
          simp only
          cases dO2 i st2 with
          | ok dss st3 =>
            simp only
            cases (liftO (rowAt dss k1) : Den _) st3 with
            | ok r st4 =>
              simp only [hideD]
              cases noX h (st4.set i .no) with
              | ok k2 st5 =>
                simp only
                cases (liftO (rowAt r.2 k2) : Den _) st5 with
                | ok q st6 =>
                  simp only
                  cases backO i (dss.set r.1 (r.2.set q.1 x)) st6 with
                  | ok u st7 => exact fun o H' F' le s' => o σ H' F' le s'
                  | exn c fs st7 => exact fun o cls dd H' F' le s' rx => o cls dd σ H' F' le s' rx
                  | stuck => exact fun o => o
                | exn c fs st7 => exact fun o cls dd H' F' le s' rx => o cls dd σ H' F' le s' rx
                | stuck => exact fun o => o
              | exn c fs st7 => exact fun o cls dd H' F' le s' rx => o cls dd σ H' F' le s' rx
              | stuck => exact fun o => o
            | exn c fs st7 => exact fun o cls dd H' F' le s' rx => o cls dd σ H' F' le s' rx
            | stuck => exact fun o => o
          | exn c fs st7 => exact fun o cls dd H' F' le s' rx => o cls dd σ H' F' le s' rx
          | stuck => exact fun o => o
        | exn c fs st7 => exact fun o cls dd H' F' le s' rx => o cls dd σ H' F' le s' rx
        | stuck => exact fun o => o
      | exn c fs st7 => exact fun o cls dd H' F' le s' rx => o cls dd σ H' F' le s' rx
      | stuck => exact fun o => o
    obtain ⟨dss0, hst0, o1⟩ := dO2_ok o0
    obtain ⟨a0, bs0, hv0, _⟩ := s0.hide hst0
    refine ⟨_, hv0, P, F0, st0, s0, o1.bind.imp fun k1 st1 H1 F1 le1 s1 o1 v1 rv1 => ?_⟩
    obtain ⟨dss, bs, b, vs, r, z1, hst, rfl, hd, hb, hbv, rvs, hsq, hat, s2, o2, back⟩ := row2 s1 hv0 rv1 o1
    refine .inl ⟨a0, bs.map V.ref, z1, .ref b, rfl, rfl, hsq, hat, ?_⟩
    refine ⟨P2 P H1 a0 bs, F1, st1.set i .no, s2, ?_⟩
    revert o2
    simp only [bindD, hideD, noX]
    cases h (st1.set i .no) with
    | ok k2 st2 =>
      intro o5 H2 F2 le2 s3 v2 rv2
      simp only [liftO] at o5
      cases hq : rowAt r.2 k2 with
      | none => rw [hq] at o5; exact o5.elim
      | some q =>
        rw [hq] at o5
        simp only [backO] at o5
        cases hno : st2[i]? with
        | none => rw [hno] at o5; exact o5.elim
        | some sl =>
          rw [hno] at o5
          cases sl with
          | no =>
            obtain ⟨hH, _, put⟩ := back H2 F2 st2 le2 s3 hno
            obtain ⟨z2, rfl, hj2, hd2⟩ := rowAt_some hq
            cases rv2
            refine ⟨b, vs, z2, q.1, rfl, rfl, by rw [hH]; exact hbv, by rw [rvs.length]; exact hj2, ?_⟩
            exact o5 _ F2 le2 (put (r.2.set q.1 x) (vs.set q.1 v) ((rvs.mono le2).set ((rx.mono le1).mono le2) q.1))
          | _ => exact o5.elim
    | exn c fs st2 => exact fun o5 => o5.elim
    | stuck => exact fun o5 => o5.elim⟩
end
end DL
namespace PySem
namespace ErrX
open PySem.W PySem.Calls PyProof.Rows PySem.HandSPX
def eA (a : Str) (p1 p2 : Pos) : Arguments := { posonlyargs := [], args := [{ arg := "self", annotation := none, pos := p1 }, { arg := a, annotation := none, pos := p2 }], vararg := none, kwonlyargs := [], kw_defaults := [], kwarg := none, defaults := [] }
def eB (e : Expr) (a f : Str) (p0 p1 p2 p3 p4 p5 p6 p7 p8 : Pos) : List Stmt := [.Expr (.Call (.Attribute (.Call (.Name "super" p0) [] [] p1) "__init__" p2) [e] [] p3) p4, .Assign [.Attribute (.Name "self" p5) f p6] (.Name a p7) p8]
def eS (a : Str) : Scope := { kind := .function, names := [(PySem.Str.ofString "self", .local), (a, .local), (PySem.Str.ofString "__class__", .free), (PySem.Str.ofString "super", .globalImplicit)], isGenerator := false, isCoroutine := false, more := [] }
/-- how the call is read (the positions are known where the text is) -/
def CallsPlain (e : Expr) (q0 q1 q2 q3 : Pos) : Prop := ∀ env : Env, eval (.Call (.Attribute (.Call (.Name "super" q0) [] [] q1) "__init__" q2) [e] [] q3) env = (do
      let ov ← attributeBase (.Call (.Name "super" q0) [] [] q1) "__init__" env (eval (.Call (.Name "super" q0) [] [] q1) env)
      standAt q2.atName
      let (f, first) ← holding [ov] (getMethod ov "__init__" (do return (← importBound (.Call (.Name "super" q0) [] [] q1) env).getD true))
      callWith q3 f first (backTo q3 (starEach [e] env)) [])
/-- the text: parameter a, field f; e the argument handed on -/
structure ErrTxt (P : Program) (K : Frag) (x qual : Str) (C fI : Addr) (a f : Str) (e : Expr) : Prop where
  okE : (∃ p, e = .Name a p) ∨ ∃ m j p, e = .Constant (.str m) j p
  bnd : ∀ (q : Str) (body : List Stmt) (doc pm : Value) (an : Option Addr) (cdv ct : Value) (cc : Addr) (p1 p2 : Pos) (s : Shared) (u v : Value), BindsTo s (ksFn "__init__" q (eA a p1 p2) body (eS a) .none .none doc pm an cdv ct cc) ⟨[u, v], []⟩ [("self", u), (a, v)]
  na : a ≠ "self" ∧ a ≠ "__class__" ∧ a ≠ "super" ∧ (a == ("__debug__" : Str)) = false
  cls : ∃ nm q N bs bm sn sub ab col dd k0 k1 k2 k3 k5, K.lookup C = some (excClassObj nm q C N bs bm true sn sub ab col dd k0 k1 k2 k3 k5 "ValueError.__new__") ∧ refsVE bm = true ∧ alongIn K "__init__" bm = some (some (.builtin "ValueError.__init__"))
  sa : findIn K (.ref C) "__setattr__" = some (some (.builtin "object.__setattr__"))
  noN : findIn K (.ref C) f = some none
  iC : findIn K (.ref C) "__init__" = some (some (.ref fI))
  tC : typeIn K (.ref fI) = some (.type "function")
  kC : keepIn K (.ref C) = true
  exC : subIn K (.ref C) (.type "BaseException") = some true
  veC : subIn K (.ref C) (.type "ValueError") = some true
  meC : mroIn K C (.ref C) = some true
  tyC : typeIn K (.ref C) = some (.type "type")
  opq : nsIn K cStatics "thirdparty.any" = some none
  sup : nsIn K mainGlobals "super" = some none
  psup : (P.main.scope.names.lookup ("super" : Str)).isSome = false
  fn : ∃ (oc : Value) (od : Option Addr) (doc pm : Value) (an : Option Addr) (cda : Addr) (ct : Value) (osl : Array (Option Value)) (cc : Addr) (p1 p2 q0 q1 q2 q3 q4 q5 q6 q7 q8 : Pos) (ccl cl : Value) (cdd cld : Option Addr) (ccs csl : Array (Option Value)) (vs : Array Value) (file : Str) (tf : Tok),
    K.lookup fI = some ⟨oc, od, .func (ksFn "__init__" qual (eA a p1 p2) (eB e a f q0 q1 q2 q3 q4 q5 q6 q7 q8) (eS a) .none .none doc pm an (.ref cda) ct cc), osl⟩ ∧ codeIn K (.ref cda) qual = true ∧
      K.lookup cda = some ⟨ccl, cdd, .fields vs, ccs⟩ ∧ vs[2]? = some (.str file tf) ∧ ((P.main.file : Str) == file) = true ∧ K.lookup cc = some ⟨cl, cld, .cell (some (.ref C)), csl⟩ ∧ CallsPlain e q0 q1 q2 q3
theorem one_size (v : Value) : [v].length ≤ sizeLine := by
  rw [sizeLine_eq]
  exact (by decide : 1 ≤ 16777216)
/-- what __init__ leaves of a fresh exception at x -/
structure InitEnd (h h' : Heap) (x C dx : Addr) (f : Str) (v : Value) : Prop where
  keep : ∀ b o, b ≠ x → h.get? b = some o → h'.get? b = some o
  obj : ∃ t1, h'.get? x = some { cls := .ref C, dict := some dx, data := .fields #[.ref t1, .none, .none, .none, .bool false, .none] }
  dbig : h.objs.size ≤ dx
  dne : dx ≠ x
  ns : h'.Ns1 dx (fun y => if y = f then some v else none)
structure OwnMade (h h' : Heap) (e C d : Addr) (f : Str) (v : Value) : Prop where
  keep : ∀ b o, h.get? b = some o → h'.get? b = some o
  new : h.objs.size ≤ e
  obj : ∃ oe vs, h'.get? e = some oe ∧ oe.cls = .ref C ∧ oe.dict = some d ∧ oe.data = .fields vs ∧ vs[1]? = some .none
  dbig : h.objs.size ≤ d
  dne : d ≠ e
  ns : h'.Ns1 d (fun y => if y = f then some v else none)
theorem bcls {C : Addr} {l : List Value} : ((Value.ref C :: l).dropWhile (· != .ref C)).drop 1 = l := by simp [List.dropWhile_cons]
theorem ldC {M : Model} {A : Around} {E : Value → Shared → Prop} {s : Shared} {name : Str} {scope : Scope} {L f cc : Addr} {cd : Value} {m : Str → Option Value} {x : Str} {pos : Pos} {v : Value} {Q : Value → Shared → Prop} (hn : s.heap.Ns L m) (hv : m x = some v) (h : Q v s)
    (hk : scope.kind = .function) (hl : (ksEnv name scope L f cd cc).kindOf x = some .local) (hd : (x == ("__debug__" : Str)) = false) :
    wpAny M A (eval (.Name x pos) (ksEnv name scope L f cd cc)) Q E s := wpAny_Name (wpAny_loadName_local hk hl hn hv h) hd
section
variable {prog : Program} {w : World} {A : Around} {E : Value → Shared → Prop} {R : Result → Shared → Prop} {s : Shared} {K : Frag} {mg mb : Str → Option Value} {C fI : Addr} {xn qual a f : Str} {e : Expr}
theorem err_init (T : ErrTxt prog K xn qual C fI a f e) {x t0 : Addr} {v : Value} (X : K.In s.heap) (Gg : s.heap.Ns mainGlobals mg) (Gb : s.heap.Ns builtinsNs mb) (hbs : mb "super" = some (.type "super")) (hlim : s.heap.NoLimit) (hx : s.heap.get? x = some (excO C t0)) (hnx : K.lookup x = none) (hroom : A.depth < recursionLimit)
    (hq : ∀ h' tk dx, InitEnd s.heap h' x C dx f v → R (.ok (.ret .none)) { s with heap := h', toks := tk }) :
    codeAny (model prog w) A (.call (.ref fI) ⟨[.ref x, v], []⟩) R s := by
  obtain ⟨oc, od, doc, pm, an, cda, ct, osl, cc, p1, p2, q0, q1, q2, q3, q4, q5, q6, q7, q8, ccl, cl, cdd, cld, ccs, csl, vs, file, tf, ho, hcd, hcda, hvs, hfile, hcell, hplain⟩ := T.fn
  obtain ⟨nm, q, N, bs, bm, sn, sub, ab, col, dd, k0, k1, k2, k3, k5, hC, hbm, hal⟩ := T.cls
  obtain ⟨na1, na2, na3, na4⟩ := T.na
  have hcl : clsIn K C = some { name := nm, bases := bs, mro := .ref C :: bm, ns := N, qualname := q, hasDict := true, slotNames := sn, subclasses := sub, abstract := ab, collection := col, hasDel := false } := by unfold clsIn; rw [hC] <;> rfl
  have nself : (("self" : Str) == a) = false := by simpa using fun z : ("self" : Str) = a => na1 z.symm
  have aself : (a == ("self" : Str)) = false := by simpa using na1
  have lka : (eS a).names.lookup a = some .local := by
    show List.lookup a [(PySem.Str.ofString "self", NameKind.local), (a, .local), (PySem.Str.ofString "__class__", .free), (PySem.Str.ofString "super", .globalImplicit)] = some .local
    rw [List.lookup_cons]
    split
    · rfl
    · rw [List.lookup_cons]; simp
  have lks : (eS a).names.lookup ("super" : Str) = some .globalImplicit := by
    have h1 : (("super" : Str) == PySem.Str.ofString "self") = false := by decide
    have h2 : (("super" : Str) == a) = false := by simpa using fun z : ("super" : Str) = a => na3 z.symm
    have h3 : (("super" : Str) == PySem.Str.ofString "__class__") = false := by decide
    have h4 : (("super" : Str) == PySem.Str.ofString "super") = true := by decide
    show List.lookup _ [(PySem.Str.ofString "self", NameKind.local), (a, .local), (PySem.Str.ofString "__class__", .free), (PySem.Str.ofString "super", .globalImplicit)] = _
    simp only [List.lookup_cons, h1, h2, h3, h4]
  have lkc : (eS a).names.lookup ("__class__" : Str) = some .free := by
    have h1 : (("__class__" : Str) == PySem.Str.ofString "self") = false := by decide
    have h2 : (("__class__" : Str) == a) = false := by simpa using fun z : ("__class__" : Str) = a => na2 z.symm
    have h3 : (("__class__" : Str) == PySem.Str.ofString "__class__") = true := by decide
    show List.lookup _ [(PySem.Str.ofString "self", NameKind.local), (a, .local), (PySem.Str.ofString "__class__", .free), (PySem.Str.ofString "super", .globalImplicit)] = _
    simp only [List.lookup_cons, h1, h2, h3]
  have hfd : ∀ L, (callEnv (ksFn "__init__" qual (eA a p1 p2) (eB e a f q0 q1 q2 q3 q4 q5 q6 q7 q8) (eS a) .none .none doc pm an (.ref cda) ct cc) L fI) = ksEnv qual (eS a) L fI (.ref cda) cc := fun _ => rfl
  refine ks_codeAny_call_defAt (fd := ksFn "__init__" qual (eA a p1 p2) (eB e a f q0 q1 q2 q3 q4 q5 q6 q7 q8) (eS a) .none .none doc pm an (.ref cda) ct cc) (body := eB e a f q0 q1 q2 q3 q4 q5 q6 q7 q8) (binds := [("self", .ref x), (a, v)]) hroom (X _ _ ho) rfl hlim (codeRec_of X hcd) rfl ?_ ?_ ?_ (fun h₁ hns k => ?_) rfl rfl rfl
  · exact T.bnd _ _ _ _ _ _ _ _ _ _ _ _ _
  · intro y hy
    have hy : y ∈ [(PySem.Str.ofString "self", NameKind.local), (a, .local), (PySem.Str.ofString "__class__", .free), (PySem.Str.ofString "super", .globalImplicit)] := hy
    simp only [List.mem_cons, List.not_mem_nil, or_false] at hy
    rcases hy with rfl | rfl | rfl | rfl <;> simp
  · intro y hy
    simp only [List.mem_cons, List.not_mem_nil, or_false] at hy
    rcases hy with rfl | rfl
    · rfl
    · exact lka
  have X₁ : K.In h₁ := X.keeps k
  have hx₁ := k _ _ hx
  have hC₁ := X₁ _ _ hC
  have lself : List.lookup ("self" : Str) ([(("self" : Str), Value.ref x), (a, v)].reverse) = some (.ref x) := by
    show List.lookup ("self" : Str) [(a, v), (("self" : Str), Value.ref x)] = _
    rw [List.lookup_cons, nself]; rfl
  have larg : List.lookup a ([(("self" : Str), Value.ref x), (a, v)].reverse) = some v := by
    show List.lookup a [(a, v), (("self" : Str), Value.ref x)] = _
    rw [List.lookup_cons]; simp
  have hxC : x ≠ C := fun z => by
    have := X₁ _ _ hC
    rw [← z, hx₁] at this
    cases this
  show wpAt (model prog w) _ _ (execs (eB e a f q0 q1 q2 q3 q4 q5 q6 q7 q8) (ksEnv qual (eS a) s.heap.objs.size fI (.ref cda) cc)) _ _ _
  refine ks_wpAt_execs_cons (ks_wpAt_Expr_any (ks_wpAt_MethodCall ?_ (hplain _)) rfl rfl)
  refine ks_wpAt_super_base (env := ksEnv qual (eS a) s.heap.objs.size fI (.ref cda) cc) lks lkc (by decide) rfl (X₁ _ _ ho) rfl rfl rfl (X₁ _ _ hcda) rfl hvs hfile T.psup ?_
  refine ks_loadName_global rfl lks (loadGlobal_builtin (env := ksEnv qual (eS a) s.heap.objs.size fI (.ref cda) cc) (mg := mg) (mb := mb) (Gg.keeps k) (PySem.W.mg_none_of X Gg T.sup) (Gb.keeps k) hbs ⟨rfl, ?_⟩)
  refine wpAny_loadName_free rfl lkc rfl ⟨_, X₁ _ _ hcell, rfl⟩ ?_
  refine wpAny_loadName_local rfl rfl hns lself ?_
  refine ks_wpAny_isType_cls hC₁ rfl ⟨rfl, ?_⟩
  refine ks_wpAny_call_super hC₁ rfl hx₁ rfl (fun c z => by cases z) (looks_mroIn X₁ T.meC) (fun h₂ hso k₂ => ?_)
  have X₂ : K.In h₂ := X₁.keeps k₂
  have hx₂ := k₂ _ _ hx₁
  have hns₂ := hns.keeps k₂
  have hTx : Looks (model prog w) h₂ (typeOf (.ref x)) (.ref C) := fun A Q E s k q => wpAny_typeOf_ref (k _ _ hx₂) q
  refine kxs_getMethod (K := K) (l := bm) kxs_ValueError hso (looks_opaque X₂ T.opq) (l₀ := .ref C :: bm) (fun A Q E s k q => wpAny_bind ((looks_clsIn X₂ hcl) A _ E s k (wpAny_pure q))) bcls X₂ hal (hTx.andThen (looks_subIn X₂ T.veC)) hxC (by decide) ?_
  have hst : starEach (e :: []) (ksEnv qual (eS a) s.heap.objs.size fI (.ref cda) cc) = (false, eval e (ksEnv qual (eS a) s.heap.objs.size fI (.ref cda) cc)) :: starEach [] (ksEnv qual (eS a) s.heap.objs.size fI (.ref cda) cc) := by
    rcases T.okE with ⟨_, h⟩ | ⟨_, _, _, h⟩ <;> rw [h] <;> rfl
  rw [hst]
  refine kxs_callWith (i := "ValueError.__init__") (x := x) rfl (evalArgs_plain ?_)
  have hev : ∀ {E : Value → Shared → Prop} {s' : Shared} {Q : Value → Shared → Prop}, s'.heap.Ns s.heap.objs.size (fun y => [(("self" : Str), Value.ref x), (a, v)].reverse.lookup y) → (∀ u tk, Q u { s' with toks := tk }) → wpAny (model prog w) (A.deeper (ksEnv qual (eS a) s.heap.objs.size fI (.ref cda) cc)) (eval e (ksEnv qual (eS a) s.heap.objs.size fI (.ref cda) cc)) Q E s' := by
    intro E s' Q hn h
    rcases T.okE with ⟨_, he⟩ | ⟨_, _, _, he⟩
    · rw [he]
      exact ldC hn larg (h _ s'.toks) rfl lka na4
    · rw [he]
      exact Calls.Constant_str (h _ _)
  refine Calls.spliced_cons (hev (hns₂.keeps fun b o z => Heap.get?_push_of_some _ z) fun u tk => ?_)
  refine Calls.spliced_nil ⟨Heap.get?_push_at rfl rfl, ?_⟩
  have hu : (h₂.push (kxs_mw "ValueError.__init__" x)).get? h₂.objs.size = some (kxs_mw "ValueError.__init__" x) := Heap.get?_push_at rfl rfl
  have up₃ : ∀ b o, h₂.get? b = some o → (h₂.push (kxs_mw "ValueError.__init__" x)).get? b = some o := fun b o z => Heap.get?_push_of_some _ z
  have hC₃ := up₃ _ _ (k₂ _ _ hC₁)
  have hx₃ := up₃ _ _ hx₂
  -- the call of the bound __init__
  refine wpAny_call (codeAny_of_tree ?_)
  show wpAny _ _ (callAny (.ref h₂.objs.size) ⟨[u], []⟩) _ _ _
  simp only [callAny]
  refine wpAny_bind (wpAny_load hu ?_)
  simp only [kxs_mw, show (Value.type "method-wrapper" == Value.type "method" || Value.type "method-wrapper" == Value.type "builtin_function_or_method" || Value.type "method-wrapper" == Value.type "method-wrapper") = true by decide, if_true]
  refine KFB.if_so (by decide) ?_
  refine wpAny_bind (check_bound_init F.excBase_ValueError.toExcCallFacts hC₃ hx₃ rfl ?_)
  refine wpAny_bind (wpAny_pure (wpAny_pure ?_))
  refine ⟨plainId_quiet F.excBase_ValueError.init.plain _, codeAny_builtin F.excBase_ValueError.initEntry ?_⟩
  refine exc_init_tree (cls := .ref C) (t0 := t0) (dv := none) (c2 := .none) (c3 := .none) (b4 := .bool false) hx₃ (one_size u) fun h₄ k₄ hx₄ _ => ?_
  have all : ∀ b o, b ≠ x → s.heap.get? b = some o → h₄.get? b = some o := fun b o hb z => k₄ b o hb (up₃ b o (k₂ b o (k b o z)))
  have X₄ : K.In h₄ := fun b o z => all b o (fun y => by rw [y, hnx] at z; cases z) (X b o z)
  have hxL : s.heap.objs.size ≠ x := Nat.ne_of_gt (Heap.lt_size hx)
  have hns₄ : h₄.Ns s.heap.objs.size (fun y => [(("self" : Str), Value.ref x), (a, v)].reverse.lookup y) := by
    obtain ⟨oL, es, ep, hL, r⟩ := hns
    exact ⟨oL, es, ep, k₄ _ _ hxL (up₃ _ _ (k₂ _ _ hL)), r⟩
  show wpAt _ _ _ (execs _ _) _ _ _
  refine wpAt_of_wpAny (wpAny_execs_cons (plainObj_wpAny_Assign_Attribute ?_))
  refine ldC (v := v) hns₄ larg (ldC (v := .ref x) hns₄ lself ?_ rfl rfl (by decide)) rfl lka na4
  refine set_plain X₄ (ox := excO C _) (od := none) ⟨hx₄, rfl, rfl, trivial⟩ T.sa ?_
  refine exc_osa X₄ hx₄ hcl (show refsVE (.ref C :: bm) = true from hbm) rfl T.noN (fun h₅ tk₅ dx k₅ dn dne hx₅ hn₅ => ?_)
  show wpAny _ _ (execs _ _) _ _ _
  refine wpAny_execs_nil (hq h₅ tk₅ dx ⟨fun b o hb z => k₅ b o hb (all b o hb z), ⟨_, hx₅⟩, ?_, dne, hn₅⟩)
  have z0 : h₂.objs.size ≠ x := Nat.ne_of_gt (Heap.lt_size hx₂)
  have z1 := Heap.lt_size (k₄ _ _ z0 hu)
  have z2 : s.heap.objs.size < h₂.objs.size := (hns.keeps k₂).lt
  have z3 : h₄.objs.size ≤ dx := dn
  show s.heap.objs.size ≤ dx
  exact Nat.le_trans (Nat.le_of_lt (Nat.lt_trans z2 z1)) z3
theorem err_made (T : ErrTxt prog K xn qual C fI a f e) {v : Value} (X : K.In s.heap) (Gg : s.heap.Ns mainGlobals mg) (Gb : s.heap.Ns builtinsNs mb) (hbs : mb "super" = some (.type "super")) (hlim : s.heap.NoLimit) (hroom : A.depth + 1 < recursionLimit)
    (hq : ∀ h' tk e' d, OwnMade s.heap h' e' C d f v → R (.ok (.ret (.ref e'))) { s with heap := h', toks := tk }) :
    codeAny (model prog w) A (.call (.ref C) ⟨[v], []⟩) R s := by
  obtain ⟨nm, q, N, bs, bm, sn, sub, ab, col, dd, k0, k1, k2, k3, k5, hC, hbm, _⟩ := T.cls
  obtain ⟨hp, g, dr, tk, os⟩ := s
  have k : ∀ b o, hp.get? b = some o → ((hp.push (kdv_tup [v])).push (excO C hp.objs.size)).get? b = some o := fun b o e => Heap.get?_push_of_some _ (Heap.get?_push_of_some _ e)
  have hget : ((hp.push (kdv_tup [v])).push (excO C hp.objs.size)).get? (hp.objs.size + 1) = some (excO C hp.objs.size) := by heap_get
  have hnx : K.lookup (hp.objs.size + 1) = none := by
    cases e : K.lookup (hp.objs.size + 1) with
    | none => rfl
    | some o =>
      have z : hp.get? (hp.objs.size + 1) = some o := X _ _ e
      exact absurd (Nat.lt_of_succ_lt (Heap.lt_size z)) (Nat.lt_irrefl _)
  refine call_own F.excBase_ValueError (fun X => refsVE_contains X bm hbm) (X _ _ hC) (looks_findIn X T.iC) (fun self => bind_fn X self T.tC) (one_size v) ?_
  refine err_init (s := ⟨(hp.push (kdv_tup [v])).push (excO C hp.objs.size), g, dr, tk, os⟩) T (X.keeps k) (Gg.keeps k) (Gb.keeps k) hbs (hlim.keeps k) hget hnx ?_ fun h' tk' dx ⟨k', ⟨t1, hx⟩, dn, dne, hns⟩ => ?_
  · show A.depth + 1 < recursionLimit
    exact hroom
  · have old : ∀ b o, hp.get? b = some o → h'.get? b = some o := fun b o e => k' b o (Nat.ne_of_lt (Nat.lt_succ_of_lt (Heap.lt_size e))) (k b o e)
    have z : hp.objs.size + 1 + 1 ≤ dx := by
      first
        | (simpa only [Heap.size_push] using dn)
        | exact dn
        | (have q := dn; rw [Heap.size_push, Heap.size_push] at q; exact q)
    exact ⟨rfl, hq h' tk' (hp.objs.size + 1) dx ⟨old, Nat.le_succ _, ⟨_, _, hx, rfl, rfl, rfl, rfl⟩, Nat.le_trans (Nat.le_trans (Nat.le_succ _) (Nat.le_succ _)) z, dne, hns⟩⟩
end
end ErrX
end PySem
namespace L2
open PySem PySem.Spec PyProof.Rows
def Ends.clr (D : Ends) (i : Nat) : Ends := { nx := fun σ' H' => D.nx (σ'.set i none) H', rt := D.rt, bk := fun σ' H' => D.bk (σ'.set i none) H', ct := fun σ' H' => D.ct (σ'.set i none) H' }
abbrev HdT : Type := Value × Option Nat × (Addr → Value → Option Addr → TS)
def inSuite (D : Ends) (h : HdT) (a : Addr) (cls : Value) (d : Option Addr) (σ : St) (H : Hp) : Prop := match h.2.1 with
  | none => h.2.2 a cls d D σ H
  | some i => h.2.2 a cls d (D.clr i) (σ.set i (some (.ref a))) H
def wMix (K : PySem.W.Frag) (Wout : WX) (D : Ends) : List HdT → WX
  | [] => Wout
  | h :: r => fun cls d σ H => ∃ b, PySem.W.exmOne K cls h.1 = some b ∧ (b = true → ∀ a, H a = none → inSuite D h a cls d σ H) ∧ (b = false → wMix K Wout D r cls d σ H)
inductive HdsM (X : Cx) : List ExceptHandler → List HdT → Prop
  | nil : HdsM X [] []
  | un {x : Str} {cv : Value} {tz : Addr → Value → Option Addr → TS} {b₀ : Stmt} {rest : List Stmt} {np pq : Pos} {hq : List ExceptHandler} {l : List HdT} (nmd : Names X x cv)
      (su : ∀ (a : Addr) (oe : Obj) (cls : Value) (d : Option Addr) (pn : List (Addr × Obj)), Zc cls d oe → (∃ vs, oe.data = .fields vs) → PSs (X.suite a ((a, oe) :: pn)) (b₀ :: rest) (tz a cls d)) (more : HdsM X hq l) :
      HdsM X (.ExceptHandler (some (.Name x np)) none (b₀ :: rest) pq :: hq) ((cv, none, tz) :: l)
  | nm {x n : Str} {i : Nat} {cv : Value} {tz : Addr → Value → Option Addr → TS} {b₀ : Stmt} {rest : List Stmt} {np pq : Pos} {hq : List ExceptHandler} {l : List HdT} (nmd : Names X x cv) (slotN : X.N[i]? = some n) (slotL : X.env.kindOf n = some .local)
      (su : ∀ (a : Addr) (oe : Obj) (cls : Value) (d : Option Addr) (pn : List (Addr × Obj)), Zc cls d oe → (∃ vs, oe.data = .fields vs) → PSs (X.suite a ((a, oe) :: pn)) (b₀ :: rest) (tz a cls d)) (more : HdsM X hq l) :
      HdsM X (.ExceptHandler (some (.Name x np)) (some n) (b₀ :: rest) pq :: hq) ((cv, some i, tz) :: l)
section
variable {X : Cx} {blk : List Stmt} {hd₀ : ExceptHandler} {hq : List ExceptHandler} {l : List HdT} {pos : Pos} {tb : WX → TS} {Wo : WX}
theorem ps_try_mix (hstk : X.stack = X.env :: X.outer) (hfrm : X.env.frame = some X.env.locals) (ndp : X.N.Nodup) (tk : Takes X Wo)
    (hbody : ∀ (W : WX) (pn : List (Addr × Obj)) (xe : Value → Shared → Prop), Takes (X.tr pn xe) W → PassesOwn (model X.prog X.w) X.A X.env xe → PSs (X.tr pn xe) blk (tb W))
    (hall : HdsM X (hd₀ :: hq) l) : PS X (.Try blk (hd₀ :: hq) [] [] pos) (fun D σ H => tb (wMix X.K Wo D l) D σ H) := by
  refine ⟨fun pins s σ H D I hw => ?_⟩
  have okX := I.ok
  have frm : X.A.frames = some (X.env :: X.outer) := by rw [okX.frames, hstk]
  refine wpAny_Try_except ?_
  refine wpAny_mono ((hbody (wMix X.K Wo D l) (X.pn ++ pins) (fun e s₁ => wpAny (model X.prog X.w) X.A (noteFrame e X.env) (fun _ s₂ => wpAny (model X.prog X.w) X.A (setFlight e none) (fun _ s₃ =>
    wpAny (model X.prog X.w) X.A (handleBy e X.env (hd₀ :: hq)) (SP X pins D) X.xe s₃) X.xe s₂) X.xe s₁) (fun u s' xx => ?_) PassesOwn.looking).run [] s σ H D (I.toTry _) hw) (fun f s1 fin1 => ?_) (fun e s1 he => he)
  · obtain ⟨a, B, sI, pins', σ', H', cls, d, rfl, J0, nb, upS, sky0, na, os, ag, w0⟩ := xx
    have J : Inv X pins σ' H' sI := J0.ofTry okX
    have sky1 : Sky B (X.env :: X.outer) a (Zc cls d) X.env.locals s'.heap := by rw [← hstk]; exact sky0
    show wpAny (model X.prog X.w) X.A (noteFrame (.ref a) X.env) _ _ _
    refine Sky.land Zc.steady frm hfrm sky1 fun h3 fl3 up3 => ?_
    have J3 : Inv X pins σ' H' { s' with heap := h3 } := J.landed nb fl3.1 (upS.trans up3) os ag
    obtain ⟨oe3, vs3, he3, hz3, hd3⟩ := fl3.there
    have nfr : a ∉ frs (X.env :: X.outer) := fun hm => by
      obtain ⟨_, o', e', hnf⟩ := fl3.2.2.1.mem hm
      rw [he3] at e'; cases e'
      exact hnf _ hd3
    have nL : a ≠ X.env.locals := fun z => nfr (List.mem_filterMap.mpr ⟨X.env, List.mem_cons_self, by rw [hfrm, z]⟩)
    have nF : a ∉ X.fs := fun hm => by
      obtain ⟨e, he, q⟩ := List.mem_filterMap.mp hm
      exact nfr (List.mem_filterMap.mpr ⟨e, List.mem_cons_of_mem _ he, q⟩)
    have S3 := J3.suite he3 hd3 na nL nF
    have LT : PySem.W.Looks (model X.prog X.w) h3 (typeOf (.ref a)) cls := fun A Q E s k q => wpAny_typeOf_ref (k _ _ he3) (by rw [hz3.1]; exact q)
    have look : ∀ {x : Str} {cv : Value} {np : Pos} {Q : Value → Shared → Prop} {E : Value → Shared → Prop}, Names X x cv → Q cv { s' with heap := h3 } → wpAny (model X.prog X.w) (X.A.mark (some (.ref a))) (eval (.Name x np) X.env) Q E { s' with heap := h3 } := fun {x cv np Q E} hc q => by
      obtain ⟨hg, hdbg, hm | ⟨hm, hv, hnn⟩⟩ := hc
      · exact ld_glob (X := X.suite a ((a, oe3) :: (X.pn ++ pins))) S3 hg hm q hdbg
      · exact ld_blt (X := X.suite a ((a, oe3) :: (X.pn ++ pins))) S3 hg hm hv q hnn hdbg
    have walk : ∀ {hk : List ExceptHandler} {lk : List HdT}, HdsM X hk lk → wMix X.K Wo D lk cls d σ' H' → wpAny (model X.prog X.w) X.A (handleBy (.ref a) X.env hk) (SP X pins D) X.xe { s' with heap := h3 } := by
      intro hk lk hm
      induction hm with
      | nil =>
        intro w
        refine wpAny_handleBy_nil ?_
        obtain ⟨_, _, _, oe, vs, T, oT, ts', he, hz, hdd, h1, hr⟩ := id fl3
        unfold PySem.passOn
        refine wpAny_bind (wpAny_field he hdd h1 ?_)
        rw [if_neg (show ¬ ((Value.ref T == Value.none) = true) from by simp)]
        have on : wpAny (model X.prog X.w) X.A (setFlight (.ref a) X.env.frame) (fun _ s4 => wpAny (model X.prog X.w) X.A (throw (.ref a) : Sem Flow) (SP X pins D) X.xe s4) X.xe { s' with heap := h3 } := by
          rw [hfrm]
          refine HandSPX.setFlight_upZ fl3 fun h4 hh4 up4 => wpAny_throw (tk _ _ ?_)
          exact ⟨a, B, sI, pins, σ', H', cls, d, rfl, J, nb, (upS.trans up3).trans up4, .inr (.inr (by rw [hstk]; exact hh4)), na, os, ag, w⟩
        first
          | exact wpAny_bind (wpAny_pure (wpAny_bind on))
          | exact wpAny_bind on
      | @un x cv tz b₀ rest np pq hq2 l2 nmd su more ih =>
        intro w
        obtain ⟨b, hb1, yes, no⟩ := w
        refine wpAny_handleBy_cons (codeAny_handlers_test ?_) (by intro q; cases q)
        have LM := PySem.W.exm_one (M := model X.prog X.w) (J3.kIn) LT hb1
        refine look nmd (LM.here ?_)
        cases b with
        | true =>
          refine codeAny_handlers_suite ?_
          refine HandSPX.lands_againZ fl3 fun h4 fl4 up4 => ?_
          have J4 : Inv X pins σ' H' { s' with heap := h4 } := J.landed nb fl4.1 ((upS.trans up3).trans up4) os ag
          obtain ⟨oe4, vs4, he4, hz4, hd4⟩ := fl4.there
          have S4 := J4.suite he4 hd4 na nL nF
          refine wpAny_mono ((su a oe4 cls d (X.pn ++ pins) hz4 ⟨_, hd4⟩).run [] _ _ H' _ S4 (yes rfl a na)) (fun f s6 q => ?_) (fun _ _ z => False.elim z)
          cases f with
          | next =>
            obtain ⟨σ6, H6, S6, q6⟩ := q
            exact ⟨_, _, S6.unsuite okX, q6⟩
          | brk =>
            obtain ⟨σ6, H6, S6, q6⟩ := q
            exact ⟨_, _, S6.unsuite okX, q6⟩
          | cont =>
            obtain ⟨σ6, H6, S6, q6⟩ := q
            exact ⟨_, _, S6.unsuite okX, q6⟩
          | ret u =>
            obtain ⟨v6, σ6, H6, S6, r6, q6⟩ := q
            exact ⟨_, _, _, S6.unsuite okX, r6, q6⟩
        | false =>
          show wpAny _ X.A (handleBy (.ref a) X.env hq2) _ _ _
          exact ih (no rfl)
      | @nm x n i cv tz b₀ rest np pq hq2 l2 nmd slotN slotL su more ih =>
        intro w
        obtain ⟨b, hb1, yes, no⟩ := w
        refine wpAny_handleBy_cons (codeAny_handlers_test ?_) (by intro q; cases q)
        have LM := PySem.W.exm_one (M := model X.prog X.w) (J3.kIn) LT hb1
        refine look nmd (LM.here ?_)
        cases b with
        | true =>
          refine codeAny_handlers_suite_as ?_
          refine HandSPX.lands_againZ fl3 fun h4 fl4 up4 => ?_
          have J4 : Inv X pins σ' H' { s' with heap := h4 } := J.landed nb fl4.1 ((upS.trans up3).trans up4) os ag
          obtain ⟨oe4, vs4, he4, hz4, hd4⟩ := fl4.there
          have S4 := J4.suite he4 hd4 na nL nF
          have lcl : Loc X.env.scope n := .inl slotL
          refine store_ok (X := X.suite a ((a, oe4) :: (X.pn ++ pins))) (v := .ref a) S4 ndp slotN lcl rfl (fun s5 S5 => ?_) (.inr slotL)
          refine wpAny_mono ((su a oe4 cls d (X.pn ++ pins) hz4 ⟨_, hd4⟩).run [] s5 _ H' _ S5 (yes rfl a na)) (fun f s6 q => ?_) (fun _ _ z => False.elim z)
          have close : ∀ {σ6 : St} {H6 : Hp} {Q : Shared → Prop}, Inv (X.suite a ((a, oe4) :: (X.pn ++ pins))) [] σ6 H6 s6 → (∀ s7, Inv X pins (σ6.set i none) H6 s7 → Q s7) →
              wpAny (model X.prog X.w) X.A (do bindName X.env n .none; unbindBehindTheSuite X.env n pq) (fun _ s7 => Q s7) X.xe s6 := fun {σ6 H6 Q} S6 hq => gone_ok (S6.unsuite okX) ndp slotN slotL hq
          cases f with
          | next =>
            obtain ⟨σ6, H6, S6, q6⟩ := q
            exact close S6 fun s7 J7 => ⟨_, _, J7, q6⟩
          | brk =>
            obtain ⟨σ6, H6, S6, q6⟩ := q
            exact close S6 fun s7 J7 => ⟨_, _, J7, q6⟩
          | cont =>
            obtain ⟨σ6, H6, S6, q6⟩ := q
            exact close S6 fun s7 J7 => ⟨_, _, J7, q6⟩
          | ret u =>
            obtain ⟨v6, σ6, H6, S6, r6, q6⟩ := q
            exact close S6 fun s7 J7 => ⟨_, _, _, J7, r6, q6⟩
        | false =>
          show wpAny _ X.A (handleBy (.ref a) X.env hq2) _ _ _
          exact ih (no rfl)
    exact walk hall w0
  · cases f with
    | next =>
      obtain ⟨σ', H', Jn, q⟩ := fin1
      exact wpAny_execs_nil ⟨σ', H', Jn.ofTry okX, q⟩
    | brk =>
      obtain ⟨σ', H', Jn, q⟩ := fin1
      exact ⟨σ', H', Jn.ofTry okX, q⟩
    | cont =>
      obtain ⟨σ', H', Jn, q⟩ := fin1
      exact ⟨σ', H', Jn.ofTry okX, q⟩
    | ret u =>
      obtain ⟨v, σ', H', Jn, r, q⟩ := fin1
      exact ⟨v, σ', H', Jn.ofTry okX, r, q⟩
end
def tMkErr (C : Addr) (f : Str) (ta : TA) : St → Hp → XK → Prop := fun σ H Q => ta σ H fun vs H1 => ∃ v, vs = [v] ∧ ∀ d, H1 d = none → Q (.ref C) (some d) (upd H1 d (.xd [(f, v)]))
theorem relO_one {f : Str} {v : V} {v' : Value} (r : RelV v v') (y : Str) : RelO (List.lookup y [(f, v)]) (if y = f then some v' else none) := by
  by_cases hw : y = f
  · subst hw
    rw [if_pos rfl]
    have q : List.lookup y [(y, v)] = some v := by simp [List.lookup]
    rw [q]
    exact r
  · rw [if_neg hw]
    have qw : (y == f) = false := by simpa using hw
    have q2 : List.lookup y [(f, v)] = none := by simp [List.lookup, qw]
    rw [q2]
    trivial
section
variable {X : Cx} {C fI : Addr} {x qual a f : Str} {e' : Expr}
theorem pmk_err {e : Expr} {ta : TA} {p pos : Pos} {k : Nat} (T : PySem.ErrX.ErrTxt X.prog X.K x qual C fI a f e') (gC : X.mg x = some (.ref C)) (gs : X.mg "super" = none) (hr : Room k X.A) (ha : PA X [e] ta) (hg : Gl X x) (hdb : (x == ("__debug__" : Str)) = false := by decide)
    (he : starEach (e :: []) X.env = (false, eval e X.env) :: starEach [] X.env := by rfl) (hpl : (backTo pos (starEach [] X.env)).any (·.1) = false := by rfl) :
    PMk X (.Call (.Name x p) [e] [] pos) (tMkErr C f ta) := by
  intro pins s σ H Q I h
  refine wpAny_Call_Name_kw (ld_glob I hg gC ?_ hdb)
  refine PySem.W.callWith_K (h₀ := X.base) I.ok.mod.kin T.kC (thn (ha.run pos pins s σ H _ I h) fun us s1 hh => ?_) he hpl
  obtain ⟨vs, H1, I1, r1, v, ev, q1⟩ := hh
  subst ev
  refine ⟨I1.kIn, ?_⟩
  cases r1 with
  | cons rv rn =>
    rename_i v' us'
    cases rn
    show wpAny _ _ (call (.ref C) [v']) _ _ _
    have hlim := I1.nolimit
    obtain ⟨mb, b1, b2⟩ := I1.mod.blt
    have hbs : mb "super" = some (.type "super") := (b2 "super" (by decide)).trans PyProof.Rows.Boot.«super»
    have gG : s1.heap.Ns mainGlobals X.mg := I1.mod.glob.keeps I1.bk
    have gB : s1.heap.Ns builtinsNs mb := b1.keeps I1.bk
    obtain ⟨hp, g, dr, tk, os⟩ := s1
    refine wpAny_call (PySem.ErrX.err_made T I1.kIn gG gB hbs hlim (by have := hr.dp; omega) fun h' tk' e d M => ?_)
    show MkP X pins σ Q (.ref e) ⟨h', g, dr, tk', os⟩
    obtain ⟨oe, fv, hoe, hc, hd, hdat, h1⟩ := M.obj
    have hns := M.ns
    obtain ⟨G', g1, g2⟩ := restrict h' fun b => decide (b ≠ e)
    have gk : ∀ b, b ≠ e → G'.get? b = h'.get? b := fun b hb => g1 b (decide_eq_true hb)
    have ge : G'.get? e = none := g2 e (by simp)
    have old : ∀ b o, hp.get? b = some o → G'.get? b = some o := fun b o q => (gk b (Nat.ne_of_lt (Nat.lt_of_lt_of_le (Heap.lt_size q) M.new))).trans (M.keep b o q)
    have ob : ObjOk X.prog X.w (upd H1 d (.xd [(f, v)])) G' d (.xd [(f, v)]) :=
      ⟨_, hns.at (fun o q => (gk d M.dne).trans q), fun y => relO_one rv y⟩
    have J : Inv X pins σ (upd H1 d (.xd [(f, v)])) ⟨G', g, dr, tk', os⟩ := I1.laid (t' := tk') old M.dbig ob
    refine ⟨e, oe, fv, ⟨G', g, dr, tk', os⟩, _, .ref C, some d, rfl, J, fun b o q => ?_, ge, hoe, ⟨hc, hd⟩, hdat, h1, ?_, rfl, I1.bare, raises_own T.exC T.tyC, q1 d (I1.hok.fresh M.dbig)⟩
    · by_cases hb : b = e
      · have q' : G'.get? b = some o := q
        rw [hb, ge] at q'; cases q'
      · exact (gk b hb).symm.trans q
    · rw [upd_ne (Ne.symm M.dne)]
      exact I1.hok.fresh M.new
end
end L2
namespace DL
open PySem PySem.Spec PyProof.Rows L2
@[simp] def sRaise0 (c : Str) : DS := fun st => .exn c [] st
@[simp] def sRaise1 (c f : Str) (h : Den D) : DS := bindD h fun d => fun st => .exn c [(f, d)] st
section
variable {X : Cx} {g : G} {W : WX} {P : Par} {σ : L2.St} {H F : Hp} {st : DSt} {e : Expr} {s : Stmt} {ss : List Stmt} {f h : Den D} {t : Den Bool} {a b : DS}
theorem es_raise0 {c : Str} {C : Addr} {pos : Pos} (gC : g.mg c = some (.ref C)) (tk : Takes X W) (he : PMk X e (fun _ H Q => Q (.ref C) none H)) (hc : X.calm = true := by rfl) : PS X (.Raise (some e) none pos) (tS g W (sRaise0 c)) :=
  (ps_raise hc tk he).imp fun D σ H ⟨P, F, st, s, o⟩ => o (.ref C) none σ H F (Same.refl _) s ⟨C, gC, rfl, .inl ⟨rfl, rfl⟩⟩
theorem es_raise1 {c nm : Str} {C : Addr} {pos : Pos} (gC : g.mg c = some (.ref C)) (tk : Takes X W) (he : PMk X e (tMkErr C nm (tCons (tE g W f) tNil))) (hc : X.calm = true := by rfl) : PS X (.Raise (some e) none pos) (tS g W (sRaise1 c nm f)) :=
  (ps_raise hc tk he).imp fun D σ H ⟨P, F, st, s, o⟩ => by
    refine ⟨P, F, st, s, o.bind.imp fun x st1 H1 F1 le1 s1 o1 v rx => ⟨v, rfl, fun d hd => ?_⟩⟩
    have gr : Grow H1 F1 (upd H1 d (.xd [(nm, v)])) (upd F1 d (.xd [(nm, v)])) := Grow.new s1.le hd
    exact o1 (.ref C) (some d) σ _ _ gr.f (s1.grow gr) ⟨C, gC, rfl, .inr ⟨d, nm, v, x, rfl, rfl, upd_same, rx.mono gr.f⟩⟩
end
def G.at (g : G) (a : Addr) (cls : Value) (d : Option Addr) : G := ⟨g.K, g.mg, some (a, cls, d), g.tk⟩
section
variable {g g' : G} {F : Hp}
mutual
theorem Rv.chg (hK : g'.K = g.K) (hm : g'.mg = g.mg) (ht : g'.tk = g.tk) : ∀ {v : V} {d : D}, Rv g F v d → Rv g' F v d
  | _, _, .non => .non
  | _, _, .bl b => .bl b
  | _, _, .int i => .int i
  | _, _, .str x => .str x
  | _, _, .lst h r => .lst h (Rl.chg hK hm ht r)
  | _, _, .tup h k r => .tup (by rw [hK]; exact h) (by unfold TkP at k ⊢; rw [hK, ht]; exact k) (Rl.chg hK hm ht r)
  | _, _, .ins h m l r => .ins h (by rw [hm]; exact m) l (Rl.chg hK hm ht r)
  | _, _, .scr h => .scr (by rw [hK]; exact h)
  | _, _, .kt h k => .kt h k
theorem Rl.chg (hK : g'.K = g.K) (hm : g'.mg = g.mg) (ht : g'.tk = g.tk) : ∀ {vs : List V} {ds : List D}, Rl g F vs ds → Rl g' F vs ds
  | _, _, .nil => .nil
  | _, _, .cons r t => .cons (Rv.chg hK hm ht r) (Rl.chg hK hm ht t)
end
def isXc : Slot → Bool
  | .xc _ _ _ => true
  | _ => false
def noXc (st : DSt) : Bool := st.all fun s => !isXc s
theorem SlotOk.chg (hK : g'.K = g.K) (hm : g'.mg = g.mg) (ht : g'.tk = g.tk) {P : Par} {O : Addr → Option Nat} {H : Hp} {i : Nat} {s : Slot} {ov : Option V} (hx : isXc s = false) (h : SlotOk g P O F H i s ov) : SlotOk g' P O F H i s ov := by
  cases s with
  | no => trivial
  | sh d => obtain ⟨v, e, r⟩ := h; exact ⟨v, e, r.chg hK hm ht⟩
  | ow ds => obtain ⟨a, vs, e, o, n, h1, r⟩ := h; exact ⟨a, vs, e, o, n, h1, r.chg hK hm ht⟩
  | rf k ds => obtain ⟨a, vs, e, b, o, h1, r⟩ := h; exact ⟨a, vs, e, b, o, h1, r.chg hK hm ht⟩
  | dk kvs => obtain ⟨a, vs, e, o, n, h1, r⟩ := h; exact ⟨a, vs, e, o, n, h1, r.chg hK hm ht⟩
  | dt kvs => obtain ⟨a, vs, e, o, n, h1, r⟩ := h; exact ⟨a, vs, e, o, n, h1, r.chg hK hm ht⟩
  | lk kvs => obtain ⟨a, od, vs, e, h1, r⟩ := h; exact ⟨a, od, vs, e, h1, r.chg hK hm ht⟩
  | lt kvs => obtain ⟨a, od, vs, e, h1, r⟩ := h; exact ⟨a, od, vs, e, h1, r.chg hK hm ht⟩
  | oi k c ns ds => obtain ⟨a, C, dx, vs, e, b, o, m, l, h1, r⟩ := h; exact ⟨a, C, dx, vs, e, b, o, by rw [hm]; exact m, l, h1, r.chg hK hm ht⟩
  | o2 dss =>
    obtain ⟨a, bs, e, o, n, h1, nd, na, l, r⟩ := h
    refine ⟨a, bs, e, o, n, h1, nd, na, l, fun j b ds e1 e2 => ?_⟩
    obtain ⟨o', n', vs, h2, r2⟩ := r j b ds e1 e2
    exact ⟨o', n', vs, h2, r2.chg hK hm ht⟩
  | gy ds => obtain ⟨vs, r⟩ := h; exact ⟨vs, r.chg hK hm ht⟩
  | rk k kvs => obtain ⟨a, vs, e, b, o, n, h1, r⟩ := h; exact ⟨a, vs, e, b, o, n, h1, r.chg hK hm ht⟩
  | xc c nm x => cases hx
theorem SR.chg (hK : g'.K = g.K) (hm : g'.mg = g.mg) (ht : g'.tk = g.tk) {P : Par} {σ : L2.St} {H : Hp} {st : DSt} (hx : noXc st = true) (s : SR g P σ H F st) : SR g' P σ H F st := by
  obtain ⟨O, c⟩ := s
  refine ⟨O, c.le, c.rr, c.oo, c.no, c.len, fun i sl ov e1 e2 => (c.sl i sl ov e1 e2).chg hK hm ht ?_⟩
  have := List.all_eq_true.mp hx sl (List.mem_of_getElem? e1)
  simpa using this
end
structure HdD where
  x : Str
  i : Option Nat
  den : DS
def mtB : List (Str × Str × Bool) → Str → Str → Option Bool
  | [], _, _ => none
  | (c, x, b) :: r, c', x' => if c = c' ∧ x = x' then some b else mtB r c' x'
def MtOk (g : G) (mt : List (Str × Str × Bool)) : Prop := ∀ q ∈ mt, ∀ C V, g.mg q.1 = some (.ref C) → g.mg q.2.1 = some (.ref V) → PySem.W.exmOne g.K (.ref C) (.ref V) = some q.2.2
theorem mtB_mem : ∀ {mt : List (Str × Str × Bool)} {c x : Str} {b : Bool}, mtB mt c x = some b → (c, x, b) ∈ mt
  | (c', x', b') :: r, c, x, b, h => by
    unfold mtB at h
    split at h
    · rename_i e
      obtain ⟨rfl, rfl⟩ := e
      cases h
      exact List.mem_cons_self
    · exact List.mem_cons_of_mem _ (mtB_mem h)
  | [], _, _, _, h => by cases h
def xcSlot (c : Str) (fs : List (Str × D)) : Slot := match fs with
  | [(nm, x)] => .xc c nm x
  | _ => .no
/-- the suite of a named clause: the name is gone behind it -/
def clrS (i : Nat) (den : DS) : DS := fun st => match den st with
  | .ok .nx st' => if noXc (st'.set i .no) then .ok .nx (st'.set i .no) else .stuck
  | .ok .brk st' => if noXc (st'.set i .no) then .ok .brk (st'.set i .no) else .stuck
  | .ok .cnt st' => if noXc (st'.set i .no) then .ok .cnt (st'.set i .no) else .stuck
  | .ok (.ret d) st' => if noXc (st'.set i .no) then .ok (.ret d) (st'.set i .no) else .stuck
  | _ => .stuck
def runH (mt : List (Str × Str × Bool)) (c : Str) (fs : List (Str × D)) : List HdD → DS
  | [] => fun st => .exn c fs st
  | hd :: r => fun st => match mtB mt c hd.x with
    | some true => (match hd.i with
      | none => noX hd.den st
      | some i => if noXc st ∧ i < st.length then clrS i hd.den (st.set i (xcSlot c fs)) else .stuck)
    | some false => runH mt c fs r st
    | none => .stuck
def sTry (mt : List (Str × Str × Bool)) (body : DS) (hs : List HdD) : DS := fun st => match body st with
  | .exn c fs st' => runH mt c fs hs st'
  | r => r
inductive HdsD (X : Cx) (g : G) : List ExceptHandler → List HdD → Prop
  | nil : HdsD X g [] []
  | un {x : Str} {V : Addr} {b₀ : Stmt} {rest : List Stmt} {np pq : Pos} {hq : List ExceptHandler} {den : DS} {l : List HdD} (gV : g.mg x = some (.ref V)) (nmd : Names X x (.ref V))
      (su : ∀ (a : Addr) (oe : Obj) (cls : Value) (d : Option Addr) (pn : List (Addr × Obj)), Zc cls d oe → (∃ vs, oe.data = .fields vs) → PSs (X.suite a ((a, oe) :: pn)) (b₀ :: rest) (tS g WN den)) (more : HdsD X g hq l) :
      HdsD X g (.ExceptHandler (some (.Name x np)) none (b₀ :: rest) pq :: hq) (⟨x, none, den⟩ :: l)
  | nm {x n : Str} {i : Nat} {V : Addr} {b₀ : Stmt} {rest : List Stmt} {np pq : Pos} {hq : List ExceptHandler} {den : DS} {l : List HdD} (gV : g.mg x = some (.ref V)) (nmd : Names X x (.ref V)) (slotN : X.N[i]? = some n) (slotL : X.env.kindOf n = some .local)
      (su : ∀ (a : Addr) (oe : Obj) (cls : Value) (d : Option Addr) (pn : List (Addr × Obj)), Zc cls d oe → (∃ vs, oe.data = .fields vs) → PSs (X.suite a ((a, oe) :: pn)) (b₀ :: rest) (tS (g.at a cls d) WN den)) (more : HdsD X g hq l) :
      HdsD X g (.ExceptHandler (some (.Name x np)) (some n) (b₀ :: rest) pq :: hq) (⟨x, some i, den⟩ :: l)
section
variable {X : Cx} {g : G} {W : WX} {P : Par} {σ : L2.St} {H F : Hp} {st : DSt} {e : Expr} {s : Stmt} {ss : List Stmt} {f h : Den D} {t : Den Bool} {a b : DS}
/-- the clauses as the library has them -/
def hdT (g : G) (vs : List Addr) : List HdD → List HdT
  | [] => []
  | ⟨x, none, den⟩ :: r => match vs with
    | v :: vs => (.ref v, none, fun _ _ _ => tS g WN den) :: hdT g vs r
    | [] => []
  | ⟨x, some i, den⟩ :: r => match vs with
    | v :: vs => (.ref v, some i, fun a cls d => tS (g.at a cls d) WN den) :: hdT g vs r
    | [] => []
theorem HdsD.m {hq : List ExceptHandler} {l : List HdD} (h : HdsD X g hq l) : ∃ vs, HdsM X hq (hdT g vs l) ∧ vs.length = l.length ∧ ∀ (k : Nat) (hd : HdD) (v : Addr), l[k]? = some hd → vs[k]? = some v → g.mg hd.x = some (.ref v) := by
  induction h with
  | nil => exact ⟨[], .nil, rfl, fun k hd v e => by cases e⟩
  | @un x V b₀ rest np pq hq den l gV nmd su more ih =>
    obtain ⟨vs, i1, i2, i3⟩ := ih
    refine ⟨V :: vs, .un nmd su i1, by simp [i2], fun k hd v e1 e2 => ?_⟩
    cases k with
    | zero => simp at e1 e2; subst e1; subst e2; exact gV
    | succ k => exact i3 k hd v (by simpa using e1) (by simpa using e2)
  | @nm x n i V b₀ rest np pq hq den l gV nmd slotN slotL su more ih =>
    obtain ⟨vs, i1, i2, i3⟩ := ih
    refine ⟨V :: vs, .nm nmd slotN slotL su i1, by simp [i2], fun k hd v e1 e2 => ?_⟩
    cases k with
    | zero => simp at e1 e2; subst e1; subst e2; exact gV
    | succ k => exact i3 k hd v (by simpa using e1) (by simpa using e2)
theorem SR.wiped {i : Nat} (s : SR g P σ H F st) : SR g P (σ.set i none) H F (st.set i .no) := by
  obtain ⟨O, c⟩ := s
  refine ⟨fun b => if O b = some i then none else O b, c.le, c.rr, fun b j e => ?_, c.no, by rw [List.length_set, List.length_set]; exact c.len, fun j s ov e1 e2 => ?_⟩
  · by_cases hb : O b = some i
    · simp [hb] at e
    · simp only [if_neg hb] at e; exact c.oo b j e
  · by_cases hj : j = i
    · subst hj
      by_cases hl : j < st.length
      · rw [List.getElem?_set_self hl] at e1
        cases e1
        trivial
      · rw [List.getElem?_eq_none (by rw [List.length_set]; omega)] at e1; cases e1
    · rw [List.getElem?_set_ne (Ne.symm hj)] at e1 e2
      exact (c.sl j s ov e1 e2).move rfl (fun b o => by
        show (if O b = some i then none else O b) = some j
        rw [if_neg (by rw [o]; intro z; exact hj (Option.some.inj z))]; exact o) (Same.refl _) (fun _ _ _ h => h) fun _ _ h => h
/-- a slot takes the exception -/
theorem SR.putx {i : Nat} {c : Str} {fs : List (Str × D)} {cls : Value} {dd : Option Addr} {a : Addr} (s : SR g P σ H F st) (hx : noXc st = true) (hi : i < st.length) (rx : RepX g F H c fs cls dd) :
    SR (g.at a cls dd) P (σ.set i (some (.ref a))) H F (st.set i (xcSlot c fs)) := by
  have s := SR.chg (g := g) (g' := g.at a cls dd) rfl rfl rfl hx s
  obtain ⟨O, q⟩ := s
  obtain ⟨C, hm, hcls, hd⟩ := rx
  refine ⟨fun b => if O b = some i then none else O b, q.le, q.rr, fun b j e => ?_, q.no, by rw [List.length_set, List.length_set]; exact q.len, fun j s ov e1 e2 => ?_⟩
  · by_cases hb : O b = some i
    · simp [hb] at e
    · simp only [if_neg hb] at e; exact q.oo b j e
  · by_cases hj : j = i
    · subst hj
      rw [List.getElem?_set_self hi] at e1
      rw [List.getElem?_set_self (by rw [q.len]; exact hi)] at e2
      cases e1; cases e2
      rcases hd with ⟨rfl, rfl⟩ | ⟨d, nm, v, x, rfl, rfl, hF, r⟩
      · trivial
      · exact ⟨a, C, d, v, by rw [hcls]; rfl, hm, rfl, hF, Rv.chg (g := g) (g' := g.at a cls (some d)) rfl rfl rfl r⟩
    · rw [List.getElem?_set_ne (Ne.symm hj)] at e1 e2
      exact (q.sl j s ov e1 e2).move rfl (fun b o => by
        show (if O b = some i then none else O b) = some j
        rw [if_neg (by rw [o]; intro z; exact hj (Option.some.inj z))]; exact o) (Same.refl _) (fun _ _ _ h => h) fun _ _ h => h
theorem OutS.noX {den : DS} {D : Ends} (o : OutS g W P F (noX den st) D) : OutS g WN P F (den st) D := by
  revert o
  simp only [DL.noX]
  cases den st with
  | ok fl st' => exact fun o => o
  | exn c fs st' => exact fun o => o.elim
  | stuck => exact fun o => o
theorem OutS.clr {den : DS} {D : Ends} {i : Nat} {a : Addr} {cls : Value} {dd : Option Addr} (o : OutS g W P F (clrS i den st) D) : OutS (g.at a cls dd) WN P F (den st) (D.clr i) := by
  revert o
  unfold clrS
  have key : ∀ {σ' : L2.St} {H' F' : Hp} {st' : DSt}, noXc (st'.set i .no) = true → SR (g.at a cls dd) P σ' H' F' st' → SR g P (σ'.set i none) H' F' (st'.set i .no) := fun hx s => SR.chg (g := g.at a cls dd) (g' := g) rfl rfl rfl hx s.wiped
  cases den st with
  | ok fl st' =>
    cases fl with
    | nx =>
      simp only
      split
      · rename_i hx
        exact fun o σ' H' F' le s => o _ H' F' le (key hx s)
      · exact fun o => o.elim
    | brk =>
      simp only
      split
      · rename_i hx
        exact fun o σ' H' F' le s => o _ H' F' le (key hx s)
      · exact fun o => o.elim
    | cnt =>
      simp only
      split
      · rename_i hx
        exact fun o σ' H' F' le s => o _ H' F' le (key hx s)
      · exact fun o => o.elim
    | ret d =>
      simp only
      split
      · rename_i hx
        exact fun o σ' H' F' le s v r => o _ H' F' le (key hx s) v (Rv.chg (g := g.at a cls dd) (g' := g) rfl rfl rfl r)
      · exact fun o => o.elim
  | exn c fs st' => exact fun o => o.elim
  | stuck => exact fun o => o.elim
theorem runH_ok {mt : List (Str × Str × Bool)} (mo : MtOk g mt) {c : Str} {fs : List (Str × D)} {cls : Value} {dd : Option Addr} {D : Ends} (rx : RepX g F H c fs cls dd) (s : SR g P σ H F st) :
    ∀ {l : List HdD} {vs : List Addr}, vs.length = l.length → (∀ (k : Nat) (hd : HdD) (v : Addr), l[k]? = some hd → vs[k]? = some v → g.mg hd.x = some (.ref v)) → OutS g W P F (runH mt c fs l st) D → wMix g.K W D (hdT g vs l) cls dd σ H
  | [], vs, _, _, o => by
    have e : hdT g vs [] = [] := by unfold hdT; rfl
    rw [e]
    exact o cls dd σ H F (Same.refl _) s rx
  | hd :: l, [], hl, _, _ => by cases hl
  | ⟨x, oi, den⟩ :: l, v :: vs, hl, hg, o => by
    obtain ⟨C, hm, hcls, _⟩ := id rx
    have hx := hg 0 _ v rfl rfl
    have more : OutS g W P F (runH mt c fs l st) D → wMix g.K W D (hdT g vs l) cls dd σ H := runH_ok mo rx s (by simpa using hl) fun k hd v e1 e2 => hg (k + 1) hd v (by simpa using e1) (by simpa using e2)
    unfold runH at o
    cases hb : mtB mt c x with
    | none => simp only [hb] at o; exact o.elim
    | some b =>
      have hex : PySem.W.exmOne g.K cls (.ref v) = some b := by rw [hcls]; exact mo _ (mtB_mem hb) C v hm hx
      simp only [hb] at o
      cases b with
      | false =>
        cases oi with
        | none => exact ⟨false, hex, fun z => Bool.noConfusion z, fun _ => more o⟩
        | some i => exact ⟨false, hex, fun z => Bool.noConfusion z, fun _ => more o⟩
      | true =>
        cases oi with
        | none => exact ⟨true, hex, fun _ a _ => ⟨P, F, st, s, OutS.noX o⟩, fun z => Bool.noConfusion z⟩
        | some i =>
          simp only at o
          split at o
          · rename_i hc
            exact ⟨true, hex, fun _ a _ => ⟨P, F, _, s.putx hc.1 hc.2 rx, OutS.clr o⟩, fun z => Bool.noConfusion z⟩
          · exact o.elim
theorem es_try {mt : List (Str × Str × Bool)} (mo : MtOk g mt) {blk : List Stmt} {hd₀ : ExceptHandler} {hq : List ExceptHandler} {l : List HdD} {tb : DS} {pos : Pos} (tk : Takes X W) (hK : X.K = g.K)
    (hbody : ∀ (W' : WX) (pn : List (Addr × Obj)) (xe : Value → Shared → Prop), Takes (X.tr pn xe) W' → PSs (X.tr pn xe) blk (tS g W' tb)) (hall : HdsD X g (hd₀ :: hq) l)
    (hstk : X.stack = X.env :: X.outer := by rfl) (hfrm : X.env.frame = some X.env.locals := by rfl) (ndp : X.N.Nodup := by decide) :
    PS X (.Try blk (hd₀ :: hq) [] [] pos) (tS g W (sTry mt tb l)) := by
  obtain ⟨vs, h1, h2, h3⟩ := hall.m
  refine (ps_try_mix (tb := fun W' => tS g W' tb) hstk hfrm ndp tk (fun W' pn xe t _ => hbody W' pn xe t) h1).imp fun D σ H ⟨P, F, st, s, o⟩ => ⟨P, F, st, s, ?_⟩
  revert o
  unfold sTry
  cases tb st with
  | ok fl st' => exact fun o => o
  | exn c fs st' => exact fun o cls dd σ' H' F' le s' rx => by rw [hK]; exact runH_ok mo rx s' h2 h3 (OutS.weak le o)
  | stuck => exact fun o => o
/-- a field of the exception that the suite holds -/
@[simp] def dXf (i : Nat) (c f : Str) : Den D := fun st => match st[i]? with
  | some (.xc c' nm x) => if c' = c ∧ nm = f then .ok x st else .stuck
  | _ => .stuck
theorem ev_xf {i : Nat} {c n : Str} {C a : Addr} {cls : Value} {d : Option Addr} (gC : g.mg c = some (.ref C)) (he : PE X e (tXf a cls d C n (tVar i))) : PE X e (tE (g.at a cls d) W (dXf i c n)) := he.imp fun σ H Q ⟨P, F, st, s, o⟩ => by
  unfold dXf at o
  split at o
  · rename_i c' nm x hx
    split at o
    · rename_i hc
      obtain ⟨rfl, rfl⟩ := hc
      obtain ⟨ov, hov⟩ := SRc.nth s hx
      obtain ⟨O, q⟩ := id s
      obtain ⟨a', C', d', v, e1, e2, e3, hF, r⟩ := q.sl i _ _ hx hov
      simp only [G.at, Option.some.injEq, Prod.mk.injEq] at e1
      obtain ⟨rfl, rfl, rfl⟩ := e1
      have : C' = C := by
        have e2 : g.mg c' = some (.ref C') := e2
        rw [gC] at e2
        exact (by simpa using e2 : C = C').symm
      subst this
      rw [e3] at hov
      exact ⟨_, hov, rfl, rfl, d', _, v, rfl, q.le _ _ hF, by simp [List.lookup], o H F (Same.refl _) s v r⟩
    · exact o.elim
  · exact o.elim
end
end DL
namespace DL
open PySem PySem.Spec PyProof.Rows L2
def ecB (K : PySem.W.Frag) (C : Addr) : Bool := match K.lookup C with
  | some ⟨.type "type", _, .cls cd, sl⟩ => (match cd.mro, sl.toList with
    | .ref C' :: bm, [_, _, _, _, some (.builtin n), _] => C' == C && (n == "ValueError.__new__" && (!cd.hasDel && (cd.hasDict && (HandSPX.refsVE bm && He.eqO (PySem.W.alongIn K "__init__" bm) (some (some (.builtin "ValueError.__init__")))))))
    | _, _ => false)
  | _ => false
def noneV : Value → Bool
  | .none => true
  | _ => false
def cellB (K : PySem.W.Frag) (cc C : Addr) : Bool := match K.lookup cc with
  | some ⟨_, _, .cell (some (.ref D)), _⟩ => D == C
  | _ => false
def fileB (K : PySem.W.Frag) (file : Str) : Value → Bool
  | .ref cda => (match K.lookup cda with
    | some ⟨_, _, .fields vs, _⟩ => (match (vs[2]? : Option Value) with
      | some (Value.str f _) => file == f
      | _ => false)
    | _ => false)
  | _ => false
def efB (K : PySem.W.Frag) (file : Str) (C fI : Addr) : Bool := match K.lookup fI with
  | some ⟨_, _, .func fd, _⟩ => (match fd.closure with
    | [(n, cc)] => n == ("__class__" : Str) && (noneV fd.defaults && (noneV fd.kwdefaults && (PySem.W.codeIn K fd.code fd.qualname && (cellB K cc C && fileB K file fd.code))))
    | _ => false)
  | _ => false
def errB (K : PySem.W.Frag) (file x f : Str) : Bool :=
  ecB K (He.ga K x) && (efB K file (He.ga K x) (He.fAd K (x, some ("__init__" : Str))) && (He.eqO (PySem.W.findIn K (.ref (He.ga K x)) "__setattr__") (some (some (.builtin "object.__setattr__"))) && (He.eqO (PySem.W.findIn K (.ref (He.ga K x)) f) (some none) &&
  (He.eqO (PySem.W.findIn K (.ref (He.ga K x)) "__init__") (some (some (.ref (He.fAd K (x, some ("__init__" : Str)))))) && (decide (PySem.W.typeIn K (.ref (He.fAd K (x, some ("__init__" : Str)))) = some (.type "function")) && (PySem.W.keepIn K (.ref (He.ga K x)) &&
  (decide (PySem.W.subIn K (.ref (He.ga K x)) (.type "BaseException") = some true) && (decide (PySem.W.subIn K (.ref (He.ga K x)) (.type "ValueError") = some true) && (decide (PySem.W.mroIn K (He.ga K x) (.ref (He.ga K x)) = some true) &&
  (decide (PySem.W.typeIn K (.ref (He.ga K x)) = some (.type "type")) && (He.eqO (PySem.W.nsIn K cStatics "thirdparty.any") (some none) && xfB K (He.ga K x))))))))))))
theorem err_txt {P : Program} {K : PySem.W.Frag} {file x f a qual : Str} {d : He.DefD} {e : Expr} {p1 p2 q0 q1 q2 q3 q4 q5 q6 q7 q8 : Pos} (hc : clW K d.at_ = d.val) (hb : errB K file x f = true) (hsup : PySem.W.nsIn K mainGlobals "super" = some none)
    (hat : d.at_ = (x, some ("__init__" : Str))) (hn : d.name = ("__init__" : Str)) (hq : d.qual = qual) (h1 : d.params = PySem.ErrX.eA a p1 p2) (h2 : d.body = PySem.ErrX.eB e a f q0 q1 q2 q3 q4 q5 q6 q7 q8) (h3 : d.scope = PySem.ErrX.eS a)
    (okE : (∃ p, e = .Name a p) ∨ ∃ m j p, e = .Constant (.str m) j p) (na : a ≠ "self" ∧ a ≠ "__class__" ∧ a ≠ "super" ∧ (a == ("__debug__" : Str)) = false)
    (bnd : ∀ (q : Str) (body : List Stmt) (doc pm : Value) (an : Option Addr) (cdv ct : Value) (cc : Addr) (p1 p2 : Pos) (s : Shared) (u v : Value), BindsTo s (PySem.W.ksFn "__init__" q (PySem.ErrX.eA a p1 p2) body (PySem.ErrX.eS a) .none .none doc pm an cdv ct cc) ⟨[u, v], []⟩ [("self", u), (a, v)])
    (hfile : P.main.file = file) (psup : (P.main.scope.names.lookup ("super" : Str)).isSome = false) (hpl : PySem.ErrX.CallsPlain e q0 q1 q2 q3) : PySem.ErrX.ErrTxt P K x qual (He.ga K x) (He.fAd K (x, some ("__init__" : Str))) a f e ∧ XfC K (He.ga K x) := by
  unfold errB at hb
  obtain ⟨b1, hb⟩ := He.ba hb
  obtain ⟨b2, hb⟩ := He.ba hb
  obtain ⟨b3, hb⟩ := He.ba hb
  obtain ⟨b4, hb⟩ := He.ba hb
  obtain ⟨b5, hb⟩ := He.ba hb
  obtain ⟨b6, hb⟩ := He.ba hb
  obtain ⟨b7, hb⟩ := He.ba hb
  obtain ⟨b8, hb⟩ := He.ba hb
  obtain ⟨b9, hb⟩ := He.ba hb
  obtain ⟨b10, hb⟩ := He.ba hb
  obtain ⟨b11, hb⟩ := He.ba hb
  obtain ⟨b12, b13⟩ := He.ba hb
  refine ⟨⟨okE, bnd, na, ?_, He.eqO_ok b3, He.eqO_ok b4, He.eqO_ok b5, of_decide_eq_true b6, b7, of_decide_eq_true b8, of_decide_eq_true b9, of_decide_eq_true b10, of_decide_eq_true b11, He.eqO_ok b12, hsup, psup, ?_⟩, xfB_ok b13⟩
  · unfold ecB at b1
    split at b1
    · rename_i dd cd sl ho
      split at b1
      · rename_i C' bm k0 k1 k2 k3 n k5 hm hs
        simp only [Bool.and_eq_true, beq_iff_eq, Bool.not_eq_true'] at b1
        obtain ⟨rfl, rfl, hdel, hdct, hve, hal⟩ := b1
        obtain ⟨nm, bs, mro, ns, qn, hd, sn, sub, ab, col, del⟩ := cd
        dsimp only at hm hdel hdct
        subst hm hdel hdct
        have hsl : sl = #[k0, k1, k2, k3, some (.builtin "ValueError.__new__"), k5] := by
          obtain ⟨l⟩ := sl
          simp only at hs
          rw [hs]
        subst hsl
        exact ⟨nm, qn, ns, bs, bm, sn, sub, ab, col, dd, k0, k1, k2, k3, k5, ho, hve, He.eqO_ok hal⟩
      · cases b1
    · cases b1
  · unfold efB at b2
    unfold clW at hc
    rw [hat] at hc
    cases q : K.lookup (He.fAd K (x, some ("__init__" : Str))) with
    | none => rw [q] at b2; cases b2
    | some o =>
      obtain ⟨oc, od, dt, osl⟩ := o
      rw [q] at b2 hc
      cases dt with
      | func fd =>
        obtain ⟨n1, n2, n3, n4, n5, n6, n7, n8, n9, n10, n11, n12, n13, n14, n15⟩ := fd
        have e2 : (some (n1, n2, n3, n4, n5, n6, [], n15) : He.FnW) = some (d.name, d.qual, d.params, .stmts d.body, d.scope, mainGlobals, [], builtinsNs) := hc
        simp only [Option.some.injEq, Prod.mk.injEq] at e2
        obtain ⟨g1, g2, g3, g4, g5, g6, _, g8⟩ := e2
        subst g1 g2 g3 g4 g5 g6 g8
        simp only at b2
        split at b2
        · rename_i n cc
          simp only [Bool.and_eq_true, beq_iff_eq] at b2
          obtain ⟨rfl, d1, d2, d3, d4, d5⟩ := b2
          cases n8 with
          | none =>
            cases n9 with
            | none =>
              unfold fileB at d5
              unfold cellB at d4
              split at d5
              · rename_i cda
                split at d5
                · rename_i u1 u2 vs u3 hl
                  split at d5
                  · rename_i f' tf hvs
                    split at d4
                    · rename_i w1 w2 D w3 hcc
                      have hD : D = He.ga K x := by simpa using d4
                      subst hD
                      subst hq
                      exact ⟨oc, od, n10, n11, n12, cda, n14, osl, cc, p1, p2, q0, q1, q2, q3, q4, q5, q6, q7, q8, u1, w1, u2, w2, u3, w3, vs, f', tf, by rw [hn, h1, h2, h3], d3, hl, hvs, by rw [hfile]; exact d5, hcc, hpl⟩
                    · cases d4
                  · cases d5
                · cases d5
              · cases d5
            | _ => cases d2
          | _ => cases d1
        · cases b2
      | _ => cases b2
end DL
namespace DL
open PySem PySem.Spec PyProof.Rows L2
theorem mt_nil {g : G} : MtOk g [] := fun q hq => by cases hq
theorem mt_cons {g : G} {c x : Str} {b : Bool} {C V : Addr} {r : List (Str × Str × Bool)} (gc : g.mg c = some (.ref C)) (gx : g.mg x = some (.ref V)) (e : PySem.W.exmOne g.K (.ref C) (.ref V) = some b) (h : MtOk g r) : MtOk g ((c, x, b) :: r) := fun q hq C' V' h1 h2 => by
  rcases List.mem_cons.mp hq with rfl | hq
  · have h1 : g.mg c = some (.ref C') := h1
    have h2 : g.mg x = some (.ref V') := h2
    rw [gc] at h1; rw [gx] at h2
    cases h1; cases h2
    exact e
  · exact h q hq C' V' h1 h2
def argOf : List Stmt → Expr
  | [.Expr (.Call _ [e] _ _) _, _] => e
  | _ => .Constant .none 0 ⟨0, 0, 0, 0⟩
end DL
namespace DL
open PySem PySem.Spec PyProof.Rows L2
def ixF (p : D → Bool) : Nat → List D → Option Nat
  | _, [] => none
  | i, d :: ds => if p d then some i else ixF p (i + 1) ds
def ixP (p : PyData → Bool) : Nat → List PyData → Option Nat
  | _, [] => none
  | i, d :: ds => if p d then some i else ixP p (i + 1) ds
@[simp] def opIndex (x y : D) : Option D := match x with
  | .lst ds => if flatD y && ds.all flatD then (match ixF (fun z => eqF z y) 0 ds with | some j => some (.int (j : Nat)) | none => none) else
      match toPy y, toPys ds with
      | some p, some qs => if SeqAt.shaped p && SeqAt.shaped (.list qs) then (match ixP (fun z => PyData.eqv z p) 0 qs with | some j => some (.int (j : Nat)) | none => none) else none
      | _, _ => none
  | _ => none
theorem ixF_some {p : D → Bool} : ∀ {ds : List D} {i j : Nat}, ixF p i ds = some j → ∃ k z, j = i + k ∧ ds[k]? = some z ∧ p z = true ∧ ∀ m z', m < k → ds[m]? = some z' → p z' = false
  | d :: ds, i, j, h => by
    unfold ixF at h
    split at h
    · rename_i hp
      cases h
      exact ⟨0, d, rfl, rfl, hp, fun m z' hm => absurd hm (Nat.not_lt_zero _)⟩
    · rename_i hp
      obtain ⟨k, z, e, h1, h2, h3⟩ := ixF_some h
      refine ⟨k + 1, z, by omega, by simpa using h1, h2, fun m z' hm hz => ?_⟩
      cases m with
      | zero => simp at hz; subst hz; simpa using hp
      | succ m => exact h3 m z' (by omega) (by simpa using hz)
  | [], _, _, h => by cases h
theorem ixP_some {p : PyData → Bool} : ∀ {ds : List PyData} {i j : Nat}, ixP p i ds = some j → ∃ k z, j = i + k ∧ ds[k]? = some z ∧ p z = true ∧ ∀ m z', m < k → ds[m]? = some z' → p z' = false
  | d :: ds, i, j, h => by
    unfold ixP at h
    split at h
    · rename_i hp
      cases h
      exact ⟨0, d, rfl, rfl, hp, fun m z' hm => absurd hm (Nat.not_lt_zero _)⟩
    · rename_i hp
      obtain ⟨k, z, e, h1, h2, h3⟩ := ixP_some h
      refine ⟨k + 1, z, by omega, by simpa using h1, h2, fun m z' hm hz => ?_⟩
      cases m with
      | zero => simp at hz; subst hz; simpa using hp
      | succ m => exact h3 m z' (by omega) (by simpa using hz)
  | [], _, _, h => by cases h
def rIndexA (K : PySem.W.Frag) : V → List V → Hp → VK → Prop := fun x xs H Q => rIndex K x xs H Q ∨ rIndexD K x xs H Q
theorem mt_indexA {X : Cx} (hu : X.A.units + 65 < cLine) : MtR X "list.index" (rIndexA X.K) := by
  intro pins s σ H x xs v us Q I rx rxs h
  rcases h with h | h
  · exact mt_index pins s σ H x xs v us Q I rx rxs h
  · exact mt_indexD hu pins s σ H x xs v us Q I rx rxs h
section
variable {X : Cx} {g : G} {W : WX} {P : Par} {σ : L2.St} {H F : Hp} {st : DSt} {e : Expr} {f h : Den D}
theorem flat_hits {y : V} {e : D} (ry : Rv g F y e) (fe : flatD e = true) {vs : List V} {ds : List D} (r : Rl g F vs ds) (hf : ds.all flatD = true) {k : Nat} {z : D} (hz : ds[k]? = some z) (hp : eqF z e = true) (hno : ∀ m z', m < k → ds[m]? = some z' → eqF z' e = false) :
    ∃ w, vs[k]? = some w ∧ eqV w y = true ∧ ∀ (m : Nat) (w' : V), m < k → vs[m]? = some w' → eqV w' y = false := by
  obtain ⟨w, hw, rw'⟩ := r.get hz
  have fz : ∀ {m : Nat} {z' : D}, ds[m]? = some z' → flatD z' = true := fun hm => List.all_eq_true.mp hf _ (List.mem_of_getElem? hm)
  refine ⟨w, hw, by rw [eqF_rv rw' ry (fz hz) fe]; exact hp, fun m w' hm hw' => ?_⟩
  obtain ⟨z', hz', rz'⟩ := r.get' hw'
  rw [eqF_rv rz' ry (fz hz') fe]
  exact hno m z' hm hz'
theorem opIndex_ok {v u : V} {x y z : D} {Q : VK} (le : Same F H) (rx : Br g F H v x) (ry : Rv g F u y) (hz : opIndex x y = some z) (q : ∀ v, Rv g F v z → Q v H) : ∃ a vs, v = .ref a ∧ SqL g.K H a vs ∧ rIndexA g.K v [u] H Q := by
  unfold opIndex at hz
  split at hz
  · rename_i ds
    obtain ⟨a, vs, rfl, h1, r1⟩ := rx.lst le
    refine ⟨a, vs, rfl, sqL_of h1, ?_⟩
    split at hz
    · rename_i hf
      obtain ⟨f1, f2⟩ := Bool.and_eq_true_iff.mp hf
      split at hz
      · rename_i j hj
        cases hz
        obtain ⟨k, z, rfl, e1, e2, e3⟩ := ixF_some hj
        obtain ⟨w, hw, hh, hn⟩ := flat_hits ry f1 r1 f2 e1 e2 e3
        rw [Nat.zero_add] at q
        exact .inl ⟨a, vs, u, k, w, rfl, rfl, sqL_of h1, flat_rv ry f1, all_flat r1 f2, hw, hh, hn, q _ (.int _)⟩
      · cases hz
    · split at hz
      · rename_i p qs e1 e2
        split at hz
        · rename_i hs
          obtain ⟨s1, s2⟩ := Bool.and_eq_true_iff.mp hs
          split at hz
          · rename_i j hj
            cases hz
            obtain ⟨k, z, rfl, g1, g2, g3⟩ := ixP_some hj
            rw [Nat.zero_add] at q
            exact .inr ⟨a, u, p, qs, k, z, rfl, rfl, rx.dp le (by unfold toPy; rw [e2]), ry.dp le e1, s2, s1, g1, g2, g3, q _ (.int _)⟩
          · cases hz
        · cases hz
      · cases hz
  · cases hz
/-- what a receiver must be, before its argument is read -/
@[simp] def isL : D → Option Unit
  | .lst _ => some ()
  | _ => none
@[simp] def isT : D → Option Unit
  | .tup _ => some ()
  | _ => none
@[simp] def dIndex (f h : Den D) : Den D := bindD f fun x => bindD (liftO (isL x)) fun _ => bindD h fun y => liftO (opIndex x y)
@[simp] def dIndexN (i : Nat) (h : Den D) : Den D := bindD (dRd i) fun x => bindD (liftO (isL x)) fun _ => bindD h fun y => bindD (dRd i) fun x => liftO (opIndex x y)
theorem ev_indexN {i : Nat} (he : PE X e (tBM g.K "list" (rIndexA g.K) (tVar i) (tCons (tE g W h) tNil))) : PE X e (tE g W (dIndexN i h)) := he.imp fun σ H Q ⟨P, F, st, s, o⟩ => by
  obtain ⟨v, x, hv, rx, o1⟩ := o.rd s
  obtain ⟨u0, hx, q⟩ := Out.lift o1.bind
  have o2 := q H F (Same.refl _) s
  cases x with
  | lst ds =>
    obtain ⟨a, vs, rfl, h1, r1⟩ := rx.lst s.le
    refine ⟨_, hv, .inl ⟨rfl, vs, sqL_of h1⟩, P, F, st, s, o2.bind.imp fun y st2 H2 F2 le2 s2 o3 u ry => ?_⟩
    obtain ⟨v', x', hv', rx', o4⟩ := o3.rd s2
    rw [hv] at hv'; cases hv'
    obtain ⟨z, ez, q⟩ := o4.lift
    obtain ⟨_, _, _, _, fin⟩ := opIndex_ok s2.le rx' ry ez (q H2 F2 (Same.refl _) s2)
    exact fin
  | _ => cases hx
end
end DL
namespace DL
open PySem PySem.Spec PyProof.Rows L2
@[simp] theorem ixN_nat (n j : Nat) : ixN n (j : Int) = if j < n then some j else none := by
  unfold ixN
  by_cases h : j < n
  · rw [if_pos (by omega), if_pos (by omega), if_pos h]; simp
  · rw [if_pos (by omega), if_neg (by omega), if_neg h]
@[simp] theorem atI_nat {α : Type} (xs : List α) (j : Nat) : atI xs (j : Int) = xs[j]? := by
  unfold atI
  rw [ixN_nat]
  by_cases h : j < xs.length
  · rw [if_pos h]; rfl
  · rw [if_neg h, List.getElem?_eq_none (by omega)]; rfl
@[simp] theorem big_val : big = 16777216 := rfl
end DL
namespace PySem
end PySem
namespace L2
open PySem PySem.Spec PyProof.Rows
end L2
namespace DL
open PySem PySem.Spec PyProof.Rows L2
section
variable {g : G}
@[simp] def onIntsT {α : Type} (f : List Int → Option α) : D → Option α
  | .lst ds => match intsOf ds with | some is => f is | none => none
  | .tup ds => match intsOf ds with | some is => f is | none => none
  | _ => none
@[simp] def opMinA : D → Option D := onIntsT fun is => if is.isEmpty then none else some (.int (minL is))
@[simp] def opMaxA : D → Option D := onIntsT fun is => if is.isEmpty then none else some (.int (maxL is))
end
end DL
namespace DL
open PySem PySem.Spec PyProof.Rows L2
mutual
def nol : D → Bool
  | .lst _ => false
  | .scr _ => false
  | .kt _ => false
  | .tup xs => nols xs
  | .ins _ _ xs => nols xs
  | _ => true
def nols : List D → Bool
  | [] => true
  | x :: xs => nol x && nols xs
end
def frzS : Slot → Slot
  | .ow ds => .sh (.lst ds)
  | .rf _ ds => .sh (.lst ds)
  | .o2 dss => .sh (.lst (dss.map .lst))
  | .oi _ _ _ _ => .no
  | .dk _ => .no
  | .dt _ => .no
  | .rk _ _ => .no
  | s => s
@[simp] def dPeek (f : Den D) : Den D := fun st => match f (st.map frzS) with
  | .ok d _ => if nol d then .ok d st else .stuck
  | _ => .stuck
end DL
namespace DL
open PySem PySem.Spec PyProof.Rows L2
end DL
namespace DL
open PySem PySem.Spec PyProof.Rows L2
@[simp] def dIxx (i : Nat) (e1 e2 : Den D) : Den D := fun st => match st[i]? with
  | some (.o2 _) => bindD (dO2 i) (fun _ => bindD e1 fun k1 => bindD (dO2 i) fun dss => bindD (liftO (rowAt dss k1)) fun r => bindD (dPeek e2) fun k2 => liftO (match rowAt r.2 k2 with | some q => some q.2 | none => none)) st
  | _ => dOp2 opIx (dOp2n opIx i e1) e2 st
end DL
namespace DL
open PySem L2
def M.bind {α β : Type} : M α → (α → M β) → M β
  | .ok a, k => k a
  | .exn c fs, _ => .exn c fs
  | .stuck, _ => .stuck
@[simp] theorem bind_ok {α β : Type} (a : α) (k : α → M β) : (M.ok a).bind k = k a := rfl
@[simp] theorem bind_exn {α β : Type} (c : Str) (fs : List (Str × D)) (k : α → M β) : (M.exn c fs : M α).bind k = .exn c fs := rfl
@[simp] theorem bind_stuck {α β : Type} (k : α → M β) : (M.stuck : M α).bind k = .stuck := rfl
theorem bind_bind {α β γ : Type} (a : M α) (f : α → M β) (g : β → M γ) : (a.bind f).bind g = a.bind fun x => (f x).bind g := by cases a <;> rfl
theorem bind_pure {α : Type} (a : M α) : (a.bind fun x => .ok x) = a := by cases a <;> rfl
def oM {α : Type} : Option α → M α
  | some a => .ok a
  | none => .stuck
@[simp] theorem oM_some {α : Type} (a : α) : oM (some a) = .ok a := rfl
@[simp] theorem oM_none {α : Type} : oM (none : Option α) = .stuck := rfl
@[reducible] def eD (d : D) : D := d
@[reducible] def eI (i : Int) : D := .int i
@[reducible] def eB (b : Bool) : D := .bl b
@[reducible] def eS (s : Str) : D := .str s
@[reducible] def eU (_ : Unit) : D := .non
def eL {α : Type} (e : α → D) (xs : List α) : D := .lst (xs.map e)
def eT {α : Type} (e : α → D) (xs : List α) : D := .tup (xs.map e)
def eP2 {α β : Type} (a : α → D) (b : β → D) (x : α × β) : D := .tup [a x.1, b x.2]
def eP3 {α β γ : Type} (a : α → D) (b : β → D) (c : γ → D) (x : α × β × γ) : D := .tup [a x.1, b x.2.1, c x.2.2]
def eC2 {α β : Type} (c n1 n2 : Str) (a : α → D) (b : β → D) (x : α × β) : D := .ins c [n1, n2] [a x.1, b x.2]
/-- f's value at st is v of what o gives; then st' stands -/
def RE {α δ : Type} (f : Den δ) (st : DSt) (o : M α) (v : α → δ) (st' : DSt) : Prop := match o with
  | .ok c => f st = .ok (v c) st'
  | .exn c fs => ∃ s, f st = .exn c fs s
  | .stuck => True
def RV {δ : Type} (f : Den δ) (st : DSt) (x : δ) (st' : DSt) : Prop := f st = .ok x st'
def OP {α δ : Type} (x : Option δ) (o : M α) (v : α → δ) : Prop := match o with
  | .ok c => x = some (v c)
  | .exn _ _ => False
  | .stuck => True
def DM {α : Type} (m : M D) (o : M α) (v : α → D) : Prop := match o with
  | .ok c => m = .ok (v c)
  | .exn c fs => m = .exn c fs
  | .stuck => True
section
variable {α β δ ε : Type} {st st1 st2 st' : DSt} {v : α → δ} {w : β → ε}
theorem re_bindP {a : Den δ} {x : δ} {k : δ → Den ε} {o : M β} (h1 : RV a st x st1) (h2 : RE (k x) st1 o w st2) : RE (bindD a k) st o w st2 := by
  have e : bindD a k st = k x st1 := by unfold bindD; rw [h1]
  cases o with
  | ok c => rw [RE, e]; exact h2
  | exn c fs => obtain ⟨s, h⟩ := h2; exact ⟨s, by rw [e]; exact h⟩
  | stuck => trivial
theorem re_bindG {a : Den δ} {o : M α} {k : δ → Den ε} {o2 : α → M β} (h1 : RE a st o v st1) (h2 : ∀ c, RE (k (v c)) st1 (o2 c) w st2) : RE (bindD a k) st (o.bind o2) w st2 := by
  cases o with
  | ok c => exact re_bindP (show RV a st (v c) st1 from h1) (h2 c)
  | exn c fs => obtain ⟨s, h⟩ := h1; exact ⟨s, by unfold bindD; rw [h]⟩
  | stuck => trivial
theorem re_assoc {ζ : Type} {a : Den δ} {g : δ → Den ε} {k : ε → Den ζ} {o : M β} {w : β → ζ} (h : RE (bindD a fun x => bindD (g x) k) st o w st2) : RE (bindD (bindD a g) k) st o w st2 := by
  have e : bindD (bindD a g) k st = bindD a (fun x => bindD (g x) k) st := by unfold bindD; cases a st <;> rfl
  cases o with
  | ok c => rw [RE, e]; exact h
  | exn c fs => obtain ⟨s, h⟩ := h; exact ⟨s, by rw [e]; exact h⟩
  | stuck => trivial
theorem re_rv {f : Den ε} {c : β} (h : RV f st (w c) st2) : RE f st (.ok c) w st2 := h
theorem rv_bind {a : Den δ} {k : δ → Den ε} {x : δ} {y : ε} (h1 : RV a st x st1) (h2 : RV (k x) st1 y st2) : RV (bindD a k) st y st2 := by
  unfold RV bindD; rw [h1]; exact h2
theorem rv_assoc {ζ : Type} {a : Den δ} {g : δ → Den ε} {k : ε → Den ζ} {y : ζ} (h : RV (bindD a fun x => bindD (g x) k) st y st2) : RV (bindD (bindD a g) k) st y st2 := by
  have e : bindD (bindD a g) k st = bindD a (fun x => bindD (g x) k) st := by unfold bindD; cases a st <;> rfl
  rw [RV, e]; exact h
theorem rv_ret {x : δ} : RV (retD x) st x st := rfl
theorem rv_lift {x : Option δ} {y : δ} (h : x = some y) : RV (liftO x) st y st := by unfold RV liftO; rw [h]
theorem re_lift {x : Option δ} {o : M α} (h : OP x o v) : RE (liftO x) st o v st := by
  cases o with
  | ok c => exact rv_lift h
  | exn c fs => exact h.elim
  | stuck => trivial
theorem re_liftM {m : M D} {o : M α} {v : α → D} (h : DM m o v) : RE (liftM' m) st o v st := by
  cases o with
  | ok c => unfold RE liftM'; rw [show m = _ from h]
  | exn c fs => exact ⟨st, by unfold liftM'; rw [show m = _ from h]⟩
  | stuck => trivial
theorem rv_eq {f : Den δ} {x y : δ} (h : RV f st x st2) (e : x = y) : RV f st y st2 := e ▸ h
theorem re_map {γ : Type} {f : Den δ} {o : M α} {g : α → γ} {w : γ → δ} (h : RE f st o v st2) (e : ∀ c, v c = w (g c)) : RE f st (o.bind fun c => .ok (g c)) w st2 := by
  cases o with
  | ok c => show f st = _; rw [← e]; exact h
  | exn c fs => exact h
  | stuck => trivial
theorem re_ite {a b : Den δ} {x : Bool} {o1 o2 : M α} (h1 : x = true → RE a st o1 v st2) (h2 : x = false → RE b st o2 v st2) : RE (if x = true then a else b) st (if x = true then o1 else o2) v st2 := by
  cases x with
  | true => exact h1 rfl
  | false => exact h2 rfl
theorem rv_and {b : Den Bool} {x y : Bool} (h : x = true → RV b st y st) : RV (if x = true then b else retD false) st (x && y) st := by
  cases x with
  | true => exact h rfl
  | false => rfl
theorem rv_or {b : Den Bool} {x y : Bool} (h : x = false → RV b st y st) : RV (if x = true then retD true else b) st (x || y) st := by
  cases x with
  | true => rfl
  | false => exact h rfl
end
section
variable {α : Type} {st : DSt} {e : α → D} {i : Nat}
theorem rv_var {d : D} (h : st[i]? = some (.sh d)) : RV (dVar i) st d st := by unfold RV dVar; rw [h]
theorem rv_frz {ds : List D} (h : st[i]? = some (.ow ds)) : RV (dVar i) st (.lst ds) (st.set i (.sh (.lst ds))) := by unfold RV dVar; rw [h]
theorem rv_frz2 {dss : List (List D)} (h : st[i]? = some (.o2 dss)) : RV (dVar i) st (.lst (dss.map .lst)) (st.set i (.sh (.lst (dss.map .lst)))) := by unfold RV dVar; rw [h]
theorem rv_frzL {xss : List (List α)} (h : st[i]? = some (.o2 (xss.map (List.map e)))) : RV (dVar i) st (eL (eL e) xss) (st.set i (.sh (eL (eL e) xss))) := by
  have q : eL (eL e) xss = .lst ((xss.map (List.map e)).map .lst) := by simp [eL, List.map_map, Function.comp_def]
  rw [q]; exact rv_frz2 h
theorem rv_rd {d : D} (h : st[i]? = some (.sh d)) : RV (dRd i) st d st := by unfold RV dRd; rw [h]
theorem rv_rdO {ds : List D} (h : st[i]? = some (.ow ds)) : RV (dRd i) st (.lst ds) st := by unfold RV dRd; rw [h]
theorem rv_rdR {ds : List D} {k : Nat} (h : st[i]? = some (.rf k ds)) : RV (dRd i) st (.lst ds) st := by unfold RV dRd; rw [h]
theorem rv_ow {ds : List D} (h : st[i]? = some (.ow ds)) : RV (dOw i) st ds st := by unfold RV dOw; rw [h]
theorem rv_owR {ds : List D} {k : Nat} (h : st[i]? = some (.rf k ds)) : RV (dOw i) st ds st := by unfold RV dOw; rw [h]
end
structure Py {α : Type} (e : α → D) (k : Nat) where
  py : α → PyData
  to : ∀ a, toPy (e a) = some (py a)
  lay : ∀ a, (py a).canLay0 = true
  dep : ∀ a, (py a).depth ≤ k
  eqv : ∀ a b, PyData.eqv (py a) (py b) = true ↔ a = b
def pyI : Py eI 0 := ⟨.int, fun _ => by simp [eI, toPy], fun _ => by simp [PyData.canLay0], fun _ => by simp [PyData.depth], fun a b => by simp [PyData.eqv]⟩
section
variable {α β γ δ : Type} {a : α → D} {b : β → D} {c : γ → D} {d : δ → D} {k l m n : Nat}
theorem toPys_map (p : Py a k) : ∀ xs : List α, toPys (xs.map a) = some (xs.map p.py)
  | [] => by simp [toPys]
  | x :: xs => by simp [toPys, p.to, toPys_map p xs]
theorem layAll_map (p : Py a k) : ∀ xs : List α, PyData.canLayAll0 (xs.map p.py) = true
  | [] => by simp [PyData.canLayAll0]
  | x :: xs => by simp [PyData.canLayAll0, p.lay, layAll_map p xs]
theorem depAll_map (p : Py a k) : ∀ xs : List α, PyData.depthAll (xs.map p.py) ≤ k
  | [] => by simp [PyData.depthAll]
  | x :: xs => by have := p.dep x; have := depAll_map p xs; simp [PyData.depthAll]; omega
theorem eqvAll_map (p : Py a k) : ∀ xs ys : List α, PyData.eqvAll (xs.map p.py) (ys.map p.py) = true ↔ xs = ys
  | [], [] => by simp [PyData.eqvAll]
  | [], y :: ys => by simp [PyData.eqvAll]
  | x :: xs, [] => by simp [PyData.eqvAll]
  | x :: xs, y :: ys => by simp [PyData.eqvAll, p.eqv, eqvAll_map p xs ys]
def pyL (p : Py a k) : Py (eL a) (k + 1) := ⟨fun xs => .list (xs.map p.py), fun xs => by simp [eL, toPy, toPys_map p], fun xs => by simp [PyData.canLay0, layAll_map p], fun xs => by have := depAll_map p xs; simp [PyData.depth]; omega, fun xs ys => by simp [PyData.eqv, eqvAll_map p]⟩
def pyT (p : Py a k) : Py (eT a) (k + 1) := ⟨fun xs => .tuple (xs.map p.py), fun xs => by simp [eT, toPy, toPys_map p], fun xs => by simp [PyData.canLay0, layAll_map p], fun xs => by have := depAll_map p xs; simp [PyData.depth]; omega, fun xs ys => by simp [PyData.eqv, eqvAll_map p]⟩
theorem shaped_of (p : Py a k) (hk : k ≤ 64 := by decide) (x : α) : SeqAt.shaped (p.py x) = true := by have := p.dep x; simp [SeqAt.shaped, p.lay x]; omega
theorem eq_py (p : Py a k) [DecidableEq α] {x y : α} (hk : k ≤ 64 := by decide) : opEq (a x) (a y) = some (eB (decide (x = y))) := by
  have h : PyData.eqv (p.py x) (p.py y) = decide (x = y) := by
    by_cases e : x = y
    · subst e; simp [(p.eqv x x).mpr rfl]
    · simp only [e, decide_false]; exact Bool.eq_false_iff.mpr fun z => e ((p.eqv x y).mp z)
  simp [eqD, p.to, shaped_of p hk, h, eB]
theorem ne_py (p : Py a k) [DecidableEq α] {x y : α} (hk : k ≤ 64 := by decide) : opNe (a x) (a y) = some (eB (!decide (x = y))) := by
  have := eq_py p (x := x) (y := y) hk
  simp only [opEq] at this
  simp only [opNe]
  cases h : eqD (a x) (a y) with
  | none => rw [h] at this; cases this
  | some z => rw [h] at this; simp only [Option.some.injEq, D.bl.injEq, eB] at this; simp [this, eB]
theorem any_py (p : Py a k) [DecidableEq α] (x : α) : ∀ xs : List α, ((xs.map p.py).any fun z => PyData.eqv z (p.py x)) = decide (x ∈ xs)
  | [] => by simp
  | y :: ys => by
    have ih := any_py p x ys
    have : PyData.eqv (p.py y) (p.py x) = decide (x = y) := by
      by_cases e : x = y
      · subst e; simp [(p.eqv x x).mpr rfl]
      · simp only [e, decide_false]; exact Bool.eq_false_iff.mpr fun z => e ((p.eqv y x).mp z).symm
    simp only [List.map_cons, List.any_cons, ih, this, List.mem_cons, Bool.decide_or]
theorem shapedL (p : Py a k) (hk : k ≤ 63) (xs : List α) : SeqAt.shaped (.list (xs.map p.py)) = true := shaped_of (pyL p) (by omega) xs
theorem shapedT (p : Py a k) (hk : k ≤ 63) (xs : List α) : SeqAt.shaped (.tuple (xs.map p.py)) = true := shaped_of (pyT p) (by omega) xs
/-- is it there -/
def has [DecidableEq α] (x : α) (xs : List α) : Bool := decide (x ∈ xs)
@[simp] theorem has_iff [DecidableEq α] {x : α} {xs : List α} : has x xs = true ↔ x ∈ xs := by simp [has]
theorem has_eq [DecidableEq α] {x : α} {xs : List α} : has x xs = decide (x ∈ xs) := rfl
theorem in_py (p : Py a k) [DecidableEq α] {x : α} {xs : List α} (hf : ∀ x, flatD (a x) = false := by intro _; rfl) (hk : k ≤ 63 := by decide) : inD (a x) (eL a xs) = some (has x xs) ∧ inD (a x) (eT a xs) = some (has x xs) := by
  constructor <;> simp only [inD, eL, eT, hf, Bool.false_and, if_false, p.to, toPys_map p, shaped_of p (by omega), shapedL p hk, shapedT p hk, Bool.and_self, if_true, any_py p, has] <;> rfl
theorem ninL_ {x y : D} {z : Bool} (h : inD x y = some z) : opNotIn x y = some (eB !z) := by simp [h]
/-- the first place -/
def pIndex [DecidableEq α] (xs : List α) (x : α) : M Int := if x ∈ xs then .ok (xs.idxOf x) else .stuck
theorem ixP_eq (p : Py a k) [DecidableEq α] (x : α) : ∀ (xs : List α) (i : Nat), ixP (fun z => PyData.eqv z (p.py x)) i (xs.map p.py) = if x ∈ xs then some (i + xs.idxOf x) else none
  | [], i => by simp [ixP]
  | y :: ys, i => by
    have ih := ixP_eq p x ys (i + 1)
    by_cases e : x = y
    · subst e; simp [ixP, (p.eqv x x).mpr rfl]
    · have h1 : PyData.eqv (p.py y) (p.py x) = false := Bool.eq_false_iff.mpr fun z => e ((p.eqv y x).mp z).symm
      have h2 : ¬ y = x := fun z => e z.symm
      simp only [List.map_cons, ixP, h1, ih, List.mem_cons, e, false_or, List.idxOf_cons]
      have h3 : (y == x) = false := by simp [h2]
      simp only [h3, cond_false]
      simp only [Bool.false_eq_true, if_false]
      by_cases hm : x ∈ ys
      · simp [hm, h2]; omega
      · simp [hm]
theorem index_py (p : Py a k) [DecidableEq α] {x : α} {xs : List α} (hf : ∀ x, flatD (a x) = false := by intro _; rfl) (hk : k ≤ 63 := by decide) : OP (opIndex (eL a xs) (a x)) (pIndex xs x) eI := by
  unfold pIndex
  by_cases h : x ∈ xs
  · simp [h, OP, opIndex, eL, hf, p.to, toPys_map p, shaped_of p (show k ≤ 64 by omega), shapedL p hk, ixP_eq p, eI]
  · simp [h, OP]
end
end DL
namespace DL
open PySem L2
theorem ixN_lt {n : Nat} {i : Int} {j : Nat} (h : ixN n i = some j) : j < n := by
  unfold ixN at h
  split at h
  · split at h
    · cases h; omega
    · cases h
  · split at h
    · cases h; omega
    · cases h
theorem atI_map {α β : Type} (e : α → β) (xs : List α) (i : Int) : atI (xs.map e) i = (atI xs i).map e := by
  unfold atI
  rw [List.length_map]
  cases h : ixN xs.length i with
  | none => rfl
  | some j => simp
def pAt {α : Type} (xs : List α) (i : Int) : M α := oM (atI xs i)
section
variable {α β γ δ : Type} {e : α → D}
theorem op_oM {x : Option D} {o : Option α} (h : x = o.map e) : OP x (oM o) e := by
  cases o with
  | none => trivial
  | some a => exact h
theorem op_D {x : Option D} : OP x (oM x) eD := by
  cases x with
  | none => trivial
  | some a => rfl
theorem op_atL {xs : List α} {i : Int} : OP (opIx (eL e xs) (eI i)) (pAt xs i) e := op_oM (atI_map e xs i)
theorem op_atT {xs : List α} {i : Int} : OP (opIx (eT e xs) (eI i)) (pAt xs i) e := op_oM (atI_map e xs i)
theorem op_lenL {xs : List α} : opLen (eL e xs) = some (eI (xs.length : Int)) := by simp [opLen, eL]
theorem op_lenT {xs : List α} : opLen (eT e xs) = some (eI (xs.length : Int)) := by simp [opLen, eT]
def pLenS (z : Str) : M Int := if z.length ≤ big then .ok (z.length : Int) else .stuck
theorem op_lenS {z : Str} : OP (opLen (eS z)) (pLenS z) eI := by
  unfold pLenS
  by_cases h : z.length ≤ big
  · rw [if_pos h]; simp only [OP, opLen, eS, h, if_true]
  · rw [if_neg h]; trivial
def pMul (a b : Int) : M Int := if smallI a || smallI b then .ok (a * b) else .stuck
theorem op_mul {a b : Int} : OP (opMul (eI a) (eI b)) (pMul a b) eI := by
  unfold pMul
  by_cases h : (smallI a || smallI b) = true
  · rw [if_pos h]; simp only [OP, opMul, h, if_true]
  · rw [if_neg h]; trivial
def pDiv (a b : Int) : M Int := if b ≠ 0 ∧ b.natAbs < 1073741824 then .ok (a.fdiv b) else .stuck
theorem op_div {a b : Int} : OP (opDiv (eI a) (eI b)) (pDiv a b) eI := by
  unfold pDiv
  by_cases h : b ≠ 0 ∧ b.natAbs < 1073741824
  · rw [if_pos h]; simp only [OP, opDiv, h]; simp [h]
  · rw [if_neg h]; trivial
def pMod (a b : Int) : M Int := if b ≠ 0 then .ok (a.fmod b) else .stuck
theorem op_mod {a b : Int} : OP (opMod (eI a) (eI b)) (pMod a b) eI := by
  unfold pMod
  by_cases h : b ≠ 0
  · rw [if_pos h]; simp only [OP, opMod, h]; simp [h]
  · rw [if_neg h]; trivial
def pCat (xs ys : List α) : M (List α) := if xs.length + ys.length ≤ big then .ok (xs ++ ys) else .stuck
theorem op_catT {xs ys : List α} : OP (opAdd (eT e xs) (eT e ys)) (pCat xs ys) (eT e) := by
  unfold pCat
  by_cases h : xs.length + ys.length ≤ big
  · rw [if_pos h]; simp only [OP, opAdd, eT, List.length_map, h, if_true, List.map_append]
  · rw [if_neg h]; trivial
theorem op_nCat {xs ys : List α} : OP (nAdd (eL e xs) (eL e ys)) (pCat xs ys) (List.map e) := by
  unfold pCat
  by_cases h : xs.length + ys.length ≤ big
  · rw [if_pos h]; simp only [OP, nAdd, eL, List.length_map, h, if_true, List.map_append]
  · rw [if_neg h]; trivial
def pCatS (x y : Str) : M Str := if x.length + y.length ≤ big then .ok (x ++ y) else .stuck
theorem op_catS {x y : Str} : OP (opAdd (eS x) (eS y)) (pCatS x y) eS := by
  unfold pCatS
  by_cases h : x.length + y.length ≤ big
  · rw [if_pos h]; simp only [OP, opAdd, eS, h, if_true]
  · rw [if_neg h]; trivial
theorem cutD_map {β : Type} (f : α → β) (xs : List α) (lo hi : Option Int) : cutD (xs.map f) lo hi = (cutD xs lo hi).map f := by
  unfold cutD; rw [List.length_map, List.map_take, List.map_drop]
theorem op_slL {xs : List α} {lo hi : Option Int} : opSl (eL e xs) lo hi = some (eL e (cutD xs lo hi)) := by simp only [opSl, eL, cutD_map]
def rng (n : Int) : List Int := (List.range n.toNat).map fun k : Nat => (k : Int)
def rng2 (m n : Int) : List Int := (List.range (n - m).toNat).map fun k : Nat => m + (k : Int)
def pRng (n : Int) : M (List Int) := if n.natAbs ≤ big then .ok (rng n) else .stuck
theorem op_rng {n : Int} : OP (rngD (eI n)) (pRng n) (List.map eI) := by
  unfold pRng
  by_cases h : n.natAbs ≤ big
  · rw [if_pos h]; simp only [OP, rngD, rangeL, h, if_true, rng, List.map_map, eI]; rfl
  · rw [if_neg h]; trivial
theorem rgL_rng {n : Int} : rgL (0, n) = (rng n).map eI := by
  simp only [rgL, rng, List.map_map, Int.sub_zero]
  congr 1; funext k; simp
theorem big_eqI : (big : Int) = 16777216 := rfl
/-- list(range(n)), tuple(range(n)) -/
theorem re_lrg {n : Int} {st : DSt} : RE (fun st => dLstRg (dRg1 (dC (eI n))) st) st (pRng n) (List.map eI) st := by
  unfold pRng
  by_cases h : n.natAbs ≤ big
  · rw [if_pos h]
    have h2 : n ≤ (big : Int) := by have := big_eqI; have : big = 16777216 := rfl; omega
    show dLstRg (dRg1 (dC (eI n))) st = _
    simp only [dLstRg, dRg1, dC, bindD, retD, asI, h, if_true, liftO, h2, rgL_rng]
  · rw [if_neg h]; trivial
theorem re_lrgP {a : Den D} {n : Int} {st st1 : DSt} (h : RV a st (eI n) st1) : RE (dLstRg (dRg1 a)) st (pRng n) (List.map eI) st1 := by
  have e : dLstRg (dRg1 a) st = dLstRg (dRg1 (dC (eI n))) st1 := by simp only [dLstRg, dRg1, bindD, dC, retD]; rw [show a st = _ from h]
  have := re_lrg (n := n) (st := st1)
  revert this
  unfold RE
  cases pRng n with
  | ok c => intro q; rw [e]; exact q
  | exn c fs => intro ⟨s, q⟩; exact ⟨s, by rw [e]; exact q⟩
  | stuck => intro _; trivial
theorem re_trgP {a : Den D} {n : Int} {st st1 : DSt} (h : RV a st (eI n) st1) : RE (dTupRg (dRg1 a)) st (pRng n) (eT eI) st1 := by
  unfold pRng
  by_cases hb : n.natAbs ≤ big
  · rw [if_pos hb]
    have h2 : n ≤ (big : Int) := by have := big_eqI; have : big = 16777216 := rfl; omega
    show dTupRg (dRg1 a) st = _
    simp only [dTupRg, dRg1, bindD]; rw [show a st = _ from h]; simp only [asI, hb, if_true, liftO, h2, rgL_rng]; rfl
  · rw [if_neg hb]; trivial
/-- the length of a display -/
theorem op_tup {ds : List D} {d : D} (hl : ds.length ≤ 64) (h : .tup ds = d) : (if ds.length ≤ big then some (D.tup ds) else none) = some d := by
  rw [if_pos (by have : big = 16777216 := rfl; omega), h]
theorem op_lst {ds : List D} {zs : List D} (hl : ds.length ≤ 64) (h : ds = zs) : (if ds.length ≤ big then some ds else none) = some zs := by
  rw [if_pos (by have : big = 16777216 := rfl; omega), h]
end
def mapGo {α β : Type} (f : α → M β) : List α → M (List β)
  | [] => .ok []
  | x :: xs => match f x with
    | .ok y => match mapGo f xs with
      | .ok ys => .ok (y :: ys)
      | _ => .stuck
    | _ => .stuck
def filGo {α β : Type} (p : α → M Bool) (f : α → M β) : List α → M (List β)
  | [] => .ok []
  | x :: xs => match p x with
    | .ok true => (match f x with
      | .ok y => (match filGo p f xs with
        | .ok ys => .ok (y :: ys)
        | _ => .stuck)
      | _ => .stuck)
    | .ok false => filGo p f xs
    | _ => .stuck
def pMap {α β : Type} (f : α → M β) (xs : List α) : M (List β) := if xs.length ≤ big then mapGo f xs else .stuck
def pFil {α β : Type} (p : α → M Bool) (f : α → M β) (xs : List α) : M (List β) := if xs.length ≤ big then filGo p f xs else .stuck
section
variable {α β γ : Type}
theorem mapGo_fil (f : α → M β) : ∀ xs : List α, mapGo f xs = filGo (fun _ => .ok true) f xs
  | [] => rfl
  | x :: xs => by simp only [mapGo, filGo, mapGo_fil f xs]
theorem mapGo_ok {f : α → M β} {g : α → β} : ∀ {xs : List α}, (∀ x ∈ xs, f x = .ok (g x)) → mapGo f xs = .ok (xs.map g)
  | [], _ => rfl
  | x :: xs, h => by
    have ih := mapGo_ok (f := f) (g := g) (xs := xs) fun x hx => h x (List.mem_cons_of_mem _ hx)
    simp only [mapGo, h x List.mem_cons_self, ih, List.map_cons]
theorem filGo_ok {p : α → M Bool} {f : α → M β} {q : α → Bool} {g : α → β} : ∀ {xs : List α}, (∀ x ∈ xs, p x = .ok (q x)) → (∀ x ∈ xs, q x = true → f x = .ok (g x)) → filGo p f xs = .ok ((xs.filter q).map g)
  | [], _, _ => rfl
  | x :: xs, h, h2 => by
    have ih := filGo_ok (p := p) (f := f) (q := q) (g := g) (xs := xs) (fun x hx => h x (List.mem_cons_of_mem _ hx)) fun x hx => h2 x (List.mem_cons_of_mem _ hx)
    by_cases hq : q x = true
    · simp only [filGo, h x List.mem_cons_self, hq, h2 x List.mem_cons_self hq, ih, List.filter_cons, if_true, List.map_cons]
    · simp only [Bool.not_eq_true] at hq
      simp only [filGo, h x List.mem_cons_self, hq, ih, List.filter_cons]; simp
theorem pMap_ok {f : α → M β} (g : α → β) {xs : List α} (hl : xs.length ≤ big) (h : ∀ x ∈ xs, f x = .ok (g x)) : pMap f xs = .ok (xs.map g) := by
  unfold pMap; rw [if_pos hl, mapGo_ok h]
theorem pFil_ok {p : α → M Bool} {f : α → M β} (q : α → Bool) (g : α → β) {xs : List α} (hl : xs.length ≤ big) (h : ∀ x ∈ xs, p x = .ok (q x)) (h2 : ∀ x ∈ xs, q x = true → f x = .ok (g x)) : pFil p f xs = .ok ((xs.filter q).map g) := by
  unfold pFil; rw [if_pos hl, filGo_ok h h2]
variable {vs : List Nat} {t : Tg} {elt : Den D} {test : Den Bool} {e : α → D} {e2 : β → D} {st st0 : DSt}
theorem compGo_typed {f : α → M β} {p : α → M Bool} (hb : ∀ x, ∃ st1 st2 st3, setT t (e x) st0 = some st1 ∧ RE test st1 (p x) (fun b : Bool => b) st2 ∧ RE elt st2 (f x) e2 st3 ∧ wipeD st2 vs = st0 ∧ wipeD st3 vs = st0) :
    ∀ xs : List α, match filGo p f xs with | .ok ys => compGo vs t test elt (xs.map e) st0 = .ok (ys.map e2) st0 | _ => True
  | [] => rfl
  | x :: xs => by
    obtain ⟨st1, st2, st3, h1, ht, h2, h2', h3⟩ := hb x
    have ih := compGo_typed hb xs
    simp only [filGo]
    cases hp : p x with
    | ok c =>
      rw [hp] at ht
      cases c with
      | true =>
        cases hf : f x with
        | ok y =>
          rw [hf] at h2
          cases hr : filGo p f xs with
          | ok ys =>
            rw [hr] at ih
            simp only [] at ih ⊢
            simp only [List.map_cons, compGo, h1]
            rw [show test st1 = .ok true st2 from ht]
            simp only []
            rw [show elt st2 = _ from h2]
            simp only [h3, ih]
          | exn c fs => trivial
          | stuck => trivial
        | exn c fs => trivial
        | stuck => trivial
      | false =>
        simp only []
        cases hr : filGo p f xs with
        | ok ys =>
          rw [hr] at ih
          simp only [] at ih ⊢
          simp only [List.map_cons, compGo, h1]
          rw [show test st1 = .ok false st2 from ht]
          simp only [h2', ih]
        | exn c fs => trivial
        | stuck => trivial
    | exn c fs => trivial
    | stuck => trivial
theorem filGo_exn {p : α → M Bool} {f : α → M β} {c : Str} {fs : List (Str × D)} : ∀ xs : List α, filGo p f xs ≠ .exn c fs
  | [] => fun z => by cases z
  | x :: xs => fun z => by
    have ih := filGo_exn (p := p) (f := f) (c := c) (fs := fs) xs
    simp only [filGo] at z
    split at z
    · split at z
      · split at z
        · cases z
        · cases z
      · cases z
    · exact ih z
    · cases z
/-- the comprehension behind its list -/
def compK (vs : List Nat) (t : Tg) (test : Den Bool) (elt : Den D) (ds : List D) : Den (List D) := fun st =>
  if ds.length ≤ big ∧ vs.all (plainAt st) = true then
    match compGo vs t test elt ds (wipeD st vs) with
    | .ok ys st' => .ok ys (backD st st' vs)
    | _ => .stuck
  else .stuck
theorem re_compF {xs : List α} {f : α → M β} {p : α → M Bool} (st0 : DSt) (hw : wipeD st vs = st0) (hp : vs.all (plainAt st) = true) (hbk : backD st st0 vs = st)
    (hb : ∀ x, ∃ st1 st2 st3, setT t (e x) st0 = some st1 ∧ RE test st1 (p x) (fun b : Bool => b) st2 ∧ RE elt st2 (f x) e2 st3 ∧ wipeD st2 vs = st0 ∧ wipeD st3 vs = st0) : RE (compK vs t test elt (xs.map e)) st (pFil p f xs) (List.map e2) st := by
  unfold pFil
  by_cases hl : xs.length ≤ big
  · rw [if_pos hl]
    have h := compGo_typed hb xs
    cases hr : filGo p f xs with
    | ok ys =>
      rw [hr] at h
      simp only [] at h
      show compK vs t test elt (xs.map e) st = _
      unfold compK
      rw [if_pos ⟨by rw [List.length_map]; exact hl, hp⟩, hw, h]
      simp only [hbk]
    | exn c fs => exact absurd hr (filGo_exn xs)
    | stuck => trivial
  · rw [if_neg hl]; trivial
theorem re_compM {xs : List α} {f : α → M β} (st0 : DSt) (hw : wipeD st vs = st0) (hp : vs.all (plainAt st) = true) (hbk : backD st st0 vs = st)
    (hb : ∀ x, ∃ st1 st3, setT t (e x) st0 = some st1 ∧ RE elt st1 (f x) e2 st3 ∧ wipeD st1 vs = st0 ∧ wipeD st3 vs = st0) : RE (compK vs t dYes elt (xs.map e)) st (pMap f xs) (List.map e2) st := by
  have h := re_compF (xs := xs) (f := f) (p := fun _ => .ok true) (vs := vs) (t := t) (test := dYes) (elt := elt) (e := e) (e2 := e2) st0 hw hp hbk fun x => by
    obtain ⟨st1, st3, h1, h2, h3, h4⟩ := hb x
    exact ⟨st1, st1, st3, h1, rfl, h2, h3, h4⟩
  unfold pFil at h
  unfold pMap
  rw [mapGo_fil]
  exact h
end
end DL
namespace DL
open PySem L2
def RS {γ : Type} (X : Bool) (f : DS) (st : DSt) (o : M γ) (K : γ → Fl → DSt → Prop) : Prop := match o with
  | .ok c => ∃ fl st', f st = .ok fl st' ∧ K c fl st'
  | .exn c fs => X = true → ∃ s, f st = .exn c fs s
  | .stuck => True
/-- a statement that goes on -/
def RX {γ : Type} (f : DS) (st : DSt) (o : M γ) (S : γ → DSt) : Prop := match o with
  | .ok c => f st = .ok .nx (S c)
  | .exn c fs => ∃ s, f st = .exn c fs s
  | .stuck => True
inductive F (σ ρ : Type) where
  | nx (a : σ) | ret (r : ρ) | brk (a : σ) | cnt (a : σ)
def KN {σ : Type} (I : σ → DSt → Prop) (c : σ) (fl : Fl) (st : DSt) : Prop := fl = .nx ∧ I c st
def KF {σ ρ : Type} (I : σ → DSt → Prop) (R : ρ → Fl → DSt → Prop) (c : F σ ρ) (fl : Fl) (st : DSt) : Prop := match c with
  | .nx a => fl = .nx ∧ I a st
  | .ret r => R r fl st
  | .brk a => fl = .brk ∧ I a st
  | .cnt a => fl = .cnt ∧ I a st
def pfold {α σ : Type} (f : α → σ → M σ) : List α → σ → M σ
  | [], a => .ok a
  | x :: xs, a => (f x a).bind (pfold f xs)
def pfor {α σ ρ : Type} (f : α → σ → M (F σ ρ)) : List α → σ → M (σ ⊕ ρ)
  | [], a => .ok (.inl a)
  | x :: xs, a => (f x a).bind fun c => match c with
    | .nx a => pfor f xs a
    | .cnt a => pfor f xs a
    | .brk a => .ok (.inl a)
    | .ret r => .ok (.inr r)
def pK {σ ρ γ : Type} (r : σ ⊕ ρ) (k : σ → M γ) (h : ρ → γ) : M γ := match r with
  | .inl a => k a
  | .inr r => .ok (h r)
@[simp] theorem pK_inl {σ ρ γ : Type} (a : σ) (k : σ → M γ) (h : ρ → γ) : pK (.inl a) k h = k a := rfl
@[simp] theorem pK_inr {σ ρ γ : Type} (r : ρ) (k : σ → M γ) (h : ρ → γ) : pK (.inr r) k h = .ok (h r) := rfl
/-- a slot nobody looks at: empty, or with a value -/
def jk : Option D → Slot
  | none => .no
  | some d => .sh d
section
variable {γ δ α β σ ρ τ : Type} {X : Bool} {st st1 st2 : DSt} {K : γ → Fl → DSt → Prop} {o : M γ} {b : DS} {v : α → δ}
theorem rs_last {f : DS} (h : RS X (sSeq f sPass) st o K) : RS X f st o K := by
  have e : sSeq f sPass st = f st := by
    unfold sSeq
    cases hf : f st with
    | ok fl st' => cases fl <;> rfl
    | exn c fs s => rfl
    | stuck => rfl
  cases o with
  | ok c => obtain ⟨fl, st', h1, h2⟩ := h; exact ⟨fl, st', by rw [← e]; exact h1, h2⟩
  | exn c fs => intro hx; obtain ⟨s, h⟩ := h hx; exact ⟨s, by rw [← e]; exact h⟩
  | stuck => trivial
theorem rs_of_eq {f g : DS} {st1 : DSt} (e : f st = g st1) (h : RS X g st1 o K) : RS X f st o K := by
  cases o with
  | ok c => obtain ⟨fl, st', h1, h2⟩ := h; exact ⟨fl, st', by rw [e]; exact h1, h2⟩
  | exn c fs => intro hx; obtain ⟨s, h⟩ := h hx; exact ⟨s, by rw [e]; exact h⟩
  | stuck => trivial
theorem rs_bindP {a : Den δ} {k : δ → DS} {x : δ} (h1 : RV a st x st1) (h2 : RS X (sSeq (k x) b) st1 o K) : RS X (sSeq (bindD a k) b) st o K :=
  rs_of_eq (by unfold sSeq bindD; rw [show a st = _ from h1]) h2
theorem rs_bindG {a : Den δ} {k : δ → DS} {o1 : M α} {o2 : α → M γ} (h1 : RE a st o1 v st1) (h2 : ∀ c, RS X (sSeq (k (v c)) b) st1 (o2 c) K) : RS X (sSeq (bindD a k) b) st (o1.bind o2) K := by
  cases o1 with
  | ok c => exact rs_bindP (show RV a st (v c) st1 from h1) (h2 c)
  | exn c fs => intro _; obtain ⟨s, h⟩ := h1; exact ⟨s, by unfold sSeq bindD; rw [h]⟩
  | stuck => trivial
theorem rs_x {f : DS} {o1 : M α} {o2 : α → M γ} {S : α → DSt} (h1 : RX f st o1 S) (h2 : ∀ c, RS X b (S c) (o2 c) K) : RS X (sSeq f b) st (o1.bind o2) K := by
  cases o1 with
  | ok c => exact rs_of_eq (by unfold sSeq; rw [show f st = _ from h1]) (h2 c)
  | exn c fs => intro _; obtain ⟨s, h⟩ := h1; exact ⟨s, by unfold sSeq; rw [h]⟩
  | stuck => trivial
theorem rs_exec {f : DS} (h1 : f st = .ok .nx st1) (h2 : RS X b st1 o K) : RS X (sSeq f b) st o K := rs_of_eq (by unfold sSeq; rw [h1]) h2
theorem rs_ret {c : γ} {d : D} (h : K c (.ret d) st) : RS X (sSeq (retD (.ret d)) b) st (.ok c) K := ⟨_, _, rfl, h⟩
theorem rs_nx (h : RS X b st o K) : RS X (sSeq (retD .nx) b) st o K := h
theorem rs_end {c : γ} (h : K c .nx st) : RS X sPass st (.ok c) K := ⟨_, _, rfl, h⟩
theorem rs_seq {f g : DS} (h : RS X (sSeq f (sSeq g b)) st o K) : RS X (sSeq (sSeq f g) b) st o K := by
  refine rs_of_eq (g := sSeq f (sSeq g b)) (st1 := st) ?_ h
  unfold sSeq
  cases f st with
  | ok fl s => cases fl <;> rfl
  | exn c fs s => rfl
  | stuck => rfl
theorem rs_put {i : Nat} {s : Slot} (h1 : slotSet i s st = some st1) (h2 : RS X b st1 o K) : RS X (sSeq (putD i s) b) st o K := rs_exec (by unfold putD; rw [h1]) h2
theorem rs_put2 {i : Nat} {s : List (List D)} (h1 : slotSet i (.o2 s) st = some st1) (h2 : RS X b st1 o K) : RS X (sSeq (putD2 i s) b) st o K := rs_exec (by unfold putD2; rw [h1]) h2
theorem rs_ite {x : Bool} {f g : DS} {o1 o2 : M γ} (h1 : x = true → RS X (sSeq f b) st o1 K) (h2 : x = false → RS X (sSeq g b) st o2 K) : RS X (sSeq (if x = true then f else g) b) st (if x = true then o1 else o2) K := by
  cases x with
  | true => exact h1 rfl
  | false => exact h2 rfl
theorem rs_raise0 {c : Str} : RS X (sSeq (sRaise0 c) b) st (.exn c []) K := fun _ => ⟨st, rfl⟩
theorem rs_raise1 {c f : Str} {d : D} : RS X (sSeq (fun st => .exn c [(f, d)] st) b) st (.exn c [(f, d)]) K := fun _ => ⟨st, rfl⟩
/-- goes on behind -/
theorem rs_join {f : DS} {o1 : M α} {o2 : α → M γ} {I : α → DSt → Prop} (h1 : RS X f st o1 (KN I)) (h2 : ∀ c st', I c st' → RS X b st' (o2 c) K) : RS X (sSeq f b) st (o1.bind o2) K := by
  cases o1 with
  | ok c =>
    obtain ⟨fl, st', e, rfl, hi⟩ := h1
    exact rs_of_eq (st1 := st') (by unfold sSeq; rw [e]) (h2 c st' hi)
  | exn c fs => intro hx; obtain ⟨s, h⟩ := h1 hx; exact ⟨s, by unfold sSeq; rw [h]⟩
  | stuck => trivial
def KS {σ ρ : Type} (I : σ → DSt → Prop) (R : ρ → Fl → DSt → Prop) (c : σ ⊕ ρ) (fl : Fl) (st : DSt) : Prop := match c with
  | .inl a => fl = .nx ∧ I a st
  | .inr r => R r fl st
def KR (K : γ → Fl → DSt → Prop) (h : ρ → γ) (r : ρ) (fl : Fl) (st : DSt) : Prop := (∃ d, fl = .ret d) ∧ K (h r) fl st
theorem rs_joinF {f : DS} {o1 : M (σ ⊕ ρ)} {o2 : σ → M γ} {h : ρ → γ} {I : σ → DSt → Prop} (h1 : RS X f st o1 (KS I (KR K h))) (h2 : ∀ c st', I c st' → RS X b st' (o2 c) K) : RS X (sSeq f b) st (o1.bind fun r => pK r o2 h) K := by
  cases o1 with
  | ok c =>
    obtain ⟨fl, st', e, hk⟩ := h1
    cases c with
    | inl a =>
      obtain ⟨rfl, hi⟩ := hk
      exact rs_of_eq (st1 := st') (by unfold sSeq; rw [e]) (h2 a st' hi)
    | inr r =>
      obtain ⟨⟨d, rfl⟩, hk⟩ := hk
      exact ⟨_, st', by unfold sSeq; rw [e], hk⟩
  | exn c fs => intro hx; obtain ⟨s, h⟩ := h1 hx; exact ⟨s, by unfold sSeq; rw [h]⟩
  | stuck => trivial
variable {t : Tg} {body : DS} {e : α → D} {I : σ → DSt → Prop} {R : ρ → Fl → DSt → Prop}
theorem rs_fold {f : α → σ → M σ} (hb : ∀ x a st, I a st → ∃ st1, setT t (e x) st = some st1 ∧ RS X body st1 (f x a) (KN I)) : ∀ (xs : List α) (a : σ) (st : DSt), I a st → RS X (loop t body (xs.map e)) st (pfold f xs a) (KN I)
  | [], a, st, h => ⟨_, _, rfl, rfl, h⟩
  | x :: xs, a, st, h => by
    obtain ⟨st1, h1, h2⟩ := hb x a st h
    have ih := rs_fold hb xs
    simp only [pfold]
    cases hf : f x a with
    | ok c =>
      rw [hf] at h2
      obtain ⟨fl, st', e1, rfl, hi⟩ := h2
      exact rs_of_eq (st1 := st') (by simp only [List.map_cons, loop, h1, e1]) (ih c st' hi)
    | exn c fs => rw [hf] at h2; intro hx; obtain ⟨s, h2⟩ := h2 hx; exact ⟨s, by simp only [List.map_cons, loop, h1, h2]⟩
    | stuck => trivial
theorem rs_for {f : α → σ → M (F σ ρ)} (hR : ∀ r fl st, R r fl st → ∃ d, fl = .ret d) (hb : ∀ x a st, I a st → ∃ st1, setT t (e x) st = some st1 ∧ RS X body st1 (f x a) (KF I R)) : ∀ (xs : List α) (a : σ) (st : DSt), I a st → RS X (loop t body (xs.map e)) st (pfor f xs a) (KS I R)
  | [], a, st, h => ⟨_, _, rfl, rfl, h⟩
  | x :: xs, a, st, h => by
    obtain ⟨st1, h1, h2⟩ := hb x a st h
    have ih := rs_for hR hb xs
    simp only [pfor]
    cases hf : f x a with
    | ok c =>
      rw [hf] at h2
      obtain ⟨fl, st', e1, hk⟩ := h2
      cases c with
      | nx a => obtain ⟨rfl, hi⟩ := hk; exact rs_of_eq (st1 := st') (by simp only [List.map_cons, loop, h1, e1]) (ih a st' hi)
      | cnt a => obtain ⟨rfl, hi⟩ := hk; exact rs_of_eq (st1 := st') (by simp only [List.map_cons, loop, h1, e1]) (ih a st' hi)
      | brk a => obtain ⟨rfl, hi⟩ := hk; exact ⟨_, st', by simp only [List.map_cons, loop, h1, e1], rfl, hi⟩
      | ret r => obtain ⟨d, rfl⟩ := hR _ _ _ hk; exact ⟨_, st', by simp only [List.map_cons, loop, h1, e1], hk⟩
    | exn c fs => rw [hf] at h2; intro hx; obtain ⟨s, h2⟩ := h2 hx; exact ⟨s, by simp only [List.map_cons, loop, h1, h2]⟩
    | stuck => trivial
theorem kr_ret {K : γ → Fl → DSt → Prop} {h : ρ → γ} (r : ρ) (fl : Fl) (st : DSt) (q : KR K h r fl st) : ∃ d, fl = .ret d := q.1
/-- a for statement and what stands behind it -/
theorem rs_for0 {xs : List α} {a : σ} {f : α → σ → M σ} {o2 : σ → M γ} (I : σ → DSt → Prop) (h0 : I a st) (hb : ∀ x a st, I a st → ∃ st1, setT t (e x) st = some st1 ∧ RS X body st1 (f x a) (KN I)) (hk : ∀ c st', I c st' → RS X b st' (o2 c) K) :
    RS X (sSeq (loop t body (xs.map e)) b) st ((pfold f xs a).bind o2) K := rs_join (rs_fold hb xs a st h0) hk
theorem rs_for1 {xs : List α} {a : σ} {f : α → σ → M (F σ ρ)} {o2 : σ → M γ} {h : ρ → γ} (I : σ → DSt → Prop) (h0 : I a st) (hb : ∀ x a st, I a st → ∃ st1, setT t (e x) st = some st1 ∧ RS X body st1 (f x a) (KF I (KR K h))) (hk : ∀ c st', I c st' → RS X b st' (o2 c) K) :
    RS X (sSeq (loop t body (xs.map e)) b) st ((pfor f xs a).bind fun r => pK r o2 h) K := rs_joinF (rs_for kr_ret hb xs a st h0) hk
/-- the end of a def -/
def Kfn {ρ : Type} (e : ρ → D) (r : ρ) (fl : Fl) (_ : DSt) : Prop := fl = .ret (e r) ∨ (fl = .nx ∧ e r = .non)
def Kby {ρ τ : Type} (e : ρ → D) (eτ : τ → D) (r : ρ × List τ) (fl : Fl) (st : DSt) : Prop := (fl = .ret (e r.1) ∨ (fl = .nx ∧ e r.1 = .non)) ∧ ∃ tl, st = .rf 0 (r.2.map eτ) :: tl
def Kini {ρ : Type} (nd : ρ → List Str × List D) (c : Str) (r : ρ) (fl : Fl) (st : DSt) : Prop := fl = .nx ∧ ∃ tl, st = .oi 0 c (nd r).1 (nd r).2 :: tl
theorem fn_F {m n : Nat} {f : DS} {ds : List D} {o : M ρ} {e : ρ → D} (hl : ds.length = m) (h : RS true f (ds.map Slot.sh ++ List.replicate (n - ds.length) .no) o (Kfn e)) : DM (runF m n f ds) o e := by
  unfold runF
  rw [if_pos hl]
  cases o with
  | ok c =>
    obtain ⟨fl, st', e1, hk⟩ := h
    rw [e1]
    rcases hk with rfl | ⟨rfl, hk⟩
    · rfl
    · show M.ok D.non = .ok (e c); rw [hk]
  | exn c fs => obtain ⟨s, h⟩ := h rfl; rw [h]; rfl
  | stuck => trivial
def DR {ρ τ : Type} (m : M (D × List D)) (o : M (ρ × List τ)) (e : ρ → D) (eτ : τ → D) : Prop := match o with
  | .ok c => m = .ok (e c.1, c.2.map eτ)
  | _ => True
theorem fn_R {m n : Nat} {f : DS} {ds : List D} {xs : List τ} {eτ : τ → D} {o : M (ρ × List τ)} {e : ρ → D} (hl : ds.length + 1 = m) (h : RS false f (.rf 0 (xs.map eτ) :: (ds.map Slot.sh ++ List.replicate (n - ds.length - 1) .no)) o (Kby e eτ)) : DR (runR m n f (xs.map eτ) ds) o e eτ := by
  unfold runR
  rw [if_pos hl]
  cases o with
  | ok c =>
    obtain ⟨fl, st', e1, hk, tl, rfl⟩ := h
    rw [e1]
    rcases hk with rfl | ⟨rfl, hk⟩
    · rfl
    · show M.ok (D.non, _) = .ok (e c.1, _); rw [hk]
  | exn c fs => trivial
  | stuck => trivial
theorem fn_I {m n : Nat} {c : Str} {f : DS} {ds : List D} {o : M ρ} {nd : ρ → List Str × List D} (hl : ds.length + 1 = m) (h : RS true f (.oi 0 c [] [] :: (ds.map Slot.sh ++ List.replicate (n - ds.length - 1) .no)) o (Kini nd c)) : DM (makeM c (runI c m n f) ds) o (fun r => .ins c (nd r).1 (nd r).2) := by
  unfold makeM runI
  rw [if_pos hl]
  cases o with
  | ok r =>
    obtain ⟨fl, st', e1, rfl, tl, rfl⟩ := h
    rw [e1]
    simp only [if_true]
    rfl
  | exn c fs => obtain ⟨s, h⟩ := h rfl; rw [h]; rfl
  | stuck => trivial
/-- .. of a def whose errors nobody asks for -/
def D0 {α : Type} (m : M D) (o : M α) (v : α → D) : Prop := match o with
  | .ok c => m = .ok (v c)
  | _ => True
theorem fn_F0 {m n : Nat} {f : DS} {ds : List D} {o : M ρ} {e : ρ → D} (hl : ds.length = m) (h : RS false f (ds.map Slot.sh ++ List.replicate (n - ds.length) .no) o (Kfn e)) : D0 (runF m n f ds) o e := by
  unfold runF
  rw [if_pos hl]
  cases o with
  | ok c =>
    obtain ⟨fl, st', e1, hk⟩ := h
    rw [e1]
    rcases hk with rfl | ⟨rfl, hk⟩
    · rfl
    · show M.ok D.non = .ok (e c); rw [hk]
  | exn c fs => trivial
  | stuck => trivial
end
end DL
namespace DL
open PySem L2
def pApp {α : Type} (xs : List α) (y : α) : M (List α) := if xs.length < big then .ok (xs ++ [y]) else .stuck
def pSet {α : Type} (xs : List α) (k : Int) (v : α) : M (List α) := match ixN xs.length k with
  | some j => .ok (xs.set j v)
  | none => .stuck
def pSet2 {α : Type} (xss : List (List α)) (k l : Int) (v : α) : M (List (List α)) := (pAt xss k).bind fun r => (pSet r l v).bind fun r => pSet xss k r
def pPopAt {α : Type} (xs : List α) (k : Int) : M (α × List α) := match seqIndex? k xs.length with
  | some j => match xs[j]? with
    | some y => if k.natAbs ≤ big then .ok (y, xs.eraseIdx j) else .stuck
    | none => .stuck
  | none => .stuck
section
variable {α β γ : Type} {e : α → D} {st st1 : DSt} {i : Nat} {xs : List α} {f : Den D}
theorem x_appP {y : α} (h : st[i]? = some (.ow (xs.map e))) (hf : RV f st (e y) st1) (h1 : st1[i]? = some (.ow (xs.map e))) : RX (sExpr (dAppend i f)) st (pApp xs y) (fun ys => st1.set i (.ow (ys.map e))) := by
  unfold pApp
  by_cases hl : xs.length < big
  · rw [if_pos hl]
    show sExpr (dAppend i f) st = _
    simp only [sExpr, dAppend, bindD, dOw, h, mutD, liftO, setOw, retD]
    rw [show f st = _ from hf]
    simp only [h1, List.length_map, hl, if_true, List.map_append, List.map_cons, List.map_nil]
  · rw [if_neg hl]; trivial
theorem x_appG {o : M α} (h : st[i]? = some (.ow (xs.map e))) (hf : RE f st o e st1) (h1 : st1[i]? = some (.ow (xs.map e))) : RX (sExpr (dAppend i f)) st (o.bind fun y => pApp xs y) (fun ys => st1.set i (.ow (ys.map e))) := by
  cases o with
  | ok y => exact x_appP h hf h1
  | exn c fs => obtain ⟨s, hf⟩ := hf; exact ⟨s, by simp only [sExpr, dAppend, bindD, dOw, h]; rw [hf]⟩
  | stuck => trivial
/-- xs[k] = v, behind value and index -/
def storeK (i : Nat) (v : D) (k : D) : DS := match k with
  | .int k => bindD (mutD i fun ds => match ixN ds.length k with | some j => some ((), ds.set j v) | none => none) fun _ => retD .nx
  | _ => fun _ => .stuck
theorem x_setKr {k : Int} {v : α} {n : Nat} (h : st[i]? = some (.rf n (xs.map e))) : RX (storeK i (e v) (eI k)) st (pSet xs k v) (fun ys => st.set i (.rf n (ys.map e))) := by
  unfold pSet
  cases hx : ixN xs.length k with
  | none => trivial
  | some j =>
    show storeK i (e v) (eI k) st = _
    simp only [storeK, bindD, mutD, dOw, h, liftO, List.length_map, hx, setOw, retD, List.map_set]
/-- xs[k][l] = v -/
theorem pAt_j {xs : List α} {k : Int} {r : α} (h : pAt xs k = .ok r) : ∃ j, ixN xs.length k = some j ∧ xs[j]? = some r := by
  unfold pAt oM atI at h
  cases hx : ixN xs.length k with
  | none => rw [hx] at h; cases h
  | some j =>
    rw [hx, Option.bind_some] at h
    cases hy : xs[j]? with
    | none => rw [hy] at h; cases h
    | some y => rw [hy] at h; cases h; exact ⟨j, rfl, hy⟩
theorem x_set2 {xss : List (List α)} {e1 e2 f : Den D} {k l : Int} {v : α} (h : st[i]? = some (.o2 (xss.map (List.map e)))) (hf : RV f st (e v) st) (h1 : RV e1 st (eI k) st) (h2 : RV e2 (st.set i .no) (eI l) (st.set i .no)) :
    RX (sStore2 i e1 e2 f) st (pSet2 xss k l v) (fun ys => st.set i (.o2 (ys.map (List.map e)))) := by
  unfold pSet2
  cases hr : pAt xss k with
  | exn c fs => unfold pAt oM at hr; split at hr <;> cases hr
  | stuck => trivial
  | ok r =>
    obtain ⟨j, hj, hr⟩ := pAt_j hr
    simp only [bind_ok]
    unfold pSet
    cases hl : ixN r.length l with
    | none => trivial
    | some q =>
      simp only [bind_ok, hj]
      have hq := ixN_lt hl
      have hil : i < st.length := by
        rcases Nat.lt_or_ge i st.length with z | z
        · exact z
        · rw [List.getElem?_eq_none z] at h; cases h
      have a1 : rowAt (xss.map (List.map e)) (eI k) = some (j, r.map e) := by simp [rowAt, hj, hr]
      have a2 : rowAt (r.map e) (eI l) = some (q, e (r[q]'hq)) := by simp [rowAt, hl, hq]
      have a3 : (st.set i .no)[i]? = some .no := by rw [List.getElem?_set_self hil]
      show sStore2 i e1 e2 f st = _
      simp only [sStore2, bindD]
      rw [show f st = _ from hf]
      simp only [dO2, h]
      rw [show e1 st = _ from h1]
      simp only [h, liftO, a1, hideD, noX]
      rw [show e2 (st.set i .no) = _ from h2]
      simp only [a2, backO, a3, retD, List.set_set]
      congr 1
      simp [List.map_set]
end
/-- f gives a value, and what the list is then -/
def RT {α τ δ : Type} (f : Den δ) (st : DSt) (o : M (α × τ)) (v : α → δ) (S : τ → DSt) : Prop := match o with
  | .ok p => f st = .ok (v p.1) (S p.2)
  | _ => True
section
variable {α β τ δ ε : Type} {st st1 : DSt} {S : τ → DSt} {v : α → δ} {w : β → ε}
theorem rt_bindP {a : Den δ} {x : δ} {k : δ → Den ε} {o : M (β × τ)} (h1 : RV a st x st1) (h2 : RT (k x) st1 o w S) : RT (bindD a k) st o w S := by
  have e : bindD a k st = k x st1 := by unfold bindD; rw [h1]
  cases o with
  | ok c => show bindD a k st = _; rw [e]; exact h2
  | exn c fs => trivial
  | stuck => trivial
theorem rt_bindG {a : Den δ} {o : M α} {k : δ → Den ε} {o2 : α → M (β × τ)} (h1 : RE a st o v st1) (h2 : ∀ c, RT (k (v c)) st1 (o2 c) w S) : RT (bindD a k) st (o.bind o2) w S := by
  cases o with
  | ok c => exact rt_bindP (show RV a st (v c) st1 from h1) (h2 c)
  | exn c fs => trivial
  | stuck => trivial
theorem rt_bindS {a : Den δ} {o : M (α × τ)} {k : δ → Den ε} {o2 : α × τ → M (β × τ)} (h1 : RT a st o v S) (h2 : ∀ p, RT (k (v p.1)) (S p.2) (o2 p) w S) : RT (bindD a k) st (o.bind o2) w S := by
  cases o with
  | ok p => exact rt_bindP (show RV a st (v p.1) (S p.2) from h1) (h2 p)
  | exn c fs => trivial
  | stuck => trivial
theorem rt_assoc {ζ : Type} {a : Den δ} {g : δ → Den ε} {k : ε → Den ζ} {o : M (β × τ)} {w : β → ζ} (h : RT (bindD a fun x => bindD (g x) k) st o w S) : RT (bindD (bindD a g) k) st o w S := by
  have e : bindD (bindD a g) k st = bindD a (fun x => bindD (g x) k) st := by unfold bindD; cases a st <;> rfl
  cases o with
  | ok c => show _ = _; rw [e]; exact h
  | exn c fs => trivial
  | stuck => trivial
theorem rt_rv {f : Den δ} {c : α} {r : τ} (h : RV f st (v c) (S r)) : RT f st (.ok (c, r)) v S := h
theorem rt_re {f : Den δ} {o : M α} {r : τ} (h : RE f st o v (S r)) : RT f st (o.bind fun c => .ok (c, r)) v S := by
  cases o with
  | ok c => exact h
  | exn c fs => trivial
  | stuck => trivial
theorem rt_ite {a b : Den δ} {x : Bool} {o1 o2 : M (α × τ)} (h1 : x = true → RT a st o1 v S) (h2 : x = false → RT b st o2 v S) : RT (if x = true then a else b) st (if x = true then o1 else o2) v S := by
  cases x with
  | true => exact h1 rfl
  | false => exact h2 rfl
/-- a call, behind its arguments -/
def callK (df : List D → List D → M (D × List D)) (i : Nat) (ds : List D) : Den D := bindD (dOw i) fun ss => bindD (liftM' (df ss ds)) fun r => bindD (setOw i r.2) fun _ => retD r.1
theorem rt_callR {df : List D → List D → M (D × List D)} {i k : Nat} {ds : List D} {eτ : α → D} {xs : List α} {o : M (β × List α)} {w : β → D} {S : List α → DSt} (h : st[i]? = some (.rf k (xs.map eτ))) (hS : ∀ ys : List α, st.set i (.rf k (ys.map eτ)) = S ys) (hd : DR (df (xs.map eτ) ds) o w eτ) : RT (callK df i ds) st o w S := by
  cases o with
  | ok p =>
    have hd : df (xs.map eτ) ds = .ok (w p.1, p.2.map eτ) := hd
    show callK df i ds st = _
    simp only [callK, bindD, dOw, h, liftM', hd, setOw, retD, hS]
  | exn c fs => trivial
  | stuck => trivial
theorem rt_callO {df : List D → List D → M (D × List D)} {i : Nat} {ds : List D} {eτ : α → D} {xs : List α} {o : M (β × List α)} {w : β → D} {S : List α → DSt} (h : st[i]? = some (.ow (xs.map eτ))) (hS : ∀ ys : List α, st.set i (.ow (ys.map eτ)) = S ys) (hd : DR (df (xs.map eτ) ds) o w eτ) : RT (callK df i ds) st o w S := by
  cases o with
  | ok p =>
    have hd : df (xs.map eτ) ds = .ok (w p.1, p.2.map eτ) := hd
    show callK df i ds st = _
    simp only [callK, bindD, dOw, h, liftM', hd, setOw, retD, hS]
  | exn c fs => trivial
  | stuck => trivial
def mapS {α β τ : Type} (f : α → τ → M (β × τ)) : List α → τ → M (List β × τ)
  | [], r => .ok ([], r)
  | x :: xs, r => (f x r).bind fun p => (mapS f xs p.2).bind fun q => .ok (p.1 :: q.1, q.2)
def pMapS {α β τ : Type} (f : α → τ → M (β × τ)) (xs : List α) (r : τ) : M (List β × τ) := if xs.length ≤ big then mapS f xs r else .stuck
theorem compGo_S1 {vs : List Nat} {t : Tg} {elt : Den D} {e : α → D} {e2 : β → D} {f : α → τ → M (β × τ)} {S0 : τ → DSt} (S1 : α → τ → DSt) (hb : ∀ x r, setT t (e x) (S0 r) = some (S1 x r) ∧ RT elt (S1 x r) (f x r) e2 (S1 x) ∧ wipeD (S1 x r) vs = S0 r) :
    ∀ (xs : List α) (r : τ), match mapS f xs r with | .ok q => compGo vs t dYes elt (xs.map e) (S0 r) = .ok (q.1.map e2) (S0 q.2) | _ => True
  | [], r => rfl
  | x :: xs, r => by
    obtain ⟨h1, h2, h3⟩ := hb x r
    simp only [mapS]
    cases hf : f x r with
    | ok p =>
      rw [hf] at h2
      have h2 : elt (S1 x r) = .ok (e2 p.1) (S1 x p.2) := h2
      have ih := compGo_S1 S1 hb xs p.2
      have hy : dYes (S1 x r) = .ok true (S1 x r) := rfl
      have h4 := (hb x p.2).2.2
      simp only [bind_ok]
      cases hr : mapS f xs p.2 with
      | ok q =>
        rw [hr] at ih
        simp only [] at ih
        simp only [bind_ok, List.map_cons, compGo, h1, hy, h2, h4, ih]
      | exn c fs => trivial
      | stuck => trivial
    | exn c fs => trivial
    | stuck => trivial
theorem rt_comp {vs : List Nat} {t : Tg} {elt : Den D} {e : α → D} {e2 : β → D} {f : α → τ → M (β × τ)} {xs : List α} {r : τ} (S0 : τ → DSt) (S1 : α → τ → DSt) (hw : ∀ r, wipeD (S r) vs = S0 r) (hp : vs.all (plainAt (S r)) = true) (hbk : ∀ r', backD (S r) (S0 r') vs = S r')
    (hb : ∀ x r, setT t (e x) (S0 r) = some (S1 x r) ∧ RT elt (S1 x r) (f x r) e2 (S1 x) ∧ wipeD (S1 x r) vs = S0 r) : RT (compK vs t dYes elt (xs.map e)) (S r) (pMapS f xs r) (List.map e2) S := by
  unfold pMapS
  by_cases hl : xs.length ≤ big
  · rw [if_pos hl]
    have h := compGo_S1 (vs := vs) (t := t) (elt := elt) (e := e) (e2 := e2) (f := f) S1 hb xs r
    cases hr : mapS f xs r with
    | ok q =>
      rw [hr] at h
      simp only [] at h
      show compK vs t dYes elt (xs.map e) (S r) = _
      unfold compK
      rw [if_pos ⟨by rw [List.length_map]; exact hl, hp⟩, hw, h]
      simp only [hbk]
    | exn c fs => trivial
    | stuck => trivial
  · rw [if_neg hl]; trivial
/-- a statement with such an expression -/
theorem rs_bindS {γ : Type} {a : Den δ} {k : δ → DS} {b : DS} {o1 : M (α × τ)} {o2 : α × τ → M γ} {K : γ → Fl → DSt → Prop} (S : τ → DSt) (h1 : RT a st o1 v S) (h2 : ∀ p, RS false (sSeq (k (v p.1)) b) (S p.2) (o2 p) K) : RS false (sSeq (bindD a k) b) st (o1.bind o2) K := by
  cases o1 with
  | ok p => exact rs_bindP (show RV a st (v p.1) (S p.2) from h1) (h2 p)
  | exn c fs => intro z; cases z
  | stuck => trivial
end
end DL
namespace DL
open PySem L2
/-- a list still changed, or not any more -/
def fz (z : Bool) (ds : List D) : Slot := if z = true then .ow ds else .sh (.lst ds)
section
variable {α β γ δ ε σ ρ τ : Type} {st st1 st2 : DSt} {e : α → D}
theorem re_consP {a : Den D} {x : D} {r : Den (List D)} {K : List D → Den δ} {o : M α} {w : α → δ} (h1 : RV a st x st1) (h2 : RE (bindD r fun xs => K (x :: xs)) st1 o w st2) : RE (bindD (dCons a r) K) st o w st2 :=
  re_assoc (re_bindP h1 (re_assoc h2))
theorem re_consG {a : Den D} {r : Den (List D)} {K : List D → Den δ} {o : M α} {v : α → D} {o2 : α → M β} {w : β → δ} (h1 : RE a st o v st1) (h2 : ∀ c, RE (bindD r fun xs => K (v c :: xs)) st1 (o2 c) w st2) : RE (bindD (dCons a r) K) st (o.bind o2) w st2 :=
  re_assoc (re_bindG h1 fun c => re_assoc (h2 c))
theorem re_nil {K : List D → Den δ} {o : M α} {w : α → δ} (h : RE (K []) st o w st2) : RE (bindD dNil K) st o w st2 := re_bindP rv_ret h
theorem rv_cons {a : Den D} {x : D} {r : Den (List D)} {K : List D → Den δ} {y : δ} (h1 : RV a st x st1) (h2 : RV (bindD r fun xs => K (x :: xs)) st1 y st2) : RV (bindD (dCons a r) K) st y st2 :=
  rv_assoc (rv_bind h1 (rv_assoc h2))
theorem rv_nil {K : List D → Den δ} {y : δ} (h : RV (K []) st y st2) : RV (bindD dNil K) st y st2 := rv_bind rv_ret h
theorem rt_consP {S : τ → DSt} {a : Den D} {x : D} {r : Den (List D)} {K : List D → Den δ} {o : M (α × τ)} {w : α → δ} (h1 : RV a st x st1) (h2 : RT (bindD r fun xs => K (x :: xs)) st1 o w S) : RT (bindD (dCons a r) K) st o w S :=
  rt_assoc (rt_bindP h1 (rt_assoc h2))
theorem rt_consS {S : τ → DSt} {a : Den D} {r : Den (List D)} {K : List D → Den δ} {o : M (α × τ)} {v : α → D} {o2 : α × τ → M (β × τ)} {w : β → δ} (h1 : RT a st o v S) (h2 : ∀ p, RT (bindD r fun xs => K (v p.1 :: xs)) (S p.2) (o2 p) w S) : RT (bindD (dCons a r) K) st (o.bind o2) w S :=
  rt_assoc (rt_bindS h1 fun c => rt_assoc (h2 c))
theorem rt_nil {S : τ → DSt} {K : List D → Den δ} {o : M (α × τ)} {w : α → δ} (h : RT (K []) st o w S) : RT (bindD dNil K) st o w S := rt_bindP rv_ret h
theorem re_tail {a : Den δ} {k : δ → Den ε} {o : M α} {v : α → δ} {w : α → ε} (h1 : RE a st o v st1) (h2 : ∀ c, RV (k (v c)) st1 (w c) st2) : RE (bindD a k) st o w st2 := by
  cases o with
  | ok c => exact rv_bind (show RV a st (v c) st1 from h1) (h2 c)
  | exn c fs => obtain ⟨s, h⟩ := h1; exact ⟨s, by unfold bindD; rw [h]⟩
  | stuck => trivial
theorem rt_tail {S : τ → DSt} {a : Den δ} {k : δ → Den ε} {o : M (α × τ)} {v : α → δ} {w : α → ε} (h1 : RT a st o v S) (h2 : ∀ p : α × τ, RV (k (v p.1)) (S p.2) (w p.1) (S p.2)) : RT (bindD a k) st o w S := by
  cases o with
  | ok p => exact rv_bind (show RV a st (v p.1) (S p.2) from h1) (h2 p)
  | exn c fs => trivial
  | stuck => trivial
theorem rv_andE {b : Den D} {x y : Bool} (h : x = true → RV b st (eB y) st) : RV (if x = true then b else dC (.bl false)) st (eB (x && y)) st := by
  cases x with
  | true => exact h rfl
  | false => rfl
theorem rv_chain {op' : D → D → Option D} {p q : Bool} {o : Option D} {c : Den D} {y w : D} (h1 : o = some (eB p)) (hc : RV c st w st) (h2 : op' y w = some (eB q)) :
    RV (bindD (liftO o) fun z => bindD (liftO (asB z)) fun k => if k = true then bindD c fun w => liftO (op' y w) else retD (.bl false)) st (eB (p && q)) st := by
  subst h1
  cases p with
  | false => rfl
  | true =>
    show (bindD c fun w => liftO (op' y w)) st = _
    unfold bindD
    rw [show c st = _ from hc]
    simp only [liftO, h2]; rfl
theorem rs_iteN {X : Bool} {K : γ → Fl → DSt → Prop} {x : Bool} {f g : DS} {o1 o2 : M γ} (h1 : x = true → RS X f st o1 K) (h2 : x = false → RS X g st o2 K) : RS X (if x = true then f else g) st (if x = true then o1 else o2) K := by
  cases x with
  | true => exact h1 rfl
  | false => exact h2 rfl
theorem rs_st {X : Bool} {K : γ → Fl → DSt → Prop} {f : DS} {o : M γ} (st2 : DSt) (e : st = st2) (h : RS X f st2 o K) : RS X f st o K := by subst e; exact h
def pEq (x y : D) : M Bool := oM (eqD x y)
def pNe (x y : D) : M Bool := match eqD x y with | some b => .ok (!b) | none => .stuck
def pIsN (x y : D) : M Bool := match isD x y with | some b => .ok (!b) | none => .stuck
def pStr (i : Int) : M Str := if i.natAbs.log2 < 1920 then .ok (toString i : String) else .stuck
def pAtS (z : Str) (i : Int) : M Str := match opIx (.str z) (.int i) with | some (.str c) => .ok c | _ => .stuck
def pNX {α : Type} : M α → M α
  | .ok a => .ok a
  | _ => .stuck
@[simp] theorem pNX_ok {α : Type} (a : α) : pNX (.ok a) = .ok a := rfl
theorem op_eqD {x y : D} : OP (opEq x y) (pEq x y) eB := by unfold pEq opEq; cases eqD x y <;> simp [OP, oM]
theorem op_neD {x y : D} : OP (opNe x y) (pNe x y) eB := by unfold pNe opNe; cases eqD x y <;> simp [OP]
theorem op_isNDD {x y : D} : OP (opIsNot x y) (pIsN x y) eB := by unfold pIsN opIsNot; cases isD x y <;> simp [OP]
theorem op_str {i : Int} : OP (opStr (eI i)) (pStr i) eS := by
  unfold pStr
  by_cases h : i.natAbs.log2 < 1920
  · rw [if_pos h]; simp only [OP, opStr, h, if_true]
  · rw [if_neg h]; trivial
theorem op_atS {z : Str} {i : Int} : OP (opIx (eS z) (eI i)) (pAtS z i) eS := by
  unfold pAtS
  split
  · rename_i c h; exact h
  · trivial
theorem op_nCatD {x y : D} {xs ys : List D} (hx : x = .lst xs) (hy : y = .lst ys) : OP (nAdd x y) (pCat xs ys) (List.map eD) := by
  subst hx hy
  unfold pCat
  by_cases h : xs.length + ys.length ≤ big
  · rw [if_pos h]; simp only [OP, nAdd, h, if_true]; rw [show (xs ++ ys).map eD = xs ++ ys from List.map_id' _]
  · rw [if_neg h]; trivial
theorem op_slScr {ns : List Int} {lo hi : Option Int} : opSl (.scr ns) lo hi = some (eL eI (cutD ns lo hi)) := by simp only [opSl, eL, ← cutD_map]
def DO {α : Type} (m : Option (List D)) (o : M (List α)) (e : α → D) : Prop := match o with
  | .ok xs => m = some (xs.map e)
  | _ => True
/-- statements, then a new list -/
def RO {α : Type} (a : DS) (r : Den (List D)) (st : DSt) (o : M α) (w : α → List D) : Prop := RS false a st o (fun c fl st' => fl = .nx ∧ ∃ s, r st' = .ok (w c) s)
theorem fn_O {m n : Nat} {a : DS} {r : Den (List D)} {ds : List D} {o : M (List α)} (hl : ds.length = m) (h : RO a r (ds.map Slot.sh ++ List.replicate (n - ds.length) .no) o (List.map e)) : DO (runO m n a r ds) o e := by
  unfold runO
  rw [if_pos hl]
  cases o with
  | ok c =>
    obtain ⟨fl, st', e1, rfl, s, e2⟩ := h
    rw [e1]
    simp only [e2]
    rfl
  | exn c fs => trivial
  | stuck => trivial
theorem rs_endO {r : Den (List D)} {o : M α} {w : α → List D} (h : RE r st o w st2) : RS false sPass st o (fun c fl st' => fl = .nx ∧ ∃ s, r st' = .ok (w c) s) := by
  cases o with
  | ok c => exact ⟨_, _, rfl, rfl, _, h⟩
  | exn c fs => intro z; cases z
  | stuck => trivial
theorem re_liftO {x : Option (List D)} {o : M (List α)} (h : DO x o e) : RE (liftO x) st (pNX o) (List.map e) st := by
  cases o with
  | ok c => show liftO x st = _; rw [show x = _ from h]; rfl
  | exn c fs => trivial
  | stuck => trivial
theorem x_set2G {i : Nat} {xss : List (List α)} {e1 e2 f : Den D} {ov : M α} {ok ol : M Int} (h : st[i]? = some (.o2 (xss.map (List.map e)))) (hf : RE f st ov e st) (h1 : RE e1 st ok eI st) (h2 : RE e2 (st.set i .no) ol eI (st.set i .no)) :
    RX (sStore2 i e1 e2 f) st (pNX (ov.bind fun v => ok.bind fun k => ol.bind fun l => pSet2 xss k l v)) (fun ys => st.set i (.o2 (ys.map (List.map e)))) := by
  cases ov with
  | ok v => cases ok with
    | ok k => cases ol with
      | ok l =>
        have := x_set2 (e := e) (k := k) (l := l) (v := v) h hf h1 h2
        simp only [bind_ok]
        cases hp : pSet2 xss k l v with
        | ok c => rw [hp] at this; exact this
        | exn c fs => trivial
        | stuck => trivial
      | exn c fs => trivial
      | stuck => trivial
    | exn c fs => trivial
    | stuck => trivial
  | exn c fs => trivial
  | stuck => trivial
/-- xs.append(f), f changes another list -/
theorem rs_appS {K : γ → Fl → DSt → Prop} {i : Nat} {xs : List α} {f : Den D} {o : M (α × τ)} {o2 : α × τ → List α → M γ} {b : DS} (S : τ → DSt) (h : st[i]? = some (.ow (xs.map e))) (hf : RT f st o e S) (h1 : ∀ r, (S r)[i]? = some (.ow (xs.map e)))
    (hk : ∀ p ys, RS false b ((S p.2).set i (.ow (ys.map e))) (o2 p ys) K) : RS false (sSeq (sExpr (dAppend i f)) b) st (o.bind fun p => (pApp xs p.1).bind fun ys => o2 p ys) K := by
  cases o with
  | ok p =>
    have hx := x_appP (e := e) (xs := xs) (y := p.1) (f := fun _ => f st) (st := S p.2) (st1 := S p.2) (i := i) (h1 p.2) (show f st = _ from hf) (h1 p.2)
    have e1 : sExpr (dAppend i f) st = sExpr (dAppend i fun _ => f st) (S p.2) := by
      simp only [sExpr, dAppend, bindD, dOw, h, h1]
    have := rs_x (X := false) (b := b) (K := K) hx (fun ys => hk p ys)
    exact rs_of_eq (by unfold sSeq; rw [e1]) this
  | exn c fs => intro z; cases z
  | stuck => trivial
theorem erase_map {β : Type} (f : α → β) : ∀ (xs : List α) (q : Nat), (xs.map f).eraseIdx q = (xs.eraseIdx q).map f
  | [], _ => rfl
  | x :: xs, 0 => rfl
  | x :: xs, q + 1 => by
    show f x :: (xs.map f).eraseIdx q = f x :: (xs.eraseIdx q).map f
    rw [erase_map f xs q]
/-- xs.append(ys.pop(f)), f changes another list -/
theorem rs_appPop {K : γ → Fl → DSt → Prop} {i j : Nat} {xs ys : List α} {f : Den D} {o : M (Int × τ)} {o2 : Int × τ → α × List α → List α → M γ} {b : DS} (S : τ → DSt) (h : st[i]? = some (.ow (ys.map e))) (hj : st[j]? = some (.ow (xs.map e))) (hf : RT f st o eI S) (h1 : ∀ r, (S r)[i]? = some (.ow (ys.map e))) (h2 : ∀ r, (S r)[j]? = some (.ow (xs.map e))) (hn : i ≠ j)
    (hk : ∀ p q zs, RS false b (((S p.2).set j (.ow (q.2.map e))).set i (.ow (zs.map e))) (o2 p q zs) K) : RS false (sSeq (sExpr (dAppend i (dPopAt j f))) b) st (o.bind fun p => (pPopAt xs p.1).bind fun q => (pApp ys q.1).bind fun zs => o2 p q zs) K := by
  cases o with
  | ok p =>
    have hf : f st = .ok (eI p.1) (S p.2) := hf
    simp only [bind_ok]
    unfold pPopAt
    cases hs : seqIndex? p.1 xs.length with
    | none => trivial
    | some q =>
      simp only []
      cases hq : xs[q]? with
      | none => trivial
      | some y =>
        simp only []
        by_cases hb : p.1.natAbs ≤ big
        · rw [if_pos hb]
          simp only [bind_ok]
          have h3 : ((S p.2).set j (.ow ((xs.eraseIdx q).map e)))[i]? = some (.ow (ys.map e)) := by rw [List.getElem?_set_ne (Ne.symm hn)]; exact h1 p.2
          have hx := x_appP (e := e) (xs := ys) (y := y) (f := fun st => .ok (e y) st) (st := (S p.2).set j (.ow ((xs.eraseIdx q).map e))) (i := i) h3 rfl h3
          have ee : (xs.map e).eraseIdx q = (xs.eraseIdx q).map e := by
            clear hs hq hj h2
            exact erase_map e xs q
          have e1 : sExpr (dAppend i (dPopAt j f)) st = sExpr (dAppend i fun st => .ok (e y) st) ((S p.2).set j (.ow ((xs.eraseIdx q).map e))) := by
            simp only [sExpr, dAppend, dPopAt, bindD, dOw, h, hj, hf, eI, mutD, h2, liftO, popAt, List.length_map, hs, List.getElem?_map, hq, Option.map_some, hb, if_true, setOw, retD, ee, h3]
          have := rs_x (X := false) (b := b) (K := K) hx (fun zs => hk p (y, xs.eraseIdx q) zs)
          exact rs_of_eq (by unfold sSeq; rw [e1]) this
        · rw [if_neg hb]; trivial
  | exn c fs => intro z; cases z
  | stuck => trivial
end
section
variable {α β : Type} {vs : List Nat} {t : Tg} {elt : Den (List D)} {e : α → D} {e2 : β → D} {st st0 : DSt}
def compK2 (vs : List Nat) (t : Tg) (elt : Den (List D)) (ds : List D) : Den (List (List D)) := fun st =>
  if ds.length ≤ big ∧ vs.all (plainAt st) = true then
    match compGo2 vs t elt ds (wipeD st vs) with
    | .ok ys st' => .ok ys (backD st st' vs)
    | _ => .stuck
  else .stuck
theorem compGo2_typed {f : α → M (List β)} (hb : ∀ x, ∃ st1 st3, setT t (e x) st0 = some st1 ∧ RE elt st1 (f x) (List.map e2) st3 ∧ wipeD st3 vs = st0) :
    ∀ xs : List α, match mapGo f xs with | .ok ys => compGo2 vs t elt (xs.map e) st0 = .ok (ys.map (List.map e2)) st0 | _ => True
  | [] => rfl
  | x :: xs => by
    obtain ⟨st1, st3, h1, h2, h3⟩ := hb x
    have ih := compGo2_typed hb xs
    simp only [mapGo]
    cases hf : f x with
    | ok y =>
      rw [hf] at h2
      cases hr : mapGo f xs with
      | ok ys =>
        rw [hr] at ih
        simp only [] at ih ⊢
        simp only [List.map_cons, compGo2, h1]
        rw [show elt st1 = _ from h2]
        simp only [h3, ih]
      | exn c fs => trivial
      | stuck => trivial
    | exn c fs => trivial
    | stuck => trivial
theorem re_comp2 {xs : List α} {f : α → M (List β)} (st0 : DSt) (hw : wipeD st vs = st0) (hp : vs.all (plainAt st) = true) (hbk : backD st st0 vs = st)
    (hb : ∀ x, ∃ st1 st3, setT t (e x) st0 = some st1 ∧ RE elt st1 (f x) (List.map e2) st3 ∧ wipeD st1 vs = st0 ∧ wipeD st3 vs = st0) : RE (compK2 vs t elt (xs.map e)) st (pMap f xs) (List.map (List.map e2)) st := by
  unfold pMap
  by_cases hl : xs.length ≤ big
  · rw [if_pos hl]
    have h := compGo2_typed (vs := vs) (t := t) (elt := elt) (e := e) (e2 := e2) (f := f) (st0 := st0) (fun x => by
      obtain ⟨st1, st3, h1, h2, h3, h4⟩ := hb x
      exact ⟨st1, st3, h1, h2, h4⟩) xs
    cases hr : mapGo f xs with
    | ok ys =>
      rw [hr] at h
      simp only [] at h
      show compK2 vs t elt (xs.map e) st = _
      unfold compK2
      rw [if_pos ⟨by rw [List.length_map]; exact hl, hp⟩, hw, h]
      simp only [hbk]
    | exn c fs => rw [mapGo_fil] at hr; exact absurd hr (filGo_exn xs)
    | stuck => trivial
  · rw [if_neg hl]; trivial
end
end DL
namespace DL
open PySem L2
def ix {α : Type} [Inhabited α] (xs : List α) (i : Int) : α := xs.getD i.toNat default
section
variable {α β σ ρ : Type}
theorem pAt_ok [Inhabited α] {xs : List α} {i : Int} (h0 : 0 ≤ i) (h1 : i < xs.length) : pAt xs i = .ok (ix xs i) := by
  obtain ⟨k, rfl⟩ := Int.eq_ofNat_of_zero_le h0
  have hk : k < xs.length := by omega
  unfold pAt ix
  rw [atI_nat, List.getElem?_eq_getElem hk, List.getD_eq_getElem?_getD]
  simp [hk]
theorem ix_mem [Inhabited α] {xs : List α} {i : Int} (h0 : 0 ≤ i) (h1 : i < xs.length) : ix xs i ∈ xs := by
  unfold ix
  have hk : i.toNat < xs.length := by omega
  rw [List.getD_eq_getElem?_getD, List.getElem?_eq_getElem hk]
  simp
theorem mem_ix [Inhabited α] {xs : List α} {x : α} (h : x ∈ xs) : ∃ i : Int, 0 ≤ i ∧ i < xs.length ∧ ix xs i = x := by
  obtain ⟨k, hk, rfl⟩ := List.getElem_of_mem h
  refine ⟨(k : Int), by omega, by omega, ?_⟩
  simp [ix, hk]
theorem ix_ext [Inhabited α] {xs ys : List α} (hl : xs.length = ys.length) (h : ∀ i : Int, 0 ≤ i → i < xs.length → ix xs i = ix ys i) : xs = ys := by
  apply List.ext_getElem hl
  intro k h1 h2
  have := h k (by omega) (by omega)
  simpa [ix, h1, h2] using this
theorem ix_app2 [Inhabited α] {xs ys : List α} {i : Int} (h : (xs.length : Int) ≤ i) : ix (xs ++ ys) i = ix ys (i - xs.length) := by
  unfold ix
  have hk : xs.length ≤ i.toNat := by omega
  rw [List.getD_eq_getElem?_getD, List.getD_eq_getElem?_getD, List.getElem?_append_right hk]
  congr 2; omega
@[simp] theorem ix_cons0 [Inhabited α] {x : α} {xs : List α} : ix (x :: xs) 0 = x := rfl
theorem ix_cons [Inhabited α] {x : α} {xs : List α} {i : Int} (h : 0 < i) : ix (x :: xs) i = ix xs (i - 1) := by
  unfold ix
  obtain ⟨k, hk⟩ : ∃ k : Nat, i = k + 1 := ⟨(i - 1).toNat, by omega⟩
  subst hk
  have : ((k : Int) + 1).toNat = k + 1 := by omega
  rw [this]
  simp
theorem ix_map [Inhabited α] [Inhabited β] {f : α → β} {xs : List α} {i : Int} (h0 : 0 ≤ i) (h : i < xs.length) : ix (xs.map f) i = f (ix xs i) := by
  unfold ix
  have hk : i.toNat < xs.length := by omega
  simp [hk]
@[simp] theorem mem_rng {n x : Int} : x ∈ rng n ↔ 0 ≤ x ∧ x < n := by
  unfold rng
  rw [List.mem_map]
  constructor
  · rintro ⟨k, hk, rfl⟩
    rw [List.mem_range] at hk
    omega
  · intro ⟨h0, h1⟩
    exact ⟨x.toNat, by rw [List.mem_range]; omega, by omega⟩
@[simp] theorem len_rng {n : Int} : (rng n).length = n.toNat := by simp [rng]
@[simp] theorem len_rng2 {m n : Int} : (rng2 m n).length = (n - m).toNat := by simp [rng2]
theorem rng_nodup {n : Int} : (rng n).Nodup := by
  unfold rng
  exact List.nodup_range.map _ (fun a b h => by omega) |> id
theorem ix_rng {n i : Int} (h0 : 0 ≤ i) (h : i < n) : ix (rng n) i = i := by
  unfold ix rng
  have hk : i.toNat < n.toNat := by omega
  simp [hk]; omega
theorem ix_map_rng [Inhabited β] {f : Int → β} {n i : Int} (h0 : 0 ≤ i) (h : i < n) : ix ((rng n).map f) i = f i := by
  rw [ix_map h0 (by rw [len_rng]; omega), ix_rng h0 h]
theorem list_rng [Inhabited α] {xs : List α} {n : Int} (h : (xs.length : Int) = n) : xs = (rng n).map (ix xs) := by
  apply ix_ext
  · simp; omega
  · intro i h0 h1
    rw [ix_map_rng h0 (by omega)]
theorem rng_succ {n : Int} (h : 0 ≤ n) : rng (n + 1) = rng n ++ [n] := by
  unfold rng
  have : (n + 1).toNat = n.toNat + 1 := by omega
  rw [this, List.range_succ, List.map_append]
  simp; omega
@[simp] theorem rng_zero : rng 0 = [] := rfl
theorem pRng_ok {n : Int} (h0 : 0 ≤ n) (h : n ≤ 16777216) : pRng n = .ok (rng n) := by
  unfold pRng
  rw [if_pos (by have : big = 16777216 := rfl; omega)]
theorem pApp_ok {xs : List α} {y : α} (h : xs.length < 16777216) : pApp xs y = .ok (xs ++ [y]) := by
  unfold pApp
  rw [if_pos (by have : big = 16777216 := rfl; omega)]
theorem pCat_ok {xs ys : List α} (h : xs.length + ys.length ≤ 16777216) : pCat xs ys = .ok (xs ++ ys) := by
  unfold pCat
  rw [if_pos (by have : big = 16777216 := rfl; omega)]
theorem pMul_ok {a b : Int} (h : a.natAbs < 18446744073709551616) : pMul a b = .ok (a * b) := by
  unfold pMul smallI
  simp [h]
theorem pMul_ok2 {a b : Int} (h : b.natAbs < 18446744073709551616) : pMul a b = .ok (a * b) := by
  unfold pMul smallI
  simp [h]
theorem pDiv_ok {a b : Int} (h : 0 < b) (h2 : b < 1073741824) : pDiv a b = .ok (a / b) := by
  unfold pDiv
  rw [if_pos (by omega), Int.fdiv_eq_ediv_of_nonneg _ (by omega)]
theorem pMod_ok {a b : Int} (h : 0 < b) : pMod a b = .ok (a % b) := by
  unfold pMod
  rw [if_pos (by omega), Int.fmod_eq_emod_of_nonneg _ (by omega)]
theorem pSet_ok {xs : List α} {k : Int} {v : α} (h0 : 0 ≤ k) (h : k < xs.length) : pSet xs k v = .ok (xs.set k.toNat v) := by
  obtain ⟨j, rfl⟩ := Int.eq_ofNat_of_zero_le h0
  unfold pSet
  rw [ixN_nat, if_pos (by omega)]
  simp
/-- the first place -/
def idx [DecidableEq α] (xs : List α) (x : α) : Int := (xs.idxOf x : Int)
theorem pIndex_ok [DecidableEq α] {xs : List α} {x : α} (h : x ∈ xs) : pIndex xs x = .ok (idx xs x) := by unfold pIndex idx; rw [if_pos h]
theorem ix_set [Inhabited α] {xs : List α} {k i : Int} {v : α} (h0 : 0 ≤ k) (h : k < xs.length) (h2 : 0 ≤ i) : ix (xs.set k.toNat v) i = if i = k then v else ix xs i := by
  unfold ix
  have hk : k.toNat < xs.length := by omega
  by_cases e : i = k
  · subst e; simp [hk]
  · rw [if_neg e, List.getD_eq_getElem?_getD, List.getElem?_set_ne (by omega), ← List.getD_eq_getElem?_getD]
theorem ix_idx [DecidableEq α] [Inhabited α] {xs : List α} {x : α} (h : x ∈ xs) : ix xs (idx xs x) = x := by
  have := List.idxOf_lt_length_of_mem h
  unfold ix idx
  simp [this]
theorem idx_lt [DecidableEq α] {xs : List α} {x : α} (h : x ∈ xs) : 0 ≤ idx xs x ∧ idx xs x < xs.length := by
  have := List.idxOf_lt_length_of_mem h
  unfold idx
  omega
theorem map_rng [Inhabited α] (f : α → β) (xs : List α) : xs.map f = (rng xs.length).map fun i => f (ix xs i) := by
  have h := list_rng (xs := xs) rfl
  conv => lhs; rw [h]
  rw [List.map_map]; rfl
theorem sIx_nn {n d : Nat} {k : Int} (h : 0 ≤ k) : HT.sIx n d (some k) = min k.toNat n := by
  unfold HT.sIx
  simp only
  split <;> omega
theorem cutD_from {xs : List α} {k : Int} (h : 0 ≤ k) : cutD xs (some k) none = xs.drop k.toNat := by
  unfold cutD
  rw [sIx_nn h, show HT.sIx xs.length xs.length none = xs.length from rfl]
  rcases Nat.le_total k.toNat xs.length with q | q
  · rw [Nat.min_eq_left q, List.take_of_length_le (by simp)]
  · rw [Nat.min_eq_right q, List.drop_of_length_le q]; simp
theorem pfold_inv {F : α → σ → M σ} (I : List α → σ → Prop) : ∀ (xs pre : List α) (a : σ), I pre a → (∀ p x q a, pre ++ xs = p ++ x :: q → I p a → ∃ b, F x a = .ok b ∧ I (p ++ [x]) b) → ∃ b, pfold F xs a = .ok b ∧ I (pre ++ xs) b
  | [], pre, a, h, _ => ⟨a, rfl, by simpa using h⟩
  | x :: xs, pre, a, h, hs => by
    obtain ⟨b, h1, h2⟩ := hs pre x xs a rfl h
    obtain ⟨c, h3, h4⟩ := pfold_inv I xs (pre ++ [x]) b h2 (fun p y q a e => hs p y q a (by rw [← e]; simp))
    exact ⟨c, by simp only [pfold, h1, bind_ok, h3], by simpa using h4⟩
theorem pfold_const {F : α → σ → M σ} {a : σ} : ∀ {xs : List α}, (∀ x ∈ xs, F x a = .ok a) → pfold F xs a = .ok a
  | [], _ => rfl
  | x :: xs, h => by
    simp only [pfold, h x List.mem_cons_self, bind_ok]
    exact pfold_const fun y hy => h y (List.mem_cons_of_mem _ hy)
/-- a loop that appends -/
theorem pfold_app {F : α → List β → M (List β)} (g : α → β) : ∀ (xs : List α) (a : List β), a.length + xs.length ≤ 16777216 → (∀ x ∈ xs, ∀ a : List β, a.length < 16777216 → F x a = .ok (a ++ [g x])) → pfold F xs a = .ok (a ++ xs.map g)
  | [], a, _, _ => by simp [pfold]
  | x :: xs, a, hl, h => by
    simp only [List.length_cons] at hl
    simp only [pfold, h x List.mem_cons_self a (by omega), bind_ok]
    rw [pfold_app g xs (a ++ [g x]) (by simp; omega) fun y hy => h y (List.mem_cons_of_mem _ hy)]
    simp
theorem rng_split {n x : Int} {p q : List Int} (e : rng n = p ++ x :: q) : p = rng x ∧ 0 ≤ x ∧ x < n := by
  have hx : x ∈ rng n := by rw [e]; simp
  have hx := mem_rng.mp hx
  have hlen : (p.length : Int) = x := by
    have h1 : ix (rng n) (p.length : Int) = x := by
      rw [e, ix_app2 (Int.le_refl _)]; simp
    have hl : p.length < (rng n).length := by rw [e]; simp
    rw [len_rng] at hl
    rwa [ix_rng (by omega) (by omega)] at h1
  refine ⟨?_, hx⟩
  have h2 : p = (rng n).take p.length := by rw [e]; simp
  rw [h2]
  apply ix_ext
  · simp; omega
  · intro i h0 h1
    simp at h1
    rw [ix_rng h0 (by omega)]
    unfold ix
    rw [List.getD_eq_getElem?_getD, List.getElem?_take_of_lt (by omega), ← List.getD_eq_getElem?_getD]
    exact ix_rng (n := n) h0 (by omega)
theorem pfold_rng {F : Int → σ → M σ} (I : Int → σ → Prop) {n : Int} {a : σ} (hn : 0 ≤ n) (h0 : I 0 a) (hs : ∀ k a, 0 ≤ k → k < n → I k a → ∃ b, F k a = .ok b ∧ I (k + 1) b) : ∃ b, pfold F (rng n) a = .ok b ∧ I n b := by
  obtain ⟨b, h1, h2⟩ := pfold_inv (F := F) (fun p a => I p.length a) (rng n) [] a (by simpa using h0) (fun p x q a e hi => by
    simp only [List.nil_append] at e
    obtain ⟨rfl, h1, h2⟩ := rng_split e
    obtain ⟨b, h3, h4⟩ := hs x a h1 h2 (by rw [len_rng] at hi; rwa [Int.toNat_of_nonneg h1] at hi)
    refine ⟨b, h3, ?_⟩
    rw [List.length_append, len_rng]
    simpa [Int.toNat_of_nonneg h1] using h4)
  refine ⟨b, h1, ?_⟩
  simpa [Int.toNat_of_nonneg hn] using h2
theorem pfor_test {F : α → σ → M (DL.F σ ρ)} {a : σ} {p : α → Bool} {r : ρ} : ∀ {xs : List α}, (∀ x ∈ xs, F x a = .ok (if p x = true then .nx a else .ret r)) → pfor F xs a = .ok (if xs.all p = true then .inl a else .inr r)
  | [], _ => rfl
  | x :: xs, h => by
    have h1 := h x List.mem_cons_self
    by_cases hp : p x = true
    · rw [if_pos hp] at h1
      simp only [pfor, h1, bind_ok]
      rw [pfor_test (p := p) (r := r) fun y hy => h y (List.mem_cons_of_mem _ hy)]
      simp [hp]
    · rw [if_neg hp] at h1
      simp only [pfor, h1, bind_ok]
      simp [hp]
end
def mul (T : List (List Int)) (x y : Int) : Int := ix (ix T x) y
def tab (n : Int) (f : Int → Int → Int) : List (List Int) := (rng n).map fun x => (rng n).map fun y => f x y
structure VT (n : Int) (T : List (List Int)) : Prop where
  len : (T.length : Int) = n
  row : ∀ r ∈ T, (r.length : Int) = n
  ent : ∀ r ∈ T, ∀ x ∈ r, 0 ≤ x ∧ x < n
def Asc (n : Int) (f : Int → Int → Int) : Prop := ∀ x y z, 0 ≤ x → x < n → 0 ≤ y → y < n → 0 ≤ z → z < n → f (f x y) z = f x (f y z)
section
variable {n : Int} {T : List (List Int)} {f : Int → Int → Int} {x y : Int}
theorem VT.n0 (V : VT n T) : 0 ≤ n := by have := V.len; omega
theorem VT.rowAt (V : VT n T) (h0 : 0 ≤ x) (h1 : x < n) : ix T x ∈ T := ix_mem h0 (by rw [V.len]; exact h1)
theorem VT.rlen (V : VT n T) (h0 : 0 ≤ x) (h1 : x < n) : ((ix T x).length : Int) = n := V.row _ (V.rowAt h0 h1)
theorem VT.lt (V : VT n T) (h0 : 0 ≤ x) (h1 : x < n) (h2 : 0 ≤ y) (h3 : y < n) : 0 ≤ mul T x y ∧ mul T x y < n := V.ent _ (V.rowAt h0 h1) _ (ix_mem h2 (by rw [V.rlen h0 h1]; exact h3))
theorem VT.at1 (V : VT n T) (h0 : 0 ≤ x) (h1 : x < n) : pAt T x = .ok (ix T x) := pAt_ok h0 (by rw [V.len]; exact h1)
theorem VT.at2 (V : VT n T) (h0 : 0 ≤ x) (h1 : x < n) (h2 : 0 ≤ y) (h3 : y < n) : pAt (ix T x) y = .ok (mul T x y) := pAt_ok h2 (by rw [V.rlen h0 h1]; exact h3)
theorem mul_tab (h0 : 0 ≤ x) (h1 : x < n) (h2 : 0 ≤ y) (h3 : y < n) : mul (tab n f) x y = f x y := by
  unfold mul tab
  rw [ix_map_rng h0 h1, ix_map_rng h2 h3]
theorem VT_tab (hn : 0 ≤ n) (h : ∀ x y, 0 ≤ x → x < n → 0 ≤ y → y < n → 0 ≤ f x y ∧ f x y < n) : VT n (tab n f) := by
  refine ⟨by simp [tab]; omega, fun r hr => ?_, fun r hr y hy => ?_⟩
  · obtain ⟨x, _, rfl⟩ := List.mem_map.mp hr
    simp; omega
  · obtain ⟨x, hx, rfl⟩ := List.mem_map.mp hr
    obtain ⟨y', hy2, rfl⟩ := List.mem_map.mp hy
    rw [mem_rng] at hx hy2
    exact h x y' hx.1 hx.2 hy2.1 hy2.2
theorem row_rng (V : VT n T) (h0 : 0 ≤ x) (h1 : x < n) : ix T x = (rng n).map (mul T x) := list_rng (V.rlen h0 h1)
theorem Asc_tab (h : Asc n f) (hc : ∀ x y, 0 ≤ x → x < n → 0 ≤ y → y < n → 0 ≤ f x y ∧ f x y < n) : Asc n (mul (tab n f)) := by
  intro x y z hx hx' hy hy' hz hz'
  have h1 := hc x y hx hx' hy hy'
  have h2 := hc y z hy hy' hz hz'
  rw [mul_tab hx hx' hy hy', mul_tab hy hy' hz hz', mul_tab h1.1 h1.2 hz hz', mul_tab hx hx' h2.1 h2.2]
  exact h x y z hx hx' hy hy' hz hz'
end
/-- a table made by two blocks, one in the other -/
theorem pMap_tab {n : Int} {F : Int → Int → M Int} {f : Int → Int → Int} (h0 : 0 ≤ n) (hn : n ≤ 16777216) (h : ∀ x y, 0 ≤ x → x < n → 0 ≤ y → y < n → F x y = .ok (f x y)) : pMap (fun x => pMap (F x) (rng n)) (rng n) = .ok (tab n f) := by
  refine pMap_ok (fun x => (rng n).map (f x)) (by rw [len_rng]; have : big = 16777216 := rfl; omega) fun x hx => ?_
  rw [mem_rng] at hx
  refine pMap_ok (f x) (by rw [len_rng]; have : big = 16777216 := rfl; omega) fun y hy => ?_
  rw [mem_rng] at hy
  exact h x y hx.1 hx.2 hy.1 hy.2
def Ok {α : Type} (o : M α) (Q : α → Prop) : Prop := ∃ a, o = .ok a ∧ Q a
section
variable {α β σ ρ : Type}
theorem Ok.of {o : M α} {a : α} {Q : α → Prop} (e : o = .ok a) (q : Q a) : Ok o Q := ⟨a, e, q⟩
theorem Ok.pure {a : α} {Q : α → Prop} (q : Q a) : Ok (.ok a) Q := ⟨a, rfl, q⟩
theorem Ok.bind {o : M α} {k : α → M β} {P : α → Prop} {Q : β → Prop} (h : Ok o P) (hk : ∀ a, P a → Ok (k a) Q) : Ok (o.bind k) Q := by
  obtain ⟨a, rfl, p⟩ := h
  exact hk a p
theorem Ok.imp {o : M α} {P Q : α → Prop} (h : Ok o P) (i : ∀ a, P a → Q a) : Ok o Q := let ⟨a, e, p⟩ := h; ⟨a, e, i a p⟩
theorem Ok.ite {x : Bool} {o1 o2 : M α} {Q : α → Prop} (h1 : x = true → Ok o1 Q) (h2 : x = false → Ok o2 Q) : Ok (if x = true then o1 else o2) Q := by
  cases x with
  | true => exact h1 rfl
  | false => exact h2 rfl
theorem Ok.eq {o : M α} {a : α} (h : Ok o (fun b => b = a)) : o = .ok a := by obtain ⟨b, e, rfl⟩ := h; exact e
theorem Ok.mk {o : M α} {a : α} (h : o = .ok a) : Ok o (fun b => b = a) := ⟨a, h, rfl⟩
theorem Ok.nx {o : M α} {Q : α → Prop} (h : Ok o Q) : Ok (pNX o) Q := by obtain ⟨a, rfl, q⟩ := h; exact ⟨a, rfl, q⟩
theorem Ok.fold {F : α → σ → M σ} {xs : List α} {a : σ} {Q : σ → Prop} (I : List α → σ → Prop) (h0 : I [] a) (hs : ∀ p x q a, xs = p ++ x :: q → I p a → Ok (F x a) (I (p ++ [x]))) (hq : ∀ b, I xs b → Q b) : Ok (pfold F xs a) Q := by
  obtain ⟨b, e, h⟩ := pfold_inv I xs [] a h0 hs
  exact ⟨b, e, hq b h⟩
theorem Ok.fold_rng {F : Int → σ → M σ} {n : Int} {a : σ} {Q : σ → Prop} (I : Int → σ → Prop) (hn : 0 ≤ n) (h0 : I 0 a) (hs : ∀ k a, 0 ≤ k → k < n → I k a → Ok (F k a) (I (k + 1))) (hq : ∀ b, I n b → Q b) : Ok (pfold F (rng n) a) Q := by
  obtain ⟨b, e, h⟩ := pfold_rng I hn h0 hs
  exact ⟨b, e, hq b h⟩
/-- an invariant that holds at each turn -/
theorem Ok.fold_all {F : α → σ → M σ} {xs : List α} {a : σ} (I : σ → Prop) (h0 : I a) (hs : ∀ x ∈ xs, ∀ a, I a → Ok (F x a) I) : Ok (pfold F xs a) I :=
  Ok.fold (fun _ => I) h0 (fun p x q a e h => hs x (by rw [e]; simp) a h) fun _ h => h
theorem Ok.map {f : α → M β} {xs : List α} {Q : β → Prop} (hl : xs.length ≤ 16777216) (h : ∀ x ∈ xs, Ok (f x) Q) : Ok (pMap f xs) (fun ys => ys.length = xs.length ∧ ∀ y ∈ ys, Q y) := by
  unfold pMap
  rw [if_pos (by have : big = 16777216 := rfl; omega)]
  clear hl
  induction xs with
  | nil => exact ⟨[], rfl, rfl, fun _ h => by cases h⟩
  | cons x xs ih =>
    obtain ⟨y, e, q⟩ := h x List.mem_cons_self
    obtain ⟨ys, e2, hl, q2⟩ := ih fun z hz => h z (List.mem_cons_of_mem _ hz)
    refine ⟨y :: ys, by simp only [mapGo, e, e2], by simp [hl], fun z hz => ?_⟩
    rcases List.mem_cons.mp hz with rfl | hz
    · exact q
    · exact q2 z hz
end
structure Good (s t : Int) : Prop where
  s0 : 0 ≤ s
  t0 : 0 ≤ t
  t1 : t < 2147483647
def StOk (r : List Int) : Prop := ∃ s t, r = [s, t] ∧ Good s t
/-- from any state a value with Q comes, and a state -/
def Draw {α : Type} (f : List Int → M (α × List Int)) (Q : α → Prop) : Prop := ∀ r, StOk r → Ok (f r) (fun p => Q p.1 ∧ StOk p.2)
theorem Draw.imp {α : Type} {f : List Int → M (α × List Int)} {Q R : α → Prop} (h : Draw f Q) (i : ∀ a, Q a → R a) : Draw f R := fun r g => (h r g).imp fun _ q => ⟨i _ q.1, q.2⟩
theorem mapS_draw {α β : Type} {F : α → List Int → M (β × List Int)} {Q : β → Prop} : ∀ {xs : List α}, (∀ x ∈ xs, Draw (F x) Q) → Draw (mapS F xs) (fun ys => ys.length = xs.length ∧ ∀ y ∈ ys, Q y)
  | [], _ => fun r g => ⟨_, rfl, ⟨rfl, fun _ h => by cases h⟩, g⟩
  | x :: xs, h => fun r g =>
    (h x List.mem_cons_self r g).bind fun y hy => (mapS_draw (Q := Q) (F := F) (xs := xs) (fun y hy => h y (List.mem_cons_of_mem _ hy)) y.2 hy.2).bind fun ys hys => ⟨_, rfl, ⟨by simp [hys.1.1], fun z hz => by
      rcases List.mem_cons.mp hz with rfl | hz
      · exact hy.1
      · exact hys.1.2 z hz⟩, hys.2⟩
theorem pMapS_draw {α β : Type} {F : α → List Int → M (β × List Int)} {Q : β → Prop} {xs : List α} (hl : xs.length ≤ 16777216) (h : ∀ x ∈ xs, Draw (F x) Q) : Draw (pMapS F xs) (fun ys => ys.length = xs.length ∧ ∀ y ∈ ys, Q y) := by
  intro r g
  unfold pMapS
  rw [if_pos (by have : big = 16777216 := rfl; omega)]
  exact mapS_draw h r g
end DL
namespace DL
open PySem L2
def tryM {α γ : Type} (o : M α) (k : α → M γ) (h : Str → List (Str × D) → M γ) : M γ := match o with
  | .ok a => k a
  | .exn c fs => h c fs
  | .stuck => .stuck
def pMt {γ : Type} (mt : List (Str × Str × Bool)) (c x : Str) (o1 o2 : M γ) : M γ := match mtB mt c x with
  | some true => o1
  | some false => o2
  | none => .stuck
def pXf (c : Str) (fs : List (Str × D)) (c0 f : Str) : M D := match fs with
  | [(nm, x)] => if c = c0 ∧ nm = f then .ok x else .stuck
  | _ => .stuck
section
variable {α γ δ : Type} {X : Bool} {st st1 st2 : DSt} {K : γ → Fl → DSt → Prop} {o : M α} {b : DS} {w : α → D} {mt : List (Str × Str × Bool)} {hs r : List HdD} {k : α → M γ} {h : Str → List (Str × D) → M γ}
theorem rv_consL {a : Den D} {r : Den (List D)} {x : D} {xs : List D} (h1 : RV a st x st1) (h2 : RV r st1 xs st2) : RV (dCons a r) st (x :: xs) st2 := rv_bind h1 (rv_bind h2 rv_ret)
theorem rs_tryE {df : List D → M D} {fa : Den (List D)} {ds : List D} (ha : RV fa st ds st1) (hd : DM (df ds) o w) (h1 : ∀ c, RS X b st1 (k c) K) (h2 : ∀ c fs, RS X (sSeq (runH mt c fs hs) b) st1 (h c fs) K) :
    RS X (sSeq (sTry mt (sExpr (dCall df fa)) hs) b) st (tryM o k h) K := by
  have ha : fa st = .ok ds st1 := ha
  cases o with
  | ok c => exact rs_of_eq (st1 := st1) (g := b) (by unfold sSeq sTry sExpr dCall; simp only [bindD, ha, liftM']; rw [show df ds = _ from hd]; rfl) (h1 c)
  | exn c fs => exact rs_of_eq (st1 := st1) (g := sSeq (runH mt c fs hs) b) (by unfold sSeq sTry sExpr dCall; simp only [bindD, ha, liftM']; rw [show df ds = _ from hd]) (h2 c fs)
  | stuck => trivial
theorem rs_runN {c : Str} {fs : List (Str × D)} : RS X (sSeq (runH mt c fs []) b) st (.exn c fs : M γ) K := fun _ => ⟨st, rfl⟩
/-- a named clause that gives something back -/
theorem rs_runNR {c x : Str} {fs : List (Str × D)} {i : Nat} {f : Den D} {o1 : M α} {v : α → D} {g : α → γ} {o2 : M γ} (hn : noXc st = true) (hi : i < st.length) (hn2 : noXc (st.set i .no) = true) (hf : RE f (st.set i (xcSlot c fs)) o1 v (st.set i (xcSlot c fs))) (hK : ∀ a, K (g a) (.ret (v a)) (st.set i .no))
    (h2 : RS X (sSeq (runH mt c fs r) b) st o2 K) : RS X (sSeq (runH mt c fs (⟨x, some i, sRet f⟩ :: r)) b) st (pMt mt c x (pNX (o1.bind fun a => .ok (g a))) o2) K := by
  unfold pMt
  cases hm : mtB mt c x with
  | none => trivial
  | some q => cases q with
    | true =>
      cases o1 with
      | ok a =>
        refine ⟨.ret (v a), st.set i .no, ?_, hK a⟩
        have hf : f (st.set i (xcSlot c fs)) = .ok (v a) (st.set i (xcSlot c fs)) := hf
        unfold sSeq
        simp only [runH, hm]
        rw [if_pos ⟨hn, hi⟩]
        simp only [clrS, sRet, bindD, hf, retD, List.set_set, hn2, if_true]
      | exn c fs => trivial
      | stuck => trivial
    | false => exact rs_of_eq (st1 := st) (g := sSeq (runH mt c fs r) b) (by unfold sSeq; simp only [runH, hm]) h2
theorem re_xf {i : Nat} {c c0 f : Str} {fs : List (Str × D)} (h : st[i]? = some (xcSlot c fs)) : RE (dXf i c0 f) st (pXf c fs c0 f) eD st := by
  unfold pXf
  split
  · rename_i nm x
    by_cases q : c = c0 ∧ nm = f
    · rw [if_pos q]
      show dXf i c0 f st = _
      unfold dXf
      rw [h]
      simp only [xcSlot, q, and_self, if_true]
    · rw [if_neg q]; trivial
  · trivial
end
end DL
namespace DL
open PySem L2
section
variable {α τ : Type} {st st1 : DSt} {e : α → D}
theorem rv_frzN {a : Den (List D)} {ds : List D} {d : D} (h : RV a st ds st1) (hd : .lst ds = d) : RV (dFrz a) st d st1 := by subst hd; exact rv_bind h rv_ret
theorem re_frzN {a : Den (List D)} {o : M (List α)} (h : RE a st o (List.map e) st1) : RE (dFrz a) st o (eL e) st1 := re_tail h fun _ => rv_ret
theorem rt_frzN {a : Den (List D)} {o : M (List α × τ)} {S : τ → DSt} (h : RT a st o (List.map e) S) : RT (dFrz a) st o (eL e) S := rt_tail h fun _ => rv_ret
theorem rv_tst {a : Den D} {x : Bool} (h : RV a st (eB x) st1) : RV (dTst a) st x st1 := rv_bind h (rv_lift rfl)
theorem re_tst {a : Den D} {o : M Bool} (h : RE a st o eB st1) : RE (dTst a) st o (fun b : Bool => b) st1 := re_tail h fun _ => rv_lift rfl
theorem rt_tst {a : Den D} {o : M (Bool × τ)} {S : τ → DSt} (h : RT a st o eB S) : RT (dTst a) st o (fun b : Bool => b) S := rt_tail h fun _ => rv_lift rfl
end
end DL
namespace DL
open PySem L2
section
variable {α β γ τ : Type} {st st' : DSt} {S : τ → DSt} {X : Bool} {K : γ → Fl → DSt → Prop} {c : DS} {o : M γ}
theorem rv_dOp1 {op : D → Option D} {a : Den D} {y : D} (hh : RV (bindD a fun x => liftO (op x)) st y st') : RV (dOp1 op a) st y st' := hh
theorem re_dOp1 {op : D → Option D} {a : Den D} {o : M α} {v : α → D} (hh : RE (bindD a fun x => liftO (op x)) st o v st') : RE (dOp1 op a) st o v st' := hh
theorem rt_dOp1 {op : D → Option D} {a : Den D} {o : M (α × τ)} {v : α → D} (hh : RT (bindD a fun x => liftO (op x)) st o v S) : RT (dOp1 op a) st o v S := hh
theorem rv_dOp2 {op : D → D → Option D} {a b : Den D} {y : D} (hh : RV (bindD a fun x => bindD b fun y => liftO (op x y)) st y st') : RV (dOp2 op a b) st y st' := hh
theorem re_dOp2 {op : D → D → Option D} {a b : Den D} {o : M α} {v : α → D} (hh : RE (bindD a fun x => bindD b fun y => liftO (op x y)) st o v st') : RE (dOp2 op a b) st o v st' := hh
theorem rt_dOp2 {op : D → D → Option D} {a b : Den D} {o : M (α × τ)} {v : α → D} (hh : RT (bindD a fun x => bindD b fun y => liftO (op x y)) st o v S) : RT (dOp2 op a b) st o v S := hh
theorem re_dOp2n {op : D → D → Option D} {i : Nat} {b : Den D} {o : M α} {v : α → D} (hh : RE (bindD (dRd i) fun _ => bindD b fun y => bindD (dRd i) fun x => liftO (op x y)) st o v st') : RE (dOp2n op i b) st o v st' := hh
theorem rv_dOp2m {op : D → D → Option D} {a : Den D} {j : Nat} {y : D} (hh : RV (bindD a fun x => bindD (dRd j) fun y => liftO (op x y)) st y st') : RV (dOp2m op a j) st y st' := hh
theorem rv_dOp1n {op : D → Option D} {i : Nat} {y : D} (hh : RV (bindD (dRd i) fun x => liftO (op x)) st y st') : RV (dOp1n op i) st y st' := hh
theorem re_dOp1n {op : D → Option D} {i : Nat} {o : M α} {v : α → D} (hh : RE (bindD (dRd i) fun x => liftO (op x)) st o v st') : RE (dOp1n op i) st o v st' := hh
theorem rv_dN1n {op : D → Option (List D)} {i : Nat} {y : (List D)} (hh : RV (bindD (dRd i) fun x => liftO (op x)) st y st') : RV (dN1n op i) st y st' := hh
theorem re_dN2 {op : D → D → Option (List D)} {a b : Den D} {o : M α} {v : α → (List D)} (hh : RE (bindD a fun x => bindD b fun y => liftO (op x y)) st o v st') : RE (dN2 op a b) st o v st' := hh
theorem rv_dTup {a : Den (List D)} {y : D} (hh : RV (bindD a fun ds => liftO (if ds.length ≤ big then some (.tup ds) else none)) st y st') : RV (dTup a) st y st' := hh
theorem rv_dLst {a : Den (List D)} {y : (List D)} (hh : RV (bindD a fun ds => liftO (if ds.length ≤ big then some ds else none)) st y st') : RV (dLst a) st y st' := hh
theorem re_dLst {a : Den (List D)} {o : M α} {v : α → (List D)} (hh : RE (bindD a fun ds => liftO (if ds.length ≤ big then some ds else none)) st o v st') : RE (dLst a) st o v st' := hh
theorem rv_dVal {a : Den Bool} {y : D} (hh : RV (bindD a fun b => retD (.bl b)) st y st') : RV (dVal a) st y st' := hh
theorem rv_dAnd {a b : Den Bool} {y : Bool} (hh : RV (bindD a fun x => if x = true then b else retD false) st y st') : RV (dAnd a b) st y st' := hh
theorem re_dAnd {a b : Den Bool} {o : M α} {v : α → Bool} (hh : RE (bindD a fun x => if x = true then b else retD false) st o v st') : RE (dAnd a b) st o v st' := hh
theorem rv_dOr {a b : Den Bool} {y : Bool} (hh : RV (bindD a fun x => if x = true then retD true else b) st y st') : RV (dOr a b) st y st' := hh
theorem re_dOr {a b : Den Bool} {o : M α} {v : α → Bool} (hh : RE (bindD a fun x => if x = true then retD true else b) st o v st') : RE (dOr a b) st o v st' := hh
theorem rv_dNot {a : Den Bool} {y : Bool} (hh : RV (bindD a fun x => retD (!x)) st y st') : RV (dNot a) st y st' := hh
theorem re_dNot {a : Den Bool} {o : M α} {v : α → Bool} (hh : RE (bindD a fun x => retD (!x)) st o v st') : RE (dNot a) st o v st' := hh
theorem rv_dChain {op op' : D → D → Option D} {a b c : Den D} {y : D} (hh : RV (bindD a fun x => bindD b fun y => bindD (liftO (op x y)) fun z => bindD (liftO (asB z)) fun k => if k = true then bindD c fun w => liftO (op' y w) else retD (.bl false)) st y st') : RV (dChain op op' a b c) st y st' := hh
theorem rv_dItems {f : Den D} {y : (List D)} (hh : RV (bindD f fun d => liftO (itemsOf d)) st y st') : RV (dItems f) st y st' := hh
theorem re_dItems {f : Den D} {o : M α} {v : α → (List D)} (hh : RE (bindD f fun d => liftO (itemsOf d)) st o v st') : RE (dItems f) st o v st' := hh
theorem re_dRng {f : Den D} {o : M α} {v : α → (List D)} (hh : RE (bindD f fun d => liftO (rngD d)) st o v st') : RE (dRng f) st o v st' := hh
theorem rt_dRng {f : Den D} {o : M (α × τ)} {v : α → (List D)} (hh : RT (bindD f fun d => liftO (rngD d)) st o v S) : RT (dRng f) st o v S := hh
theorem rv_dPart {f : Den D} {y : (Option Int)} (hh : RV (bindD f fun d => liftO (match asI d with | some i => some (some i) | none => none)) st y st') : RV (dPart f) st y st' := hh
theorem rv_dSln {i : Nat} {lo hi : Den (Option Int)} {y : D} (hh : RV (bindD (dRd i) fun _ => bindD lo fun l => bindD hi fun u => bindD (dRd i) fun x => liftO (opSl x l u)) st y st') : RV (dSln i lo hi) st y st' := hh
theorem re_dIndexN {i : Nat} {h : Den D} {o : M α} {v : α → D} (hh : RE (bindD (dRd i) fun x => bindD (liftO (isL x)) fun _ => bindD h fun y => bindD (dRd i) fun x => liftO (opIndex x y)) st o v st') : RE (dIndexN i h) st o v st' := hh
theorem re_dCall {df : List D → M D} {fa : Den (List D)} {o : M α} {v : α → D} (hh : RE (bindD fa fun ds => liftM' (df ds)) st o v st') : RE (dCall df fa) st o v st' := hh
theorem rt_dCall {df : List D → M D} {fa : Den (List D)} {o : M (α × τ)} {v : α → D} (hh : RT (bindD fa fun ds => liftM' (df ds)) st o v S) : RT (dCall df fa) st o v S := hh
theorem re_dCallO {df : List D → Option (List D)} {fa : Den (List D)} {o : M α} {v : α → (List D)} (hh : RE (bindD fa fun ds => liftO (df ds)) st o v st') : RE (dCallO df fa) st o v st' := hh
theorem rt_dCallR {df : List D → List D → M (D × List D)} {i : Nat} {fa : Den (List D)} {o : M (α × τ)} {v : α → D} (hh : RT (bindD (dOw i) fun _ => bindD fa fun ds => callK df i ds) st o v S) : RT (dCallR df i fa) st o v S := hh
theorem rv_dIf {δ : Type} {t : Den Bool} {a b : Den δ} {y : δ} (hh : RV (bindD t fun x => if x = true then a else b) st y st') : RV (dIf t a b) st y st' := hh
theorem re_dIf {δ : Type} {t : Den Bool} {a b : Den δ} {o : M α} {v : α → δ} (hh : RE (bindD t fun x => if x = true then a else b) st o v st') : RE (dIf t a b) st o v st' := hh
theorem rt_dIf {δ : Type} {t : Den Bool} {a b : Den δ} {o : M (α × τ)} {v : α → δ} (hh : RT (bindD t fun x => if x = true then a else b) st o v S) : RT (dIf t a b) st o v S := hh
end
end DL
namespace DL
open PySem L2
end DL
namespace DL
open PySem PySem.Spec PyProof.Rows L2
end DL
namespace DL
open PySem PySem.Spec PyProof.Rows L2
end DL
namespace DL
open PySem PySem.Spec PyProof.Rows L2
end DL
namespace DL
open PySem PySem.Spec PyProof.Rows L2
end DL
namespace DL
open PySem PySem.Spec PyProof.Rows L2
end DL
namespace DL
open PySem PySem.Spec PyProof.Rows L2
section
variable {X : Cx}
@[simp] def dExtend (i : Nat) (f : Den D) : Den D := bindD (dOw i) fun _ => bindD f fun y => mutD i fun ds => match y with
  | .tup es => if ds.length + es.length ≤ big then some (.non, ds ++ es) else none
  | _ => none
variable {g : G} {W : WX} {e : Expr} {f : Den D}
end
end DL
namespace DL
open PySem PySem.Spec PyProof.Rows L2
def preSt (i : Nat) (st : DSt) : DSt := match st[i]? with
  | some (.ow ds) => st.set i (.sh (.lst ds))
  | some (.o2 dss) => st.set i (.sh (.lst (dss.map .lst)))
  | _ => st
def dPre {α : Type} (i : Nat) (f : Den α) : Den α := fun st => f (preSt i st)
section
variable {X : Cx} {g : G} {W : WX} {P : Par} {σ : L2.St} {H F : Hp} {st : DSt} {e : Expr}
theorem SR.pre {i : Nat} (s : SR g P σ H F st) : ∃ F', Same F F' ∧ SR g P σ H F' (preSt i st) := by
  unfold preSt
  split
  · rename_i ds h
    obtain ⟨a, F', _, h2, _, h4⟩ := s.freeze h
    exact ⟨F', h2, h4⟩
  · rename_i dss h
    obtain ⟨a, F', _, h2, _, h4⟩ := s.freeze2 h
    exact ⟨F', h2, h4⟩
  · exact ⟨F, Same.refl _, s⟩
theorem ev_pre {i : Nat} {f : Den (List D)} (he : PE X e (tN g W f)) : PE X e (tN g W (dPre i f)) := he.imp fun σ H Q ⟨P, F, st, s, o⟩ => by
  obtain ⟨F', h1, h2⟩ := s.pre (i := i)
  exact ⟨P, F', preSt i st, h2, OutN.weak h1 o⟩
end
section
variable {α β δ : Type} {f : Den δ} {st st1 st2 : DSt} {i : Nat}
theorem re_pre {o : M α} {v : α → δ} (e : preSt i st = st1) (h : RE f st1 o v st2) : RE (dPre i f) st o v st2 := by subst e; exact h
theorem pre_fz {z : Bool} {ds : List D} (h : st[i]? = some (fz z ds)) : preSt i st = st.set i (.sh (.lst ds)) := by
  cases z with
  | true => unfold preSt; rw [h]; rfl
  | false =>
    unfold preSt; rw [h]
    show st = st.set i (.sh (.lst ds))
    have hi : i < st.length := (List.getElem?_eq_some_iff.mp h).1
    have e : st[i] = .sh (.lst ds) := (List.getElem?_eq_some_iff.mp h).2
    rw [← e, List.set_getElem_self]
end
end DL
namespace DL
open PySem PySem.Calls PySem.Spec PyProof.Rows L2
structure NfO (K : PySem.W.Frag) (C : Addr) : Prop where
  n1 : PySem.W.notFirst K C (.type "NoneType") = true
  n2 : PySem.W.notFirst K C (.type "tuple") = true
  ne : PySem.W.findIn K (.ref C) "__ne__" = some (some (.builtin "object.__ne__"))
  ob : PySem.W.subIn K (.ref C) (.type "object") = some true
def tyO (K : PySem.W.Frag) (C : Addr) (y : V) (H : Hp) : Prop := y = .non ∨ ∃ b, y = .ref b ∧ ((∃ dy gs, H b = some (.ins C dy gs)) ∨ (∃ ys, SqT K H b ys))
def rOwn (K : PySem.W.Frag) (C : Addr) (sp : Sp) (ng : Bool → Bool) : R2 := fun x y H Q => ∃ a dx fs, x = .ref a ∧ H a = some (.ins C dx fs) ∧ tyO K C y H ∧ sp [x, y] H (fun v H' => ∃ b, v = .bl b ∧ Q (.bl (ng b)) H') E0
section
variable {X : Cx} {n lvl : Nat} {C f : Addr} {m : Str} {ps : List Str} {sp : Sp}
theorem run_own {fd : FuncData} {A : Around} {pins : List (Addr × Obj)} {s : Shared} {σ : L2.St} {H : Hp} {vs : List V} {us : List Value} {Q : VK} (F : FnOk X.prog X.w X.K X.mg X.base (L2.CX X.prog X.w) n f fd ps sp) (hb : Binds X.K fd ps []) (rm : Room n A) (fr : A.frames = X.A.frames)
    (I : Inv X pins σ H s) (r : Vals vs us) (hsp : sp vs H Q E0) : wpAny (model X.prog X.w) A (call (.ref f) us) (EP X pins σ Q) X.xe s := by
  have e0 : Env0 X.prog X.w X.K X.mg X.base A X.stack s H := by
    have e := I.env0
    exact ⟨by rw [fr]; exact e.frames, e.mod, e.bs, e.bsz, e.funs, e.frf, e.hok, e.bare⟩
  have hl := F.len _ _ _ _ hsp
  refine wpAny_call (codeAny_mono (F.run A X.stack s H ⟨us, []⟩ us vs _ E0 rm e0 (by
    have := hb s us I.kIn (by simpa [r.length] using hl)
    simpa using this) r hsp) fun r s' hq => ?_)
  cases r with
  | error e => exact passL pins σ H s e s' I hq
  | ok fl =>
    cases fl with
    | ret w => exact I.after hq
    | next => exact False.elim hq
    | brk => exact False.elim hq
    | cont => exact False.elim hq
theorem look_o {pins : List (Addr × Obj)} {s : Shared} {σ : L2.St} {H : Hp} {y : V} {u : Value} (no : NfO X.K C) (I : Inv X pins σ H s) (ry : RelV y u) (ty : tyO X.K C y H) :
    ∃ tb, PySem.W.Looks (model X.prog X.w) s.heap (typeOf u) tb ∧ PySem.W.notFirst X.K C tb = true := by
  rcases ty with rfl | ⟨b, rfl, ⟨dy, gs, hb⟩ | ⟨ys, hq⟩⟩
  · cases (show u = .none from ry)
    exact ⟨.type "NoneType", PySem.W.Looks.of_pure (by kernel_rfl), no.n1⟩
  · cases ry
    obtain ⟨mB, J', _⟩ := ins_get I.hok hb
    obtain ⟨od', J', _⟩ := J'.look
    exact ⟨_, J'.type, by simp [PySem.W.notFirst]⟩
  · cases ry
    obtain ⟨its, r, ⟨o, ho, hc, _⟩, hz⟩ := I.tuple hq
    exact ⟨.type "tuple", hc ▸ (PySem.W.Looks.ld ho).andThen .now, no.n2⟩
theorem op_ownEq (F : Mf X.prog X.w X.K X.mg X.base C "__eq__" lvl f ps sp) (hr : Room lvl X.A) (no : NfO X.K C) : OpR X (compareOp .Eq) (rOwn X.K C sp id) := by
  intro pins s σ H x y v u Q I rx ry ⟨a, dx, fs, ex, ha, ty, hq⟩
  subst ex
  cases rx
  obtain ⟨tb, lk, nf⟩ := look_o no I ry ty
  obtain ⟨fd, G, b⟩ := F.ok
  obtain ⟨mA, J, _⟩ := ins_get I.hok ha
  obtain ⟨od, J, _⟩ := J.look
  obtain ⟨m, hF⟩ := I.fr
  show wpAny (model X.prog X.w) X.A (richCompare .Eq (.ref a) u) (EP X pins σ Q) X.xe s
  refine PySem.W.cmp_K (op := .Eq) hr.units0 hF I.ok.mod.kin J lk nf F.me.at_ F.me.fn (wpAny_mono (run_own G b hr rfl I (.cons (show RelV (.ref a) (.ref a) from rfl) (.cons ry .nil)) hq) (fun r s' z => ?_) fun _ _ e => e)
  obtain ⟨z, H', I', rz, b, ez, q⟩ := z
  subst ez
  cases rz
  exact ⟨.bl b, H', I', rfl, q⟩
end
def okY (c : Str) : D → Bool
  | .non => true
  | .tup _ => true
  | .ins c' _ _ => c' == c
  | _ => false
def opOwn (c : Str) (df : List D → M D) (ng : Bool → Bool) (x y : D) : Option D := match x with
  | .ins c' _ _ => if c' = c ∧ okY c y = true then (match df [x, y] with | .ok (.bl b) => some (.bl (ng b)) | _ => none) else none
  | _ => none
theorem vo_own {g : G} {c : Str} {C : Addr} {df : List D → M D} {ng : Bool → Bool} (k : g.mg c = some (.ref C)) : VO2 g (rOwn g.K C (spD g df) ng) (opOwn c df ng) := by
  intro H F v u d e z l rd re hz Q q
  unfold opOwn at hz
  split at hz
  · rename_i c' ns ds
    split at hz
    · rename_i hc
      obtain ⟨rfl, hy⟩ := hc
      have rd : Rv g F v (.ins c' ns ds) := by
        rcases rd with rd | ⟨_, _, _, _, ed, _⟩
        · exact rd
        · cases ed
      have re : Rv g F u e := by
        rcases re with re | ⟨_, _, _, _, ed, _⟩
        · exact re
        · subst ed; cases hy
      split at hz
      · rename_i b hd
        cases hz
        have rl : Rl g F [v, u] [.ins c' ns ds, e] := .cons rd (.cons re .nil)
        cases rd with
        | ins h1 h2 h3 h4 =>
          rw [k] at h2
          cases h2
          refine ⟨_, _, _, rfl, l _ _ h1, ?_, F, _, l, rl, ?_⟩
          · cases re with
            | non => exact .inl rfl
            | tup hs _ _ => exact .inr ⟨_, rfl, .inr ⟨_, sqT_mono l hs⟩⟩
            | ins g1 g2 _ _ =>
              have hy' := eq_of_beq hy
              subst hy'
              rw [k] at g2
              cases g2
              exact .inr ⟨_, rfl, .inl ⟨_, _, l _ _ g1⟩⟩
            | _ => cases hy
          · rw [hd]
            intro v H' F' gr rv
            cases rv
            exact ⟨_, rfl, q _ _ _ gr (.bl _)⟩
      · cases hz
    · cases hz
  · cases hz
def ownB (K : PySem.W.Frag) (c : Str) : Bool := He.eqO (PySem.W.findIn K (.ref (He.ga K c)) "__ne__") (some (some (.builtin "object.__ne__"))) && (decide (PySem.W.subIn K (.ref (He.ga K c)) (.type "object") = some true) &&
  (PySem.W.notFirst K (He.ga K c) (.type "NoneType") && PySem.W.notFirst K (He.ga K c) (.type "tuple")))
theorem ownB_ok {K : PySem.W.Frag} {c : Str} (h : ownB K c = true) : NfO K (He.ga K c) := by
  unfold ownB at h
  obtain ⟨h1, h⟩ := He.ba h
  obtain ⟨h2, h⟩ := He.ba h
  obtain ⟨h3, h4⟩ := He.ba h
  exact ⟨h3, h4, He.eqO_ok h1, of_decide_eq_true h2⟩
theorem op_DL {x : Option (List D)} : OP x (oM x) (List.map eD) := by
  have e : ∀ xs : List D, List.map eD xs = xs := fun xs => by induction xs with | nil => rfl | cons a t ih => show eD a :: List.map eD t = a :: t; rw [ih]
  cases x with
  | none => trivial
  | some y => show some y = some (List.map eD y); rw [e]
end DL
namespace DL
open PySem PySem.Spec PyProof.Rows L2
@[simp] def isLT : D → Option Unit
  | .lst _ => some ()
  | .tup _ => some ()
  | _ => none
@[simp] def opIndexT (x y : D) : Option D := match x with
  | .tup ds => if flatD y && ds.all flatD then (match ixF (fun z => eqF z y) 0 ds with | some j => some (.int (j : Nat)) | none => none) else none
  | _ => none
@[simp] def opIndexA (k x y : D) : Option D := match k with
  | .lst _ => opIndex x y
  | .tup _ => opIndexT x y
  | _ => none
@[simp] def dIndexA (f h : Den D) : Den D := bindD f fun x => bindD (liftO (isLT x)) fun _ => bindD h fun y => liftO (opIndexA x x y)
@[simp] def dIndexAN (i : Nat) (h : Den D) : Den D := bindD (dRd i) fun k => bindD (liftO (isLT k)) fun _ => bindD h fun y => bindD (dRd i) fun x => liftO (opIndexA k x y)
end DL
namespace DL
open PySem PySem.Spec PyProof.Rows L2
section
variable {κ κ' : Type} [DecidableEq κ] [DecidableEq κ']
def getA {α : Type} (kvs : List (κ × α)) (k : κ) : Option α := (kvs.find? fun p => decide (p.1 = k)).map Prod.snd
def putA {α : Type} (kvs : List (κ × α)) (k : κ) (v : α) : List (κ × α) := if (kvs.any fun p => decide (p.1 = k)) = true then kvs.map (fun p => if p.1 = k then (p.1, v) else p) else kvs ++ [(k, v)]
variable {g : G} {F : Hp} {f : κ → κ'} (inj : ∀ a b, f a = f b → a = b)
end
theorem _root_.L2.PC.imp {X : Cx} {op : CmpOp} {a b : Expr} {t t' : TE} (h : PC X op a b t) (i : ∀ σ H Q, t' σ H Q → t σ H Q) : PC X op a b t' := ⟨fun pins s σ H Q I q => h.run pins s σ H Q I (i σ H Q q)⟩
@[simp] def keyK : D → Option Int
  | .int i => some i
  | _ => none
@[simp] def keyT : D → Option (List Int)
  | .tup ds => intsOf ds
  | _ => none
@[simp] def kdK (i : Int) : D := .int i
@[simp] def kdT (ks : List Int) : D := .tup (ks.map .int)
theorem nox {α : Type} {r : Res α} : True := trivial
section
variable {X : Cx} {g : G} {W : WX} {P : Par} {σ : L2.St} {H F : Hp} {st : DSt} {e : Expr} {s : Stmt} {ss : List Stmt} {f h : Den D}
/-- the dict in slot i -/
@[simp] def dDK (i : Nat) : Den (List (Int × D)) := fun st => match st[i]? with
  | some (.dk kvs) => .ok kvs st
  | some (.lk kvs) => .ok kvs st
  | _ => .stuck
@[simp] def dOK (i : Nat) : Den (List (Int × D)) := fun st => match st[i]? with
  | some (.dk kvs) => .ok kvs st
  | _ => .stuck
theorem rdK {i : Nat} {kvs : List (Int × D)} {st' : DSt} (s : SR g P σ H F st) (h : dDK i st = .ok kvs st') : st' = st ∧ ∃ a vs, σ[i]? = some (some (.ref a)) ∧ Rd H a (hK kvs vs) ∧ Rl g F vs (kvs.map Prod.snd) := by
  unfold dDK at h
  split at h
  · rename_i kvs hd
    cases h
    obtain ⟨ov, hov⟩ := SRc.nth s hd
    obtain ⟨O, c⟩ := id s
    obtain ⟨a, vs, rfl, ho, hn, ha, r⟩ := c.sl i _ _ hd hov
    exact ⟨rfl, a, vs, hov, .inl ha, r⟩
  · rename_i kvs hd
    cases h
    obtain ⟨ov, hov⟩ := SRc.nth s hd
    obtain ⟨O, c⟩ := id s
    obtain ⟨a, od, vs, rfl, ha, r⟩ := c.sl i _ _ hd hov
    exact ⟨rfl, a, vs, hov, .inr ⟨od, c.le _ _ ha⟩, r⟩
  · cases h
theorem Out.dK {i : Nat} {α : Type} {kk : List (Int × D) → Den α} {K : α → DSt → Hp → Hp → Prop} (s : SR g P σ H F st) (o : Out g W P σ F (bindD (dDK i) kk st) K) :
    ∃ a kvs vs, σ[i]? = some (some (.ref a)) ∧ Rd H a (hK kvs vs) ∧ Rl g F vs (kvs.map Prod.snd) ∧ Out g W P σ F (kk kvs st) K := by
  unfold bindD at o
  cases e : dDK i st with
  | ok d st' =>
    rw [e] at o
    obtain ⟨rfl, a, vs, h1, h2, h3⟩ := rdK s e
    exact ⟨a, d, vs, h1, h2, h3, o⟩
  | exn c fs st' => unfold dDK at e; split at e <;> cases e
  | stuck => rw [e] at o; exact o.elim
@[simp] def sDNewK (i : Nat) : DS := putD i (.dk [])
@[simp] def dDgetK (i : Nat) (f : Den D) : Den D := bindD (dDK i) fun _ => bindD f fun y => bindD (dDK i) fun kvs => liftO (match keyK y with | some k => getA kvs k | none => none)
@[simp] def dDinK (n : Bool) (i : Nat) (f : Den D) : Den D := bindD f fun y => bindD (dDK i) fun kvs => liftO (match keyK y with | some k => some (.bl (if n then !(getA kvs k).isSome else (getA kvs k).isSome)) | none => none)
@[simp] def dDgdK (i : Nat) (f h : Den D) : Den D := bindD (dDK i) fun _ => bindD f fun y => bindD h fun z => bindD (dDK i) fun kvs => liftO (match keyK y with | some k => some ((getA kvs k).getD z) | none => none)
@[simp] def dDlenK (i : Nat) : Den D := bindD (dOK i) fun kvs => retD (.int kvs.length)
@[simp] def sDPutK (i : Nat) (k v : Den D) : DS := bindD v fun x => bindD (dDK i) fun _ => bindD k fun y => bindD (dOK i) fun kvs => match keyK y with
  | some q => if kvs.length < big then putD i (.dk (putA kvs q x)) else fun _ => .stuck
  | none => fun _ => .stuck
end
section
variable {X : Cx} {g : G} {W : WX} {P : Par} {σ : L2.St} {H F : Hp} {st : DSt} {e : Expr} {s : Stmt} {ss : List Stmt} {f h : Den D}
/-- the dict in slot i -/
@[simp] def dDT (i : Nat) : Den (List (List Int × D)) := fun st => match st[i]? with
  | some (.dt kvs) => .ok kvs st
  | some (.lt kvs) => .ok kvs st
  | _ => .stuck
@[simp] def dOT (i : Nat) : Den (List (List Int × D)) := fun st => match st[i]? with
  | some (.dt kvs) => .ok kvs st
  | _ => .stuck
theorem rdT {i : Nat} {kvs : List (List Int × D)} {st' : DSt} (s : SR g P σ H F st) (h : dDT i st = .ok kvs st') : st' = st ∧ ∃ a vs, σ[i]? = some (some (.ref a)) ∧ Rd H a (hT kvs vs) ∧ Rl g F vs (kvs.map Prod.snd) := by
  unfold dDT at h
  split at h
  · rename_i kvs hd
    cases h
    obtain ⟨ov, hov⟩ := SRc.nth s hd
    obtain ⟨O, c⟩ := id s
    obtain ⟨a, vs, rfl, ho, hn, ha, r⟩ := c.sl i _ _ hd hov
    exact ⟨rfl, a, vs, hov, .inl ha, r⟩
  · rename_i kvs hd
    cases h
    obtain ⟨ov, hov⟩ := SRc.nth s hd
    obtain ⟨O, c⟩ := id s
    obtain ⟨a, od, vs, rfl, ha, r⟩ := c.sl i _ _ hd hov
    exact ⟨rfl, a, vs, hov, .inr ⟨od, c.le _ _ ha⟩, r⟩
  · cases h
theorem Out.dT {i : Nat} {α : Type} {kk : List (List Int × D) → Den α} {K : α → DSt → Hp → Hp → Prop} (s : SR g P σ H F st) (o : Out g W P σ F (bindD (dDT i) kk st) K) :
    ∃ a kvs vs, σ[i]? = some (some (.ref a)) ∧ Rd H a (hT kvs vs) ∧ Rl g F vs (kvs.map Prod.snd) ∧ Out g W P σ F (kk kvs st) K := by
  unfold bindD at o
  cases e : dDT i st with
  | ok d st' =>
    rw [e] at o
    obtain ⟨rfl, a, vs, h1, h2, h3⟩ := rdT s e
    exact ⟨a, d, vs, h1, h2, h3, o⟩
  | exn c fs st' => unfold dDT at e; split at e <;> cases e
  | stuck => rw [e] at o; exact o.elim
@[simp] def sDNewT (i : Nat) : DS := putD i (.dt [])
@[simp] def dDgetT (i : Nat) (f : Den D) : Den D := bindD (dDT i) fun _ => bindD f fun y => bindD (dDT i) fun kvs => liftO (match keyT y with | some k => getA kvs k | none => none)
@[simp] def dDinT (n : Bool) (i : Nat) (f : Den D) : Den D := bindD f fun y => bindD (dDT i) fun kvs => liftO (match keyT y with | some k => some (.bl (if n then !(getA kvs k).isSome else (getA kvs k).isSome)) | none => none)
@[simp] def dDgdT (i : Nat) (f h : Den D) : Den D := bindD (dDT i) fun _ => bindD f fun y => bindD h fun z => bindD (dDT i) fun kvs => liftO (match keyT y with | some k => some ((getA kvs k).getD z) | none => none)
@[simp] def dDlenT (i : Nat) : Den D := bindD (dOT i) fun kvs => retD (.int kvs.length)
@[simp] def sDPutT (i : Nat) (k v : Den D) : DS := bindD v fun x => bindD (dDT i) fun _ => bindD k fun y => bindD (dOT i) fun kvs => match keyT y with
  | some q => if kvs.length < big then putD i (.dt (putA kvs q x)) else fun _ => .stuck
  | none => fun _ => .stuck
end
end DL
namespace DL
open PySem PySem.Spec PyProof.Rows L2
section
variable {g : G} {P : Par} {σ : L2.St} {H F F' : Hp} {st : DSt}
mutual
theorem Rv.dropA {a : Addr} (ht : g.tk = false) (n1 : ∀ vs, F a ≠ some (.lst vs)) (n2 : ∀ vs, F a ≠ some (.tup vs)) (n3 : ∀ C d fs, F a ≠ some (.ins C d fs)) (n4 : ∀ o vs, F a ≠ some (.frz o (.lst vs))) (n5 : ∀ o vs, F a ≠ some (.frz o (.tup vs))) (e : ∀ x o, x ≠ a → F x = some o → F' x = some o) : ∀ {v : V} {d : D}, Rv g F v d → Rv g F' v d
  | _, _, .non => .non
  | _, _, .bl b => .bl b
  | _, _, .int b => .int b
  | _, _, .str b => .str b
  | _, _, .lst q r => .lst (e _ _ (fun z => n1 _ (by rw [← z]; exact q)) q) (Rl.dropA ht n1 n2 n3 n4 n5 e r)
  | _, _, .tup q k r => by
    unfold TkP at k
    rw [ht] at k
    have k : F _ = some (.tup _) := k
    have k' := e _ _ (fun z => n2 _ (by rw [← z]; exact k)) k
    exact .tup (.inl (.inl k')) (by unfold TkP; rw [ht]; exact k') (Rl.dropA ht n1 n2 n3 n4 n5 e r)
  | _, _, .ins q m l r => .ins (e _ _ (fun z => n3 _ _ _ (by rw [← z]; exact q)) q) m l (Rl.dropA ht n1 n2 n3 n4 n5 e r)
  | _, _, .scr h => .scr (by
    rcases h with (h | ⟨o, h⟩) | h
    · exact .inl (.inl (e _ _ (fun z => n1 _ (by rw [← z]; exact h)) h))
    · exact .inl (.inr ⟨o, e _ _ (fun z => n4 _ _ (by rw [← z]; exact h)) h⟩)
    · exact .inr h)
  | _, _, .kt h k => .kt (e _ _ (fun z => n5 _ _ (by rw [← z]; exact h)) h) k
theorem Rl.dropA {a : Addr} (ht : g.tk = false) (n1 : ∀ vs, F a ≠ some (.lst vs)) (n2 : ∀ vs, F a ≠ some (.tup vs)) (n3 : ∀ C d fs, F a ≠ some (.ins C d fs)) (n4 : ∀ o vs, F a ≠ some (.frz o (.lst vs))) (n5 : ∀ o vs, F a ≠ some (.frz o (.tup vs))) (e : ∀ x o, x ≠ a → F x = some o → F' x = some o) : ∀ {vs : List V} {ds : List D}, Rl g F vs ds → Rl g F' vs ds
  | _, _, .nil => .nil
  | _, _, .cons r t => .cons (Rv.dropA ht n1 n2 n3 n4 n5 e r) (Rl.dropA ht n1 n2 n3 n4 n5 e t)
end
end
def noLk : Slot → Bool
  | .lk _ => false
  | .lt _ => false
  | .xc _ _ _ => false
  | _ => true
/-- no number, no text, no class: the thing that a lock lays there -/
structure Lkd (F : Hp) (a : Addr) : Prop where
  n1 : ∀ vs, F a ≠ some (.lst vs)
  n2 : ∀ vs, F a ≠ some (.tup vs)
  n3 : ∀ C d fs, F a ≠ some (.ins C d fs)
  n4 : ∀ o vs, F a ≠ some (.frz o (.lst vs))
  n5 : ∀ o vs, F a ≠ some (.frz o (.tup vs))
theorem Lkd.of {F : Hp} {a : Addr} {o : Obj} {u : HO} (h : F a = some (.frz o u)) (n : ∀ vs, u ≠ .lst vs) (m : ∀ vs, u ≠ .tup vs) : Lkd F a :=
  ⟨(fun vs e => by rw [h] at e; cases e), (fun vs e => by rw [h] at e; cases e), (fun _ _ _ e => by rw [h] at e; cases e), (fun o' vs e => by rw [h] at e; cases e; exact n vs rfl), (fun o' vs e => by rw [h] at e; cases e; exact m vs rfl)⟩
section
variable {g : G} {P : Par} {O : Addr → Option Nat} {σ : L2.St} {H F F' H' : Hp} {st : DSt}
theorem SlotOk.drop {a : Addr} {O' : Addr → Option Nat} {i : Nat} {s : Slot} {ov : Option V} (ht : g.tk = false) (L : Lkd F a) (ha : O a = none) (e : ∀ x o, x ≠ a → F x = some o → F' x = some o) (eh : ∀ x o, x ≠ a → H x = some o → H' x = some o)
    (hO : ∀ b, O b = some i → O' b = some i) (hs : noLk s = true) (h : SlotOk g P O F H i s ov) : SlotOk g P O' F' H' i s ov := by
  have ne : ∀ {b}, O b = some i → b ≠ a := fun o z => by rw [z, ha] at o; cases o
  have rv : ∀ {v d}, Rv g F v d → Rv g F' v d := fun r => r.dropA ht L.n1 L.n2 L.n3 L.n4 L.n5 e
  have rl : ∀ {vs ds}, Rl g F vs ds → Rl g F' vs ds := fun r => r.dropA ht L.n1 L.n2 L.n3 L.n4 L.n5 e
  cases s with
  | no => trivial
  | sh d => obtain ⟨v, e1, r⟩ := h; exact ⟨v, e1, rv r⟩
  | ow ds => obtain ⟨b, vs, e1, o, n, h1, r⟩ := h; exact ⟨b, vs, e1, hO b o, n, eh _ _ (ne o) h1, rl r⟩
  | rf k ds => obtain ⟨b, vs, e1, b1, o, h1, r⟩ := h; exact ⟨b, vs, e1, b1, hO b o, eh _ _ (ne o) h1, rl r⟩
  | oi k c ns ds => obtain ⟨b, C, dx, vs, e1, b1, o, m, l, h1, r⟩ := h; exact ⟨b, C, dx, vs, e1, b1, hO b o, m, l, eh _ _ (ne o) h1, rl r⟩
  | xc c nm x => cases hs
  | gy ds => obtain ⟨vs, r⟩ := h; exact ⟨vs, rl r⟩
  | rk k kvs => obtain ⟨b, vs, e1, b1, o, n, h1, r⟩ := h; exact ⟨b, vs, e1, b1, hO b o, n, eh _ _ (ne o) h1, rl r⟩
  | dk kvs => obtain ⟨b, vs, e1, o, n, h1, r⟩ := h; exact ⟨b, vs, e1, hO b o, n, eh _ _ (ne o) h1, rl r⟩
  | dt kvs => obtain ⟨b, vs, e1, o, n, h1, r⟩ := h; exact ⟨b, vs, e1, hO b o, n, eh _ _ (ne o) h1, rl r⟩
  | lk kvs => cases hs
  | lt kvs => cases hs
  | o2 dss =>
    obtain ⟨b, bs, e1, o, n, h1, nd, na, l, r⟩ := h
    refine ⟨b, bs, e1, hO b o, n, eh _ _ (ne o) h1, nd, na, l, fun j b' ds e2 e3 => ?_⟩
    obtain ⟨o', n', vs, h2, r2⟩ := r j b' ds e2 e3
    exact ⟨hO b' o', n', vs, eh _ _ (ne o') h2, rl r2⟩
end
end DL
namespace DL
open PySem PySem.Spec PyProof.Rows L2
section
variable {g : G} {P : Par} {σ : L2.St} {H F : Hp} {st : DSt}
theorem SRx.chg {p : Addr} {u' : HO} (nt : ∀ xs, u' ≠ .tup xs) (s : SRx g P σ H F st p) : SRx g P σ (upd H p u') F st p := by
  obtain ⟨O, c, o0, f0, r0, n0⟩ := s
  refine ⟨O, ⟨fun b w e => ?_, fun b w e => ?_, fun b i e => ?_, fun b n => ?_, c.len, fun i s ov e1 e2 => ?_⟩, o0, f0, r0, n0⟩
  · rw [upd_ne (fun z => by rw [z, f0] at e; cases e)]; exact c.le b w e
  · rw [upd_ne (fun z => by rw [z, r0] at e; cases e)]; exact c.rr b w e
  · have hb : b ≠ p := fun z => by rw [z, o0] at e; cases e
    exact ⟨(c.oo b i e).1, (c.oo b i e).2.1, NT.upd hb (c.oo b i e).2.2⟩
  · have hb : b ≠ p := fun z => n0 (z ▸ n)
    exact ⟨(c.no b n).1, NT.upd hb (c.no b n).2⟩
  · exact (c.sl i s ov e1 e2).move rfl (fun _ h => h) (Same.refl _) (fun b w o h => by rw [upd_ne (fun z => by rw [z, o0] at o; cases o)]; exact h) fun _ _ h => h
end
section
variable {X : Cx} {g : G} {W : WX} {P : Par} {σ : L2.St} {H F : Hp} {st : DSt} {s : Stmt} {k v : Den D}
def dispDK (i : Nat) (x y : D) : DS := match keyK x with
  | some q => putD i (.dk [(q, y)])
  | none => fun _ => .stuck
@[simp] def sDispK (i : Nat) (k v : Den D) : DS := bindD k fun x => bindD v fun y => dispDK i x y
end
section
variable {X : Cx} {g : G} {W : WX} {P : Par} {σ : L2.St} {H F : Hp} {st : DSt} {s : Stmt} {k v : Den D}
def dispDT (i : Nat) (x y : D) : DS := match keyT x with
  | some q => putD i (.dt [(q, y)])
  | none => fun _ => .stuck
@[simp] def sDispT (i : Nat) (k v : Den D) : DS := bindD k fun x => bindD v fun y => dispDT i x y
end
end DL
namespace DL
open PySem PySem.Spec PyProof.Rows L2
end DL
namespace DL
open PySem PySem.Spec PyProof.Rows L2
@[simp] def dPeekB (f : Den Bool) : Den Bool := fun st => match f (st.map frzS) with
  | .ok b _ => .ok b st
  | _ => .stuck
end DL
namespace DL
open PySem PySem.Spec PyProof.Rows L2
def signs (z : Str) : List Str := z.cps.toList.map fun c => ⟨#[c]⟩
@[simp] def strItems : D → Option (List D)
  | .str z => some ((signs z).map D.str)
  | _ => none
@[simp] def dStrItems (f : Den D) : Den (List D) := bindD f fun d => liftO (strItems d)
@[simp] def opSlS (d : D) (lo hi : Option Int) : Option D := match d with
  | .str z => if z.length ≤ big then some (.str (cutS z lo hi)) else none
  | _ => none
@[simp] def dSlS (a : Den D) (lo hi : Den (Option Int)) : Den D := bindD a fun x => bindD lo fun l => bindD hi fun u => liftO (opSlS x l u)
@[simp] def isStrD : D → Option Unit
  | .str _ => some ()
  | _ => none
@[simp] def opIndexS : D → D → Option D
  | .str a, .str b => match Builtin.Str.occurrences a b 0 a.length 1 with
    | i :: _ => some (.int (i : Nat))
    | [] => none
  | _, _ => none
@[simp] def dIndexS (f h : Den D) : Den D := bindD f fun x => bindD (liftO (isStrD x)) fun _ => bindD h fun y => liftO (opIndexS x y)
section
variable {X : Cx} {g : G} {W : WX} {P : Par} {σ : L2.St} {H F : Hp} {st : DSt} {e : Expr} {f h : Den D}
theorem wk_s {F : Hp} (z : Str) : Wk g (Its z) F ((signs z).map D.str) where
  stop := fun H' le => by
    show z.cps.size ≤ ((signs z).map D.str).length
    simp [signs]
  go := fun i H' le hi => by
    show i < z.cps.size
    simpa [signs] using hi
  yld := fun i H' x H'' le hi y => by
    obtain ⟨e, c, hc, rfl⟩ := y
    refine ⟨.str ⟨#[c]⟩, ?_, .inl ⟨e, .str _⟩⟩
    unfold signs
    rw [List.getElem?_map, List.getElem?_map, Array.getElem?_toList, hc]
    rfl
theorem ei_str {tg it : Expr} (h : PI X tg it (iStr (tE g W f))) : PI X tg it (tI g W (dStrItems f)) := h.imp fun σ H R ⟨P, F, st, s, o⟩ =>
  ⟨P, F, st, s, o.bind.imp fun d st1 H1 F1 le1 s1 o1 v rx => by
    obtain ⟨ds, ez, q⟩ := o1.lift
    have q := q H1 F1 (Same.refl _) s1
    cases d with
    | str z =>
      cases ez
      cases rx
      exact ⟨z, rfl, q _ (wk_s z)⟩
    | _ => cases ez⟩
theorem ev_slS {lo hi : Den (Option Int)} (he : PE X e (tSl rSlS (tE g W f) (tO g W lo) (tO g W hi))) : PE X e (tE g W (dSlS f lo hi)) := he.imp fun σ H Q ⟨P, F, st, s, o⟩ =>
  ⟨P, F, st, s, o.bind.imp fun x st1 H1 F1 le1 s1 o1 v rx => ⟨P, F1, st1, s1, o1.bind.imp fun l st2 H2 F2 le2 s2 o2 => ⟨P, F2, st2, s2, o2.bind.imp fun u st3 H3 F3 le3 s3 o3 => by
    obtain ⟨z, ez, q⟩ := o3.lift
    have q := q H3 F3 (Same.refl _) s3
    cases x with
    | str y =>
      cases rx
      unfold opSlS at ez
      simp only at ez
      split at ez
      · rename_i hl
        cases ez
        exact ⟨y, rfl, by rw [sizeLine_eq]; exact hl, q _ (.str _)⟩
      · cases ez
    | _ => cases ez⟩⟩⟩
end
section
variable {st st1 : DSt}
theorem op_signs {z : Str} : strItems (eS z) = some ((signs z).map eS) := rfl
def pSlS (z : Str) (lo hi : Option Int) : M Str := if z.length ≤ big then .ok (cutS z lo hi) else .stuck
theorem op_slS {z : Str} {lo hi : Option Int} : OP (opSlS (eS z) lo hi) (pSlS z lo hi) eS := by
  unfold pSlS
  show OP (if z.length ≤ big then some (D.str (cutS z lo hi)) else none) _ _
  by_cases h : z.length ≤ big
  · rw [if_pos h, if_pos h]; rfl
  · rw [if_neg h, if_neg h]; trivial
def pInS (a b : Str) : Bool := !(Builtin.Str.occurrences b a 0 b.length 1).isEmpty
theorem op_notInS {a b : Str} : opNotIn (eS a) (eS b) = some (eB (!pInS a b)) := rfl
def pStrD : D → M Str
  | .str z => .ok z
  | _ => .stuck
theorem re_strD {f : Den D} {d : D} (h : RV f st d st1) : RE f st (pStrD d) eS st1 := by
  cases d <;> first | exact h | trivial
end
section
variable {α τ : Type} {st st' : DSt} {S : τ → DSt}
theorem rv_dStrItems {f : Den D} {y : (List D)} (hh : RV (bindD f fun d => liftO (strItems d)) st y st') : RV (dStrItems f) st y st' := hh
theorem re_dSlS {a : Den D} {lo hi : Den (Option Int)} {o : M α} {v : α → D} (hh : RE (bindD a fun x => bindD lo fun l => bindD hi fun u => liftO (opSlS x l u)) st o v st') : RE (dSlS a lo hi) st o v st' := hh
end
end DL
namespace DL
open PySem PySem.Spec PyProof.Rows L2
@[simp] def dApp2 (i : Nat) (e1 e : Den D) : Den D := bindD (dO2 i) fun _ => bindD e1 fun k1 => bindD (dO2 i) fun dss => bindD (liftO (rowAt dss k1)) fun r => bindD (hideD i) fun _ => bindD (noX e) fun v =>
  bindD (liftO (if r.2.length < big then some () else none)) fun _ => bindD (backO i (dss.set r.1 (r.2 ++ [v]))) fun _ => retD .non
end DL
namespace DL
open PySem PySem.Spec PyProof.Rows L2
end DL
namespace DL
open PySem PySem.Spec PyProof.Rows L2
end DL
namespace DL
open PySem PySem.Spec PyProof.Rows L2
end DL
namespace DL
open PySem PySem.Spec PyProof.Rows L2
@[simp] def strsOf : List D → Option (List Str)
  | [] => some []
  | .str z :: r => (strsOf r).map (z :: ·)
  | _ :: _ => none
def joinFit (a : Str) (ys : List Str) : Bool := decide ((ys.map (·.length)).sum + ys.length * a.length ≤ 16777216)
@[simp] def opJoin : D → D → Option D
  | .str a, .lst ds => match strsOf ds with
    | some ys => if joinFit a ys = true then some (.str (Txt.join a ys)) else none
    | none => none
  | _, _ => none
@[simp] def dJoin (f h : Den D) : Den D := bindD f fun x => bindD (liftO (isStrD x)) fun _ => bindD h fun y => liftO (opJoin x y)
def rJoin (K : PySem.W.Frag) : V → List V → Hp → VK → Prop := fun x xs H Q => ∃ a p, ∃ ys : List Str, x = .str a ∧ xs = [.ref p] ∧ (SqL K H p (ys.map V.str) ∨ SqT K H p (ys.map V.str)) ∧
  (ys.map (·.length)).sum + ys.length * a.length ≤ 16777216 ∧ Q (.str (Txt.join a ys)) H
section
variable {X : Cx} {g : G} {W : WX} {P : Par} {σ : L2.St} {H F : Hp} {st : DSt} {e : Expr} {f h : Den D}
theorem strsOf_rl : ∀ {ds : List D} {vs : List V} {ys : List Str}, Rl g F vs ds → strsOf ds = some ys → vs = ys.map V.str
  | [], _, _, .nil, h => by cases h; rfl
  | d :: ds, _, ys, .cons r rs, h => by
    cases d with
    | str z =>
      unfold strsOf at h
      cases hr : strsOf ds with
      | none => rw [hr] at h; cases h
      | some q =>
        rw [hr] at h
        cases h
        cases r
        rw [strsOf_rl rs hr]; rfl
    | _ => cases h
theorem ev_join (he : PE X e (tM1 (rJoin g.K) (tE g W f) (tE g W h))) : PE X e (tE g W (dJoin f h)) := he.imp fun σ H Q ⟨P, F, st, s, o⟩ =>
  ⟨P, F, st, s, o.bind.imp fun x st1 H1 F1 le1 s1 o1 v rx => by
    obtain ⟨u0, hx, q⟩ := Out.lift o1.bind
    cases x with
    | str a =>
      cases rx
      refine ⟨⟨a, rfl⟩, P, F1, st1, s1, Out.imp (Out.bind (q H1 F1 (Same.refl _) s1)) fun y st2 H2 F2 le2 s2 o2 u ry => ?_⟩
      obtain ⟨z, ez, q⟩ := o2.lift
      have q := q H2 F2 (Same.refl _) s2
      cases y with
      | lst ds =>
        cases ry with
        | lst ha hr =>
          rename_i p vs
          unfold opJoin at ez
          simp only at ez
          split at ez
          · rename_i ys hy
            split at ez
            · rename_i hf
              cases ez
              have e := strsOf_rl hr hy
              subst e
              exact ⟨a, p, ys, rfl, rfl, .inl (sqL_of (s2.le _ _ ha)), by simpa [joinFit] using hf, q _ (.str _)⟩
            · cases ez
          · cases ez
      | _ => cases ez
    | _ => cases hx⟩
end
section
variable {st st1 : DSt}
def pJoin (a : Str) (ys : List Str) : M Str := if joinFit a ys = true then .ok (Txt.join a ys) else .stuck
theorem strsOf_map : ∀ ys : List Str, strsOf (ys.map eS) = some ys
  | [] => rfl
  | y :: ys => by
    show (strsOf (ys.map eS)).map (y :: ·) = _
    rw [strsOf_map ys]; rfl
theorem op_join {a : Str} {ys : List Str} : OP (opJoin (eS a) (eL eS ys)) (pJoin a ys) eS := by
  unfold pJoin
  show OP (match strsOf (ys.map eS) with
    | some ys => if joinFit a ys = true then some (D.str (Txt.join a ys)) else none
    | none => none) _ _
  rw [strsOf_map]
  simp only
  by_cases h : joinFit a ys = true
  · rw [if_pos h, if_pos h]; rfl
  · rw [if_neg h, if_neg h]; trivial
end
end DL
namespace DL
open PySem PySem.Spec PyProof.Rows L2
end DL
namespace DL
open PySem PySem.Spec PyProof.Rows L2
theorem TupI.at {h h' : Heap} {a t : Addr} {i : Nat} (x : IsTupIter h a t i) (e : ∀ o, h.get? a = some o → h'.get? a = some o) : IsTupIter h' a t i := let ⟨o, ho, r⟩ := x; ⟨o, e _ ho, r⟩
theorem TupA.at {h h' : Heap} {a : Addr} {items : Array Value} (x : IsTup h a items) (e : ∀ o, h.get? a = some o → h'.get? a = some o) : IsTup h' a items := let ⟨o, ho, r⟩ := x; ⟨o, e _ ho, r⟩
section
variable {prog : Program} {w : World} {A : Around} {E : Value → Shared → Prop} {s : Shared}
/-- the enumerate object; fr: what stands in the first two fields -/
abbrev EnumF (h : Heap) (e it : Addr) (i : Int) (f0 f1 old : Value) : Prop :=
  h.get? e = some { cls := .type "enumerate", dict := none, data := .fields #[f0, f1, .ref it, rawInt i, .none, old], slots := #[] }
/-- at turn i of a list that takes all: the first tuple handed out still stands -/
def EnumSt (h : Heap) (e it S : Addr) (i : Nat) : Prop :=
  (i = 0 ∧ ∃ old, EnumF h e it 0 .none (.bool false) old) ∨ ∃ (a : Addr) (b : Bool) (old : Value) (oa : Obj), EnumF h e it i (rawInt a) (.bool b) old ∧ h.get? a = some oa ∧ a ≠ e ∧ a ≠ it ∧ a ≠ S
theorem EnumSt.keep {h h' : Heap} {e it S : Addr} {i : Nat} (x : EnumSt h e it S i) (hk : ∀ b o, b ≠ S → h.get? b = some o → h'.get? b = some o) (hI : e ≠ S) : EnumSt h' e it S i := by
  rcases x with ⟨z, old, q⟩ | ⟨a, b, old, oa, q, ha, h1, h2, h3⟩
  · exact .inl ⟨z, old, hk _ _ hI q⟩
  · exact .inr ⟨a, b, old, oa, hk _ _ hI q, hk _ _ h3 ha, h1, h2, h3⟩
end
end DL
namespace DL
open PySem PySem.Spec PyProof.Rows L2
/-- the pairs made so far -/
structure EnumG (items : Array Value) (lo : Addr) (h : Heap) (as : List Addr) : Prop where
  rise : as.Pairwise (· < ·)
  above : ∀ a ∈ as, lo < a
  pairs : ∀ (j : Nat) (a : Addr), as[j]? = some a → ∃ t x, items[j]? = some x ∧ h.get? a = some { cls := .type "tuple", data := .seq #[.int j t, x] }
section
variable {prog : Program} {w : World} {A : Around} {E : Value → Shared → Prop} {s : Shared} {R : Result → Shared → Prop} {items : Array Value} {e it l S : Addr}
theorem EnumG.lt {lo : Addr} {h : Heap} {as : List Addr} (g : EnumG items lo h as) {a : Addr} (ha : a ∈ as) : a < h.objs.size := by
  obtain ⟨j, hj⟩ := List.mem_iff_getElem?.mp ha
  obtain ⟨_, _, _, q⟩ := g.pairs j a hj
  exact Heap.lt_size q
end
end DL
namespace DL
open PySem PySem.Spec PyProof.Rows L2
def enumD : Nat → List D → List D
  | _, [] => []
  | k, d :: ds => .tup [.int (k : Nat), d] :: enumD (k + 1) ds
@[simp] def enumOp : D → Option (List D)
  | .tup ds => if ds.length ≤ big then some (enumD 0 ds) else none
  | _ => none
@[simp] def dEnumL (f : Den D) : Den (List D) := bindD f fun d => liftO (enumOp d)
end DL
namespace DL
open PySem PySem.Spec PyProof.Rows L2
end DL
namespace DL
open PySem PySem.Spec PyProof.Rows L2
section
variable {prog : Program} {w : World} {A : Around} {E : Value → Shared → Prop} {s : Shared}
/-- tuples of d numbers -/
def TupsL (h : Heap) (d : Nat) (vs : List Value) : Prop := ∀ v, v ∈ vs → ∃ ns, TS.TupInts h v ns ∧ ns.length = d
theorem TupsL.keeps {h h' : Heap} {d : Nat} {vs : List Value} (x : TupsL h d vs) (k : ∀ b o, h.get? b = some o → o.cls = .type "tuple" → h'.get? b = some o) : TupsL h' d vs := fun v hv =>
  let ⟨ns, t, r⟩ := x v hv; ⟨ns, t.keeps k, r⟩
end
end DL
namespace DL
open PySem PySem.Spec PyProof.Rows L2
/-- an exception in the air of X, the frame that notes told -/
def XEL (X : Cx) (L : Addr) (W : WX) (u : Value) (s' : Shared) : Prop :=
  ∃ (a : Addr) (B : Heap) (sI : Shared) (pins : List (Addr × Obj)) (σ : L2.St) (H : Hp) (cls : Value) (d : Option Addr),
    u = .ref a ∧ Inv X pins σ H sI ∧ (∀ b o, sI.heap.get? b = some o → b ∉ frs X.stack → B.get? b = some o) ∧ sI.heap.UpToSlots s'.heap ∧
      Sky B X.stack a (Zc cls d) L s'.heap ∧ H a = none ∧ s'.os = sI.os ∧ AllBare s'.gens ∧ W cls d σ H
structure Fly (X : Cx) (L : Addr) (W : WX) : Prop where
  tk : Takes X W
  tl : ∀ u s', XEL X L W u s' → X.xe u s'
  fr : X.env.frame = some L
  stk : ∃ env outer, X.stack = env :: outer ∧ env.frame = some L
theorem fly_def {X : Cx} {W : WX} (hs : X.stack = X.env :: X.outer) (hf : X.env.frame = some X.env.locals) (tk : Takes X W) : Fly X X.env.locals W := ⟨tk, tk, hf, X.env, X.outer, hs, hf⟩
theorem inv_xe {X : Cx} {pins : List (Addr × Obj)} {σ : L2.St} {H : Hp} {s : Shared} (I : Inv X pins σ H s) (xe : Value → Shared → Prop) : Inv (X.tr X.pn xe) pins σ H s :=
  ⟨I.ok.toTry _ _, I.os, I.bare, I.base, I.loc, I.cell, I.free, I.freeC, I.pin, I.hok, I.len⟩
theorem funFrames_base {h base base' : Heap} (k : ∀ b o, base'.get? b = some o → base.get? b = some o) : ∀ {l : List Env}, h.FunFrames base l → h.FunFrames base' l
  | [], _ => trivial
  | env :: rest, ⟨h1, ⟨L, o, e1, e2, e3, e4⟩, h3⟩ => ⟨h1, ⟨L, o, e1, by
      exact Option.eq_none_iff_forall_ne_some.mpr (fun o' e => by rw [k L o' e] at e2; exact absurd e2 (by simp)), e3, e4⟩, funFrames_base k h3⟩
section
variable {M : Model} {A : Around} {E : Value → Shared → Prop} {s : Shared} {Z : Obj → Prop} {base : Heap} {env : Env} {outer l : List Env} {L e : Addr}
/-- noted by another frame before -/
theorem looks_flZ {fl : Value} {Q : Unit → Shared → Prop} (hZ : HandSPX.Steady Z) (hfr : A.frames = some (env :: outer)) (hf : env.frame = some L) (hkb : base.StaysIn s.heap) (hen : base.get? e = none) (hl : s.heap.FunFrames base (env :: outer)) (ht : HandSPX.TracedZ s.heap base e Z fl) (hne : ¬ (fl == rawInt L) = true)
    (hQ : ∀ h', HandSPX.HeldZ base (env :: outer) e Z L h' → s.heap.UpToSlots h' → Q () { s with heap := h' }) : wpAny M A (noteFrame (.ref e) env) Q E s := by
  obtain ⟨oe, vs, T, oT, ts, he, hz, hd, h1, hnT, hTe, hT, hdT, h3⟩ := ht
  unfold noteFrame
  simp only [hf]
  refine wpAny_bind (wpAny_field he hd h1 ?_)
  rw [if_pos (show (Value.ref T != Value.none) = true from by simp)]
  refine wpAny_bind (wpAny_field hT hdT h3 ?_)
  rw [if_neg hne]
  refine wpAny_bind (wpAny_setField hT hdT (Array.getElem?_eq_some_iff.mp h3).1 ?_)
  have other : ∀ b, b ≠ T → (s.heap.update T (Obj.mapFields (·.setIfInBounds 3 Value.none))).get? b = s.heap.get? b := fun b hb => Heap.get?_update_other _ _ (Ne.symm hb)
  have noRecord : ∀ b o, s.heap.get? b = some o → (∀ vs, o.data ≠ .fields vs) → b ≠ T := fun b o hb hnf q => by
    rw [q, hT] at hb; injection hb with hb; subst hb; exact hnf ts hdT
  refine HandSPX.wpAny_entryZ hZ hfr (hl.of_keeps fun b o hb hnf => ⟨o, (other b (noRecord b o hb hnf)).trans hb, rfl⟩) hf ((other e (Ne.symm hTe)).trans he)
    (fun b o hbo => (other b fun q => by rw [q, hnT] at hbo; cases hbo).trans (hkb b o hbo)) hen hd (Array.getElem?_eq_some_iff.mp h1).1 hz fun h' hN => ?_
  obtain ⟨x1, x2, x3, x4⟩ := hN
  exact hQ h' ⟨x1, hen, x2, x3⟩ fun b o hb hnf => x4 b o ((other b (noRecord b o hb hnf)).trans hb) hnf
theorem hides_none {h : Heap} {a : Addr} : (PySem.W.hideAll h [a]).get? a = none := PySem.W.hideAll_none _ (by simp)
end
/-- what a block lets out -/
def blkXe (X : Cx) (L : Addr) (W : WX) : Value → Shared → Prop := fun u s' => XEL X L W u s' ∨ L2.XE X W u s'
abbrev blkX (X : Cx) (s : Shared) (H : Hp) (scope : Scope) (ce : Env) (fp : List Addr) (L : Addr) (W : WX) : Cx := (X.blk s H scope ce fp).tr [] (blkXe (X.blk s H scope ce fp) L W)
theorem fly_blk {X : Cx} {L : Addr} {W W' : WX} (F : Fly X L W) {s : Shared} {H : Hp} {scope : Scope} {ce : Env} {fp : List Addr} (hc : ce.frame = X.env.frame) : Fly (blkX X s H scope ce fp L W') L W' := by
  have back : ∀ {pins : List (Addr × Obj)} {σ : L2.St} {H' : Hp} {s' : Shared}, Inv (blkX X s H scope ce fp L W') pins σ H' s' → Inv (X.blk s H scope ce fp) pins σ H' s' := fun I => ⟨⟨I.ok.mod, I.ok.kind, I.ok.glob, I.ok.blt, I.ok.above, I.ok.inj, I.ok.has, I.ok.cab, I.ok.hd, I.ok.frames, I.ok.stk, I.ok.exf, I.ok.bs, I.ok.bsz, I.ok.noex, I.ok.exfs, I.ok.funs, I.ok.frf⟩, I.os, I.bare, I.base, I.loc, I.cell, I.free, I.freeC, I.pin, I.hok, I.len⟩
  refine ⟨fun u s' ⟨a, B, sI, pins, σ, H', cls, d, e, I, r⟩ => .inr ⟨a, B, sI, pins, σ, H', cls, d, e, back I, r⟩, fun u s' ⟨a, B, sI, pins, σ, H', cls, d, e, I, r⟩ => .inl ⟨a, B, sI, pins, σ, H', cls, d, e, back I, r⟩, hc.trans F.fr, F.stk⟩
section
variable {X : Cx} {pins : List (Addr × Obj)} {σ : L2.St} {H : Hp} {s3 : Shared} {L : Addr} {W : WX} {scope : Scope} {ce : Env} {fp : List Addr}
/-- out of the block -/
theorem blk_out (F : Fly X L W) (I3 : Inv X pins σ H s3) (hC : ce.locals = s3.heap.objs.size) (hcf : ce.frame = X.env.frame) (f3 : ∀ b ∈ fp, FpOk X pins H b) {u : Value} {s' : Shared}
    (x : blkXe (X.blk s3 H scope ce fp) L (fun cls d _ H' => W cls d σ H') u s') : notedBy (model X.prog X.w) X.A ce (CompFails (model X.prog X.w) X.A X.xe ce) u s' := by
  obtain ⟨denv, outer, hs, hdf⟩ := F.stk
  have hfr : X.A.frames = some (denv :: outer) := by rw [I3.ok.frames, hs]
  have Lfr : L ∈ frs X.stack := by rw [hs]; exact List.mem_filterMap.mpr ⟨denv, List.mem_cons_self, hdf⟩
  have LC : L ≠ ce.locals := by
    rw [hC]
    obtain ⟨_, o, ho, _⟩ := I3.stack.mem Lfr
    exact Nat.ne_of_lt (Heap.lt_size ho)
  have main : ∀ (a : Addr) (B : Heap) (sI : Shared) (pins' : List (Addr × Obj)) (σ' : L2.St) (H' : Hp) (cls : Value) (d : Option Addr), Inv (X.blk s3 H scope ce fp) pins' σ' H' sI → (∀ b o, sI.heap.get? b = some o → b ∉ frs X.stack → B.get? b = some o) → sI.heap.UpToSlots s'.heap →
      (Sky B X.stack a (Zc cls d) L s'.heap ∨ HandSPX.HeldZ B X.stack a (Zc cls d) ce.locals s'.heap) → H' a = none → s'.os = sI.os → AllBare s'.gens → W cls d σ H' → notedBy (model X.prog X.w) X.A ce (CompFails (model X.prog X.w) X.A X.xe ce) (.ref a) s' := by
    intro a B sI pins' σ' H' cls d J nb up sky na os ag w
    show wpAny _ X.A (noteFrame (.ref a) ce) _ _ s'
    rw [noteFrame_env (.ref a) (show ce.frame = denv.frame by rw [hcf, F.fr, hdf])]
    have nC : H' ce.locals = none := J.free
    obtain ⟨m, hn, _⟩ := J.loc
    have hn : sI.heap.Ns ce.locals m := hn
    have I7 : Inv X pins σ H' sI := I3.call' (ch := fp) J.os J.base J.hok J.bare fun b hb => ⟨(f3 b hb).2.2.2.1, (f3 b hb).2.1, (f3 b hb).2.2.2.2.1, (f3 b hb).2.2.2.2.2⟩
    obtain ⟨f0, f1, f2, f3', f4, f5⟩ := I3.fpOk (b := ce.locals) (H' := H') (by rw [hC]; exact Nat.le_refl _) nC
    have fin : ∀ h1, HandSPX.HeldZ B X.stack a (Zc cls d) L h1 → s'.heap.UpToSlots h1 → CompFails (model X.prog X.w) X.A X.xe ce (.ref a) { s' with heap := h1 } := by
      intro h1 hh up1
      refine ⟨m, (up.trans up1).ns hn, fun h2 m2 hn2 sb => ?_⟩
      obtain ⟨b1, b0, fr1, oe, vs, T, oT, ts, he, hz, hd, h1', hnT, hTe, hT, hdT, h3⟩ := hh
      have nf : ∀ b o vs, h1.get? b = some o → o.data = .fields vs → b ≠ ce.locals := fun b o vs e dd z => by
        obtain ⟨oL, es, ep, hoL, hdL, _⟩ := (up.trans up1).ns hn
        rw [z] at e
        have hoL : h1.get? ce.locals = some oL := hoL
        rw [hoL] at e; cases e
        rw [hdL] at dd; cases dd
      have aC := nf a oe vs he hd
      have TC := nf T oT ts hT hdT
      have kB : ∀ b o, (PySem.W.hideAll B [ce.locals]).get? b = some o → b ≠ ce.locals ∧ B.get? b = some o := fun b o e => by
        refine ⟨fun z => ?_, PySem.W.of_hideAll _ e⟩
        rw [z, hides_none] at e; cases e
      have hd2 : HandSPX.HeldZ (PySem.W.hideAll B [ce.locals]) X.stack a (Zc cls d) L h2 := by
        refine ⟨fun b o e => (sb.2 b (kB b o e).1).trans (b1 b o (kB b o e).2), ?_, funFrames_base (fun b o e => (kB b o e).2) (Heap.FunFrames.sameBut sb hn2 fr1), oe, vs, T, oT, ts, (sb.2 a aC).trans he, hz, hd, h1', ?_, hTe, (sb.2 T TC).trans hT, hdT, h3⟩
        · cases e : (PySem.W.hideAll B [ce.locals]).get? a with
          | none => rfl
          | some o => rw [(kB a o e).2] at b0; cases b0
        · cases e : (PySem.W.hideAll B [ce.locals]).get? T with
          | none => rfl
          | some o => rw [(kB T o e).2] at hnT; cases hnT
      unfold PySem.passOn
      refine wpAny_bind (wpAny_field ((sb.2 a aC).trans he) hd h1' ?_)
      rw [if_neg (show ¬ ((Value.ref T == Value.none) = true) from by simp)]
      have fin2 : wpAny (model X.prog X.w) X.A (setFlight (.ref a) ce.frame) (fun _ s4 => wpAny (model X.prog X.w) X.A (throw (.ref a) : Sem Value) (fun _ _ => False) X.xe s4) X.xe { s' with heap := h2 } := by
        rw [hcf, F.fr]
        refine HandSPX.setFlight_onZ (s := { s' with heap := h2 }) hd2 fun h4 hh4 up4 => wpAny_throw (F.tl _ _ ?_)
        refine ⟨a, PySem.W.hideAll B [ce.locals], { sI with heap := PySem.W.hideAll sI.heap [ce.locals] }, pins, σ, H', cls, d, rfl, I7.turned (t' := sI.toks) (fun b o hb e => PySem.W.hideAll_get _ e (by simpa using hb)) f0 f1 f3' f4 f5, fun b o e hb => ?_, fun b o e hnf => ?_, .inr (.inr hh4), na, os, ag, w⟩
        · have hbC : b ≠ ce.locals := fun z => by rw [z] at e; rw [show (PySem.W.hideAll sI.heap [ce.locals]).get? ce.locals = none from hides_none] at e; cases e
          exact PySem.W.hideAll_get _ (nb b o (PySem.W.of_hideAll _ e) hb) (by simpa using hbC)
        · have hbC : b ≠ ce.locals := fun z => by rw [z] at e; rw [show (PySem.W.hideAll sI.heap [ce.locals]).get? ce.locals = none from hides_none] at e; cases e
          obtain ⟨sl, e1⟩ := (up.trans up1) b o (PySem.W.of_hideAll _ e) hnf
          exact up4 b { o with slots := sl } ((sb.2 b hbC).trans e1) hnf
      first
        | exact wpAny_bind (wpAny_pure (wpAny_bind fin2))
        | exact wpAny_bind fin2
    rw [hs] at sky fin
    rcases sky with (⟨hB, hn', hl, oe, vs, he, hz, hd, h1⟩ | fl | hh) | hh
    · exact HandSPX.look_newZ Zc.steady hfr hl hdf he hB hn' hd h1 hz fin
    · exact HandSPX.looks_onZ Zc.steady hfr hdf fl fin
    · exact HandSPX.againZ hdf hh.2.2.2 (fin s'.heap hh (Heap.UpToSlots.refl _))
    · exact looks_flZ Zc.steady hfr hdf hh.1 hh.2.1 hh.2.2.1 hh.2.2.2 (by
        intro q
        have q : rawInt ce.locals = rawInt L := by simpa using q
        apply LC
        unfold rawInt at q
        injection q with q
        exact (Int.ofNat.inj q).symm) fin
  rcases x with ⟨a, B, sI, pins', σ', H', cls, d, rfl, J, nb, up, sky, na, os, ag, w⟩ | ⟨a, B, sI, pins', σ', H', cls, d, rfl, J, nb, up, sky, na, os, ag, w⟩
  · exact main a B sI pins' σ' H' cls d J nb up (.inl sky) na os ag w
  · refine main a B sI pins' σ' H' cls d J nb up ?_ na os ag w
    rcases sky with q | q | q
    · exact .inl (.inl q)
    · exact .inl (.inr (.inl q))
    · exact .inr q
end
end DL
namespace DL
open PySem PySem.Spec PyProof.Rows L2
def tLcX (wi : TI) (g : TG) (tt : TT) (te : WX → TE) (W : WX) (vs : List Nat) : TE := fun σ H Q => tLc wi g tt (te fun cls d _ H' => W cls d σ H') vs σ H Q
section
variable {X : Cx}
abbrev InX (X : Cx) (L : Addr) (scope : Scope) (p : Cx → WX → Prop) : Prop := ∀ (s : Shared) (H : Hp) (C : Addr) (cl : List (Str × Addr)) (fp : List Addr) (W : WX), Fly (blkX X s H scope (compEnvC scope cl C X.env) fp L W) L W → p (blkX X s H scope (compEnvC scope cl C X.env) fp L W) W
theorem lcX_core {pins : List (Addr × Obj)} {s : Shared} {σ : L2.St} {H : Hp} {Q : VK} {elt tg iter : Expr} {ifs : List Expr} {scope : Scope} {own : List (Str × Nat)} {pos pos' : Pos} {wi : TI} {g : TG} {tt : TT} {te : WX → TE} {L : Addr} {W : WX} {Qf : Value → Shared → Prop}
    (hc : X.calm = true) (hN : X.N.Nodup) (F : Fly X L W) (I : Inv X pins σ H s) (hi : PI X tg iter wi) (ok : BlkOk X.N X.env.scope scope own)
    (hg : InX X L scope fun Y _ => PG Y tg g) (ht : InX X L scope fun Y _ => PTs Y ifs tt) (he : InX X L scope fun Y W' => PE Y elt (te W')) (hs : ∀ x, foldedSetIterable iter X.env x = pure x)
    (h : tLcX wi g tt te W (own.map (·.2)) σ H Q)
    (hRR : ∀ D C s' m H' ce, ce.locals = C → Inv X pins σ H' s' → Q (.ref D) H' → s'.heap.Ns C m → FpOk X pins H' C → compEnds (model X.prog X.w) X.A X.xe none Qf (.ref D) ce (.ok .next) s') :
    wpAny (model X.prog X.w) X.A (comprehension (.ListComp elt [⟨tg, iter, ifs, 0⟩] scope pos) scope X.env pos' (newList []) false (eval iter X.env) none) Qf X.xe s := by
  have hfree : ∀ y ∈ scope.names, y.2 = .free → ∃ c, X.env.cells.lookup y.1 = some c := fun y hy e => by
    rcases ok.free y hy e with k | k
    · exact I.ok.has _ (.inl k)
    · exact I.ok.has _ (.inr k)
  have h : tLc wi g tt (te fun cls d _ H' => W cls d σ H') (own.map (·.2)) σ H Q := h
  generalize hW' : (fun cls d (_ : L2.St) H' => W cls d σ H' : WX) = W' at h
  refine comprehension_at (use := none) rfl hs (closure_ok hfree) ok.kind (fun y hy e => by rw [ok.uniq y hy, e])
    (thn (hi.run pins s σ H _ I h) fun xv s1 hx => thn hx fun itv s2 h2 => ?_)
  obtain ⟨it, fp, tn, J, H2, e, I2, T, st2, f2, q⟩ := h2
  subst e
  refine wpAny_newObj_type (newEnv_comp ?_) (by show 0 ≤ sizeLine; decide)
  generalize hD : s2.heap.objs.size = D
  have hDn : H2 D = none := I2.hok.fresh (Nat.le_of_eq hD)
  obtain ⟨V, ⟨m0, w0⟩, turn⟩ := q D hDn
  generalize hs3 : ({ s2 with heap := s2.heap.push { cls := .type "list", data := .seq ([] : List Value).toArray } } : Shared) = s3
  have I3 : Inv X pins σ (upd H2 D (.lst [])) s3 := by
    rw [← hs3]
    refine I2.laid (t' := s2.toks) (fun b o e => Heap.get?_push_of_some _ e) (Nat.le_of_eq hD) ⟨Nat.zero_le _, [], 0, .nil, ?_⟩
    rw [← hD]
    exact Heap.get?_push_size _ rfl
  have h3 : s3.heap = s2.heap.push { cls := .type "list", data := .seq ([] : List Value).toArray } := by rw [← hs3]
  have sz : ∀ b ∈ fp, b < s2.heap.objs.size := fun b hb => by
    obtain ⟨o, e, _⟩ := T.obj _ _ st2 b hb
    exact Heap.lt_size e
  have f3 : ∀ b ∈ fp, FpOk X pins (upd H2 D (.lst [])) b ∧ b < s3.heap.objs.size := fun b hb => by
    have hlt := sz b hb
    refine ⟨⟨?_, (f2 b hb).2⟩, by rw [h3, Heap.size_push]; exact Nat.lt_succ_of_lt hlt⟩
    rw [upd_ne (by rw [← hD]; exact Nat.ne_of_lt hlt)]
    exact (f2 b hb).1
  have st3 : tn 0 s3.heap := T.keep _ _ _ st2 fun b _ o e => by rw [h3]; exact Heap.get?_push_of_some _ e
  have I4' := block_start I3 ok hN f3
  have fly : Fly (blkX X s3 (upd H2 D (.lst [])) scope (compEnvC scope (cellsFrom (s3.heap.objs.size + 1) scope.names (cloFrom X.env.cells scope.names [])) s3.heap.objs.size X.env) fp L W') L W' := fly_blk F rfl
  have pg := hg s3 (upd H2 D (.lst [])) s3.heap.objs.size (cellsFrom (s3.heap.objs.size + 1) scope.names (cloFrom X.env.cells scope.names [])) fp W' fly
  have pt := ht s3 (upd H2 D (.lst [])) s3.heap.objs.size (cellsFrom (s3.heap.objs.size + 1) scope.names (cloFrom X.env.cells scope.names [])) fp W' fly
  have pe := he s3 (upd H2 D (.lst [])) s3.heap.objs.size (cellsFrom (s3.heap.objs.size + 1) scope.names (cloFrom X.env.cells scope.names [])) fp W' fly
  show codeAny _ _ (.compStart (.ListComp elt [⟨tg, iter, ifs, 0⟩] scope pos) 0 (.ref it) (.ref D) (compEnvC scope (cellsFrom (s3.heap.objs.size + 1) scope.names (cloFrom X.env.cells scope.names [])) s3.heap.objs.size X.env)) (compEnds (model X.prog X.w) X.A X.xe none Qf (.ref D) (compEnvC scope (cellsFrom (s3.heap.objs.size + 1) scope.names (cloFrom X.env.cells scope.names [])) s3.heap.objs.size X.env)) { s3 with heap := pushCells (s3.heap.push { cls := .type "dict", data := .dict #[] }) scope.names }
  have nfp : ∀ b ∈ fp, (upd H2 D (.lst [])) b = none := fun b hb => (f3 b hb).1.1
  have I4 := inv_xe I4' (blkXe (X.blk s3 (upd H2 D (.lst [])) scope (compEnvC scope (cellsFrom (s3.heap.objs.size + 1) scope.names (cloFrom X.env.cells scope.names [])) s3.heap.objs.size X.env) fp) L W')
  clear I4' fly
  generalize hce : compEnvC scope (cellsFrom (s3.heap.objs.size + 1) scope.names (cloFrom X.env.cells scope.names [])) s3.heap.objs.size X.env = ce at I4 pg pt pe ⊢
  have cL : ce.locals = s3.heap.objs.size := by subst hce; rfl
  have cF : ce.frame = X.env.frame := by subst hce; rfl
  generalize hH3 : upd H2 D (.lst []) = H3 at I3 I4 pg pt pe w0 nfp f3
  generalize hs4 : ({ s3 with heap := pushCells (s3.heap.push { cls := .type "dict", data := .dict #[] }) scope.names } : Shared) = s4 at I4 ⊢
  have I4 : Inv (blkX X s3 H3 scope ce fp L W') [] (L2.wipe σ (own.map (·.2))) H3 s4 := I4
  have st4 : tn 0 s4.heap := T.keep _ _ _ st3 fun b _ o e => by rw [← hs4]; exact pushCells_keeps _ _ _ _ (Heap.get?_push_of_some _ e)
  have out : ∀ u s', (blkX X s3 H3 scope ce fp L W').xe u s' → notedBy (model X.prog X.w) X.A ce (CompFails (model X.prog X.w) X.A X.xe ce) u s' := fun u s' x => by
    subst hW'
    exact blk_out F I3 cL cF (fun b hb => (f3 b hb).1) x
  have stat : ∀ {σ' : L2.St} {H' : Hp} {s' : Shared}, Inv (blkX X s3 H3 scope ce fp L W') [] σ' H' s' → (∀ b ∈ fp, H' b = none) → ∀ b ∈ fp, FpOk (blkX X s3 H3 scope ce fp L W') [] H' b := fun {σ' H' s'} I' hn b hb =>
    ⟨hn b hb, (I'.ok.exf b hb).1, I'.ok.exfs b hb, .inl hb, fun x c e => (I'.ok.exf b hb).2 x c e, fun p hp => absurd (show p ∈ ([] : List (Addr × Obj)) ++ [] from hp) (by simp)⟩
  have loop : codeAny (model X.prog X.w) X.A (.compLoop (.ListComp elt [⟨tg, iter, ifs, 0⟩] scope pos) 0 (.ref it) (.ref D) ce) (compEnds (model X.prog X.w) X.A X.xe none Qf (.ref D) ce) s4 := by
    refine compLoop_any (fun n s' => ∃ i H', Inv (blkX X s3 H3 scope ce fp L W') [] (L2.wipe σ (own.map (·.2))) H' s' ∧ tn i s'.heap ∧ (∀ b ∈ fp, H' b = none) ∧ V i n H') ?_ m0 ⟨0, H3, I4, st4, nfp, w0⟩
    rintro n s5 ⟨i, H5, I5, st5, n5, w5⟩
    rcases turn i n H5 w5 with ⟨stop, qq⟩ | ⟨go, Nx, hNx, step⟩
    · have td := T.done (blkX X s3 H3 scope ce fp L W') rfl rfl rfl hc i [] s5 _ H5 (fun _ _ => False) I5 (stat I5 n5) st5 stop
      refine thnF td fun r s6 ⟨hr, I6⟩ => ?_
      subst hr
      have I7 : Inv X pins σ H5 s6 := I3.call' (ch := fp) I6.os I6.base I6.hok I6.bare fun b hb => ⟨(f3 b hb).1.2.2.2.1, (f3 b hb).1.2.1, (f3 b hb).1.2.2.2.2.1, (f3 b hb).1.2.2.2.2.2⟩
      have nC : H5 s3.heap.objs.size = none := by
        have z : H5 ce.locals = none := I6.free
        rw [cL] at z
        exact z
      obtain ⟨m, hn, _⟩ := I6.loc
      have hn : s6.heap.Ns ce.locals m := hn
      rw [cL] at hn
      exact hRR D s3.heap.objs.size s6 m H5 ce cL I7 qq hn (I3.fpOk (Nat.le_refl _) nC)
    · have ti := T.item (blkX X s3 H3 scope ce fp L W') rfl rfl rfl hc i [] s5 _ H5 (fun _ _ => False) I5 (stat I5 n5) st5 go
      refine thnF ti fun r s6 ⟨u, hr, h6⟩ => ?_
      subst hr
      refine thnF h6 fun _ s7 ⟨x, H7, I7, r7, y7, st7, n7⟩ => ?_
      have I7' := I7.pinned (stat I7 n7) (T.obj _ _ st7)
      refine wpAny_mono (pg.run _ s7 _ H7 x u _ I7' r7 (step x H7 y7)) (fun _ s8 ⟨σ8, H8, I8, hw8, q8⟩ => ?_) out
      refine wpAny_mono (pt.run _ s8 σ8 H8 _ I8 q8) (fun b s9 ⟨H9, I9, q9⟩ => ?_) out
      have fin : ∀ {s' : Shared} {H' : Hp}, Inv (blkX X s3 H3 scope ce fp L W') ([] ++ pinsAt fp s7.heap) σ8 H' s' → Nx H' → ∃ m, m < n ∧ ∃ i H', Inv (blkX X s3 H3 scope ce fp L W') [] (L2.wipe σ (own.map (·.2))) H' s' ∧ tn i s'.heap ∧ (∀ b ∈ fp, H' b = none) ∧ V i m H' := fun {s' H'} I' nx => by
        obtain ⟨m', hm, w'⟩ := hNx H' nx
        have pin' : ∀ b ∈ fp, ∀ o, s7.heap.get? b = some o → s'.heap.get? b = some o ∧ H' b = none := fun b hb o e =>
          let z := I'.pin (b, o) (List.mem_append_right _ (List.mem_append_right _ (mem_pinsAt hb e)))
          ⟨z.1, z.2.1⟩
        have hl : (L2.wipe σ (own.map (·.2))).length = σ8.length := by rw [← hw8, wipe_length]
        refine ⟨m', hm, i + 1, H', (I'.unpinned (pins := [])).weak hl (fun j v e => ?_), T.keep _ _ _ st7 fun b hb o e => (pin' b hb o e).1, fun b hb => ?_, w'⟩
        · rw [← hw8] at e
          exact (wipe_some e).1
        · obtain ⟨o, e, _⟩ := T.obj _ _ st7 b hb
          exact (pin' b hb o e).2
      cases b with
      | false =>
        simp only [Bool.false_eq_true, if_false] at q9 ⊢
        exact fin I9 q9
      | true =>
        simp only [if_true] at q9 ⊢
        refine wpAny_mono (pe.run _ s9 σ8 H9 _ I9 q9) (fun z s10 ⟨yv, H10, I10, r10, acc, hD10, hz10, nx⟩ => ?_) out
        exact app_ok (X := blkX X s3 H3 scope ce fp L W') I10 hD10 hz10 r10 fun s11 I11 => fin I11 nx
  exact codeAny_compStart_list loop (T.self X.A 0 _ _ _ st4 loop)
/-- as a value -/
theorem pe_lcX {elt tg iter : Expr} {ifs : List Expr} {scope : Scope} {own : List (Str × Nat)} {pos : Pos} {wi : TI} {g : TG} {tt : TT} {te : WX → TE} {L : Addr} {W : WX} (hc : X.calm = true) (hN : X.N.Nodup) (F : Fly X L W) (hi : PI X tg iter wi) (ok : BlkOk X.N X.env.scope scope own)
    (hg : InX X L scope fun Y _ => PG Y tg g) (ht : InX X L scope fun Y _ => PTs Y ifs tt) (he : InX X L scope fun Y W' => PE Y elt (te W')) (hs : ∀ x, foldedSetIterable iter X.env x = pure x := by intro _; rfl) :
    PE X (.ListComp elt [⟨tg, iter, ifs, 0⟩] scope pos) (tLcX wi g tt te W (own.map (·.2))) := by
  refine ⟨fun pins s σ H Q I h => ?_⟩
  rw [eval_ListComp]
  refine lcX_core hc hN F I hi ok hg ht he hs h fun D C s' m H' ce hC I' q hn f => ?_
  subst hC
  refine ⟨m, hn, fun h'' sb => ?_⟩
  obtain ⟨f0, f1, f2, f3, f4, f5⟩ := f
  exact ⟨.ref D, H', I'.turned (t' := s'.toks) (fun b o hb e => (sb.2 b hb).trans e) f0 f1 f3 f4 f5, rfl, q⟩
end
def compGoX (vs : List Nat) (t : Tg) (elt : Den D) : List D → Den (List D)
  | [] => retD []
  | d :: ds => fun st => match setT t d st with
    | none => .stuck
    | some st2 => match elt st2 with
      | .ok y st3 => (match compGoX vs t elt ds (wipeD st3 vs) with
        | .ok ys st4 => .ok (y :: ys) st4
        | .exn c fs st4 => .exn c fs st4
        | .stuck => .stuck)
      | .exn c fs st3 => .exn c fs (wipeD st3 vs)
      | .stuck => .stuck
def dCompX (vs : List Nat) (t : Tg) (fi : Den (List D)) (elt : Den D) : Den (List D) := bindD fi fun ds => fun st =>
  if ds.length ≤ big ∧ vs.all (plainAt st) = true then
    match compGoX vs t elt ds (wipeD st vs) with
    | .ok ys st' => .ok ys (backD st st' vs)
    | .exn c fs st' => .exn c fs (backD st st' vs)
    | .stuck => .stuck
  else .stuck
def preX (acc : List D) : Res (List D) → Res (List D)
  | .ok ys st => .ok (acc ++ ys) st
  | .exn c fs st => .exn c fs st
  | .stuck => .stuck
section
variable {X : Cx} {g : G} {W : WX} {P : Par} {σ : L2.St} {H F : Hp} {st : DSt} {e : Expr}
theorem setT_len {t : Tg} {d : D} {st st' : DSt} (h : setT t d st = some st') : st'.length = st.length := by
  have this : ∀ is ds (st st' : DSt), setAll is ds st = some st' → st'.length = st.length := by
    intro is
    induction is with
    | nil => intro ds st st' e; cases ds with | nil => cases e; rfl | cons d ds => cases e
    | cons i is ih =>
      intro ds st st' e
      cases ds with
      | nil => cases e
      | cons d ds =>
        unfold setAll at e
        split at e
        · rename_i sti hsi
          obtain ⟨_, rfl⟩ := slotSet_some hsi
          rw [ih _ _ _ e, List.length_set]
        · cases e
  unfold setT at h
  cases t with
  | nm i => obtain ⟨_, rfl⟩ := slotSet_some h; rw [List.length_set]
  | nms is =>
    cases d with
    | tup ds => exact this _ _ _ _ h
    | _ => cases h
theorem compX_imp {vs : List Nat} {t : Tg} {fi : Den (List D)} {elt : Den D} {Q : VK} (hv : ∀ i ∈ t.is, i ∈ vs) (q : tN g W (dCompX vs t fi elt) σ H Q) :
    tLcX (tI g W fi) (tG g t) tYes (fun W' => tE g W' elt) W vs σ H Q := by
  obtain ⟨P, F, st, s, o⟩ := q
  refine ⟨P, F, st, s, o.bind.imp fun ds st1 H1 F1 le1 s1 o1 J wk D hD => ?_⟩
  split at o1
  · rename_i hc
    obtain ⟨hbig, hpl⟩ := hc
    generalize hwh : compGoX vs t elt ds (wipeD st1 vs) = wh at o1
    have ns : wh ≠ .stuck := fun z => by rw [z] at o1; exact o1
    refine ⟨fun i m H => m = ds.length - i ∧ i ≤ ds.length ∧ ∃ F' st' accV acc, Same F1 F' ∧ SR g (gd P D accV) (L2.wipe σ vs) H F' st' ∧ Rl g F' accV acc ∧ acc.length ≤ i ∧ st'.length = st1.length ∧
      wh = preX acc (compGoX vs t elt (ds.drop i) st'), ?_, ?_⟩
    · refine ⟨ds.length, by simp, Nat.zero_le _, F1, wipeD st1 vs, [], [], Same.refl _, ((s1.wipe vs).guard (o := .lst []) hD), .nil, Nat.zero_le _, wipeD_length _ _, ?_⟩
      rw [List.drop_zero, hwh]
      cases wh <;> rfl
    · rintro i m H2 ⟨rfl, hi, F', st', accV, acc, le, s', racc, hacc, hlen, hall⟩
      by_cases hlt : i < ds.length
      · obtain ⟨d0, hd0⟩ : ∃ d, ds[i]? = some d := ⟨ds[i], List.getElem?_eq_getElem hlt⟩
        have hdr : ds.drop i = d0 :: ds.drop (i + 1) := by
          rw [List.drop_eq_getElem_cons hlt]
          have := List.getElem?_eq_getElem hlt
          rw [hd0] at this; rw [← Option.some.inj this]
        rw [hdr] at hall
        refine .inr ⟨wk.go i H2 (le.trans s'.le) hlt, fun H => ∃ F' st' accV acc, Same F1 F' ∧ SR g (gd P D accV) (L2.wipe σ vs) H F' st' ∧ Rl g F' accV acc ∧ acc.length ≤ i + 1 ∧ st'.length = st1.length ∧
          wh = preX acc (compGoX vs t elt (ds.drop (i + 1)) st'), fun H' nx => ⟨ds.length - (i + 1), by omega, rfl, hlt, nx⟩, fun x H' y => ?_⟩
        obtain ⟨d, hd, yy⟩ := wk.yld i H2 x H' (le.trans s'.le) hlt y
        obtain ⟨F', le2, s', rd⟩ := s'.yl le yy
        have le := le.trans le2
        have racc := racc.mono le2
        rw [hd0] at hd; cases hd
        unfold compGoX at hall
        cases hset : setT t d0 st' with
        | none => rw [hset] at hall; exact absurd hall ns
        | some st2 =>
          rw [hset] at hall
          have a4 := setT_len hset
          refine ⟨gd P D accV, F', st', d0, s', rd, st2, hset, fun xs s2 => ⟨by rw [wipe_setσ hv, wipe_wipe], ?_⟩⟩
          have wp : ∀ {H' F' : Hp} {st3 : DSt}, SR g (gd P D accV) (setσ t.is xs (L2.wipe σ vs)) H' F' st3 → SR g (gd P D accV) (L2.wipe σ vs) H' F' (wipeD st3 vs) := fun {H' F' st3} s3 => by
            have := s3.wipe vs
            rw [wipe_setσ hv, wipe_wipe] at this
            exact this
          have lenW : ∀ {H' F' : Hp} {st3 : DSt}, SR g (gd P D accV) (setσ t.is xs (L2.wipe σ vs)) H' F' st3 → (wipeD st3 vs).length = st1.length := fun {H' F' st3} s3 => by
            rw [wipeD_length]
            have a1 := s3.len
            have a2 := s2.len
            omega
          simp only [tYes, if_true]
          refine ⟨gd P D accV, F', st2, s2, ?_⟩
          simp only at hall
          revert hall
          cases elt st2 with
          | ok y st4 =>
            intro hall H4 F4 le4 s4 v rv
            simp only at hall
            have hD4 := s4.guard_at
            have hb : big = sizeLine := big_eq
            refine ⟨accV, hD4, by rw [racc.length, ← hb]; omega, F4, wipeD st4 vs, accV ++ [v], acc ++ [y], le.trans le4, (wp s4).reguard, (racc.mono le4).append (.cons rv .nil), by simp; omega, lenW s4, ?_⟩
            rw [hall]
            cases compGoX vs t elt (ds.drop (i + 1)) (wipeD st4 vs) with
            | ok ys' st5 => simp [preX]
            | exn c fs st5 => rfl
            | stuck => rfl
          | exn c fs st4 =>
            intro hall cls dd H4 F4 le4 s4 rx
            have hall : wh = .exn c fs (wipeD st4 vs) := hall
            rw [hall] at o1
            have u := (wp s4).unguard s1 hD (le.trans le4) (lenW s4) hpl
            exact o1 cls dd H4 F4 (le.trans le4) u.sr rx
          | stuck => intro hall; exact absurd hall ns
      · have e : i = ds.length := by omega
        subst e
        rw [List.drop_length] at hall
        have hall : wh = .ok (acc ++ []) st' := hall
        refine .inl ⟨wk.stop H2 (le.trans s'.le), ?_⟩
        rw [hall] at o1
        rw [List.append_nil] at o1
        exact o1 H2 F' D accV le (s'.unguard s1 hD le hlen hpl) s'.guard_at racc
  · exact o1.elim
theorem ev_compX {vs : List Nat} {t : Tg} {fi : Den (List D)} {elt : Den D} (he : PE X e (tLcX (tI g W fi) (tG g t) tYes (fun W' => tE g W' elt) W vs)) (hv : ∀ i ∈ t.is, i ∈ vs := by decide) : PE X e (tN g W (dCompX vs t fi elt)) := he.imp fun _ _ _ q => compX_imp hv q
end
end DL
namespace DL
open PySem PySem.Spec PyProof.Rows L2
def mapX {α β : Type} (f : α → M β) : List α → M (List β)
  | [] => .ok []
  | x :: xs => M.bind (f x) fun y => M.bind (mapX f xs) fun ys => .ok (y :: ys)
def pMapX {α β : Type} (f : α → M β) (xs : List α) : M (List β) := if xs.length ≤ big then mapX f xs else .stuck
def compKX (vs : List Nat) (t : Tg) (elt : Den D) (ds : List D) : Den (List D) := fun st =>
  if ds.length ≤ big ∧ vs.all (plainAt st) = true then
    match compGoX vs t elt ds (wipeD st vs) with
    | .ok ys st' => .ok ys (backD st st' vs)
    | .exn c fs st' => .exn c fs (backD st st' vs)
    | .stuck => .stuck
  else .stuck
section
variable {α β : Type} {e : α → D} {e2 : β → D} {vs : List Nat} {t : Tg} {elt : Den D} {st : DSt}
theorem compGoX_map {f : α → M β} (st0 : DSt) (hb : ∀ x, ∃ st1 st3, setT t (e x) st0 = some st1 ∧ RE elt st1 (f x) e2 st3 ∧ wipeD st1 vs = st0 ∧ wipeD st3 vs = st0) : ∀ xs : List α, match mapX f xs with
    | .ok ys => compGoX vs t elt (xs.map e) st0 = .ok (ys.map e2) st0
    | .exn c fs => ∃ s, compGoX vs t elt (xs.map e) st0 = .exn c fs s
    | .stuck => True
  | [] => rfl
  | x :: xs => by
    obtain ⟨st1, st3, h1, h2, h3, h4⟩ := hb x
    have ih := compGoX_map st0 hb xs
    have un : ∀ r, compGoX vs t elt ((x :: xs).map e) st0 = r ↔ (match elt st1 with
        | .ok y st3 => (match compGoX vs t elt (xs.map e) (wipeD st3 vs) with
          | .ok ys st4 => Res.ok (y :: ys) st4
          | .exn c fs st4 => .exn c fs st4
          | .stuck => .stuck)
        | .exn c fs st3 => .exn c fs (wipeD st3 vs)
        | .stuck => .stuck) = r := fun r => by
      rw [List.map_cons]
      show (match setT t (e x) st0 with | none => _ | some st2 => _) = r ↔ _
      first
        | (rw [h1]; exact Iff.rfl)
        | rw [h1]
    simp only [mapX]
    cases hf : f x with
    | stuck => trivial
    | exn c fs =>
      rw [hf] at h2
      obtain ⟨s, hs⟩ := h2
      refine ⟨wipeD s vs, (un _).mpr ?_⟩
      rw [hs]
    | ok y =>
      rw [hf] at h2
      have h2 : elt st1 = .ok (e2 y) st3 := h2
      cases hm : mapX f xs with
      | stuck => trivial
      | exn c fs =>
        rw [hm] at ih
        obtain ⟨s, hs⟩ := ih
        refine ⟨s, (un _).mpr ?_⟩
        rw [h2]
        simp only
        rw [h4, hs]
      | ok ys =>
        rw [hm] at ih
        refine (un _).mpr ?_
        rw [h2]
        simp only
        rw [h4, ih]
        rfl
theorem re_compMX {xs : List α} {f : α → M β} (st0 : DSt) (hw : wipeD st vs = st0) (hp : vs.all (plainAt st) = true) (hbk : backD st st0 vs = st)
    (hb : ∀ x, ∃ st1 st3, setT t (e x) st0 = some st1 ∧ RE elt st1 (f x) e2 st3 ∧ wipeD st1 vs = st0 ∧ wipeD st3 vs = st0) : RE (compKX vs t elt (xs.map e)) st (pMapX f xs) (List.map e2) st := by
  have h := compGoX_map st0 hb xs
  unfold pMapX
  by_cases hl : xs.length ≤ big
  · rw [if_pos hl]
    unfold RE compKX
    have hc : (xs.map e).length ≤ big ∧ vs.all (plainAt st) = true := ⟨by simpa using hl, hp⟩
    cases hm : mapX f xs with
    | stuck => trivial
    | exn c fs =>
      rw [hm] at h
      obtain ⟨s, hs⟩ := h
      refine ⟨backD st s vs, ?_⟩
      rw [if_pos hc, hw, hs]
    | ok ys =>
      rw [hm] at h
      simp only [] at h ⊢
      rw [if_pos hc, hw, h]
      simp only []
      rw [hbk]
  · rw [if_neg hl]; trivial
end
end DL
namespace DL
open PySem PySem.Spec PyProof.Rows L2
def issB (K : PySem.W.Frag) (c : Str) : Bool := decide (PySem.W.kitOne K (.ref (He.ga K c)) (.type "str") = some false)
@[simp] def opIsS (c : Str) : D → Option D
  | .ins c' _ _ => if c' = c then some (.bl false) else none
  | d => opIsi "str" d
theorem vo_isS {g : G} {c : Str} {C : Addr} (f : IsF g c C) (hs : PySem.W.kitOne g.K (.ref C) (.type "str") = some false) : VO1 g (fun v => rIsi g.K [v, .ty "str"]) (opIsS c) := by
  intro H F v d z l rd hz Q q
  have other : opIsi "str" d = some z → rIsi g.K [v, .ty "str"] H Q := fun hz => vo_isi (by decide) H F v d z l rd hz Q q
  cases d with
  | ins c' ns ds =>
    simp only [opIsS] at hz
    split at hz
    · rename_i hc
      cases hz
      subst hc
      rcases rd with rd | ⟨_, _, _, _, e, _⟩
      · cases rd with
        | ins h1 h2 h3 h4 =>
          rw [f.gC] at h2
          cases h2
          exact ⟨_, .ty "str", .ref C, .type "str", false, rfl, .ty "str", .base (.ins (l _ _ h1) f.cl f.ha f.hn f.htk f.hm), hs, q _ _ _ (Grow.refl l) (.bl _)⟩
      · cases e
    · cases hz
  | non => exact other hz
  | bl _ => exact other hz
  | int _ => exact other hz
  | str _ => exact other hz
  | lst _ => exact other hz
  | tup _ => exact other hz
  | scr _ => exact other hz
  | kt _ => exact other hz
section
variable {X : Cx} {g : G} {W : WX} {e : Expr} {f : Den D}
theorem ev_isS {c : Str} {C : Addr} (k : IsF g c C) (hs : PySem.W.kitOne g.K (.ref C) (.type "str") = some false) (he : PE X e (tCB (rIsi g.K) (tCons (tE g W f) (tCons (tC (.ty "str")) tNil)))) : PE X e (tE g W (dOp1 (opIsS c) f)) := he.imp fun σ H Q ⟨P, F, st, s, o⟩ =>
  ⟨P, F, st, s, o.bind.imp fun x st1 H1 F1 le1 s1 o1 v rx => fin1 (vo_isS k hs) s1 (.inl rx) o1⟩
end
def pIsS (c : Str) (x : D) : M Bool := match opIsS c x with | some (.bl b) => .ok b | _ => .stuck
theorem op_isSD {c : Str} {x : D} : OP (opIsS c x) (pIsS c x) eB := by
  unfold pIsS
  split
  · rename_i b h; rw [h]; exact rfl
  · trivial
end DL
namespace DL
open PySem PySem.Spec PyProof.Rows L2
@[simp] def opRev : D → Option D
  | .lst xs => some (.lst xs.reverse)
  | .tup xs => some (.tup xs.reverse)
  | _ => none
section
variable {X : Cx} {g : G} {W : WX} {e : Expr} {f : Den D}
theorem Rl.reverse {F : Hp} : ∀ {vs : List V} {ds : List D}, Rl g F vs ds → Rl g F vs.reverse ds.reverse
  | [], _, .nil => .nil
  | v :: vs, _, .cons h1 h2 => by
    rw [List.reverse_cons, List.reverse_cons]
    exact (Rl.reverse h2).append (.cons h1 .nil)
end
end DL
namespace DL
open PySem PySem.Spec PyProof.Rows L2
end DL
namespace DL
open PySem PySem.Spec PySem.W PyProof.Rows L2
end DL
namespace DL
open PySem PySem.Spec PyProof.Rows L2 GenW
/-- the code runs till it ends or hands something out; then Z holds -/
def Go1 (m : Model) (A : Around) (Z : End → Shared → Prop) (c : Code) (t : Sem PySem.Fin) (fs : List Frame) (s : Shared) : Prop :=
  ∀ Γ p, Γ.code = c → Γ.Woken A → ∃ e s', Runs m Γ p t fs s e s' ∧ Z e s'
end DL
namespace DL
open PySem PySem.Spec PyProof.Rows L2 GenW
def hid (n : Nat) (st : DSt) : List D := match st[n]? with | some (.gy ys) => ys | _ => []
def isGy (n : Nat) (st : DSt) : Bool := match st[n]? with | some (.gy _) => true | _ => false
/-- what is fixed for one generator -/
structure GF where
  P : Program
  w : World
  env : Env
  A : Around
  Aw : Around
  mem : Cx → Prop
  g : G
  n : Nat
  all : List D
  hP : ∀ X, mem X → X.prog = P
  hw : ∀ X, mem X → X.w = w
  he : ∀ X, mem X → X.env = env
  hA : ∀ X, mem X → X.A = A
  own : ∀ X, mem X → PassesOwn (model X.prog X.w) X.A X.env X.xe
/-- m things are still to come; what was told at the last wake: P, F, X -/
def ZN (T : GF) : Nat → Par → Hp → Cx → End → Shared → Prop
  | 0, P, F, X => fun e s => ∃ r, e = .ret r ∧ (r = .ok (.ret .none) ∨ r = .ok .next) ∧ ∃ σ H F1 st, T.mem X ∧ Inv X [] σ H s ∧ SR T.g P σ H F1 st ∧ Same F F1
  | m + 1, P, F, X => fun e s => ∃ v b l k c p fs σ H F1 st x d, e = .susp v b l k c p fs ∧ e.quiet = true ∧ T.mem X ∧ Inv X [] σ H s ∧ SR T.g P σ H F1 st ∧ Same F F1 ∧ T.all[T.all.length - (m + 1)]? = some d ∧ RelV x v ∧ Rv T.g F1 x d ∧
      ∀ X' P' H' F' s', T.mem X' → Inv X' [] σ H' s' → SR T.g P' σ H' F' st → Go1 (model T.P T.w) T.Aw (ZN T m P' F' X') c (k (.send .none)) fs s'
theorem ZN.weak {T : GF} {P : Par} {F F' : Hp} {X : Cx} (h : Same F F') : ∀ {m : Nat} {e : End} {s : Shared}, ZN T m P F' X e s → ZN T m P F X e s
  | 0, e, s, ⟨r, h1, h2, σ, H, F1, st, a, b, c, d⟩ => ⟨r, h1, h2, σ, H, F1, st, a, b, c, h.trans d⟩
  | m + 1, e, s, ⟨v, b, l, k, c, p, fs, σ, H, F1, st, x, d, h1, h2, h3, h4, h5, h6, r⟩ => ⟨v, b, l, k, c, p, fs, σ, H, F1, st, x, d, h1, h2, h3, h4, h5, h.trans h6, r⟩
theorem ZN.quiet {T : GF} {P : Par} {F : Hp} {X : Cx} {m : Nat} {e : End} {s : Shared} (h : ZN T m P F X e s) : e.quiet = true := by
  cases m with
  | zero => obtain ⟨r, rfl, _⟩ := h; rfl
  | succ m => obtain ⟨v, b, l, k, c, p, fs, σ, H, F1, st, x, d, h1, h2, _⟩ := h; exact h2
def flowOf : Fl → Option Flow
  | .nx => some .next
  | .brk => some .brk
  | .cnt => some .cont
  | .ret _ => none
/-- the slot only grows -/
def Mono (n : Nat) (den : DS) : Prop := ∀ st fl st', isGy n st = true → den st = .ok fl st' → isGy n st' = true ∧ ∃ zs, hid n st' = hid n st ++ zs
/-- .. or stays -/
def Keeps (n : Nat) (den : DS) : Prop := ∀ st fl st', den st = .ok fl st' → st'[n]? = st[n]?
theorem Keeps.mono {n : Nat} {den : DS} (h : Keeps n den) : Mono n den := fun st fl st' hg e => by
  have := h st fl st' e
  unfold isGy hid at *
  rw [this]
  exact ⟨hg, [], by simp⟩
section
variable {T : GF} {a b : DS} {n : Nat}
theorem Mono.seq (ha : Mono n a) (hb : Mono n b) : Mono n (sSeq a b) := fun st fl st' hg e => by
  unfold sSeq at e
  cases q : a st with
  | ok f1 s1 =>
    rw [q] at e
    obtain ⟨g1, z1, e1⟩ := ha st f1 s1 hg q
    cases f1 with
    | nx =>
      obtain ⟨g2, z2, e2⟩ := hb s1 fl st' g1 e
      exact ⟨g2, z1 ++ z2, by rw [e2, e1, List.append_assoc]⟩
    | brk => cases e; exact ⟨g1, z1, e1⟩
    | cnt => cases e; exact ⟨g1, z1, e1⟩
    | ret d => cases e; exact ⟨g1, z1, e1⟩
  | exn c f s1 => rw [q] at e; cases e
  | stuck => rw [q] at e; cases e
end
end DL
namespace DL
open PySem PySem.Spec PyProof.Rows L2 GenW
end DL
namespace DL
open PySem PySem.Spec PyProof.Rows L2 GenW
section
variable {T : GF}
theorem SR.gy {g : G} {P : Par} {σ : L2.St} {H F : Hp} {st : DSt} {n : Nat} {ds : List D} (s : SR g P σ H F st) (h : st[n]? = some (.gy ds)) : ∃ vs, Rl g F vs ds := by
  obtain ⟨O, c⟩ := s
  have hn : n < σ.length := by rw [c.len]; exact (List.getElem?_eq_some_iff.mp h).1
  exact c.sl n _ _ h (List.getElem?_eq_getElem hn)
end
end DL
namespace DL
open PySem PySem.Spec PyProof.Rows L2 GenW
/-- what may happen meanwhile -/
structure Nap (L : Addr) (H H' : Hp) (s s' : Shared) : Prop where
  os : s'.os = s.os
  bare : AllBare s'.gens
  keep : ∀ b o, b ≠ L → s.heap.get? b = some o → H b = none → s'.heap.get? b = some o
  there : ∀ b o, s.heap.get? b = some o → ∃ o', s'.heap.get? b = some o'
  free : ∀ b o, s.heap.get? b = some o → H b = none → H' b = none
  tups : ∀ b xs, H b = some (.tup xs) → H' b = some (.tup xs)
  frzs : ∀ b o u, H b = some (.frz o u) → H' b = some (.frz o u)
  tbls : ∀ b ps, H b = some (.tbl ps) → ∃ more, H' b = some (.tbl (ps ++ more))
end DL
namespace DL
open PySem PySem.Spec PyProof.Rows L2 GenW
end DL
namespace DL
open PySem PySem.Spec PyProof.Rows L2 GenW
section
variable {g : G} {Pc P' : Par} {Oc Og : Addr → Option Nat} {σc σg : L2.St} {H F H1 F1 : Hp} {stc stg : DSt}
/-- what the caller has, when it wakes the generator with P' -/
structure Holds (P' Pc : Par) (Oc : Addr → Option Nat) (H : Hp) : Prop where
  r : ∀ a o, H a = some o → (Oc a ≠ none ∨ Pc.R a ≠ none ∨ Pc.N a) → P'.R a = some o
  n : ∀ a, (Oc a ≠ none ∨ Pc.N a) → P'.N a
end
end DL
namespace DL
open PySem PySem.Spec PyProof.Rows L2 GenW
end DL
namespace DL
open PySem PySem.Spec PyProof.Rows L2 GenW
end DL
namespace DL
open PySem PySem.Spec PyProof.Rows L2 GenW
theorem Nap.eqv {L : Addr} {H H' : Hp} {s s1 s2 : Shared} (n : Nap L H H' s s1) (hh : s2.heap = s1.heap) (ho : s2.os = s1.os) (hb : AllBare s2.gens) : Nap L H H' s s2 :=
  ⟨ho.trans n.os, hb, fun b o h1 h2 h3 => by rw [hh]; exact n.keep b o h1 h2 h3, fun b o h => by rw [hh]; exact n.there b o h, n.free, n.tups, n.frzs, n.tbls⟩
theorem Nap.andThen {L : Addr} {H H1 H2 : Hp} {s s1 s2 : Shared} (n : Nap L H H1 s s1) (n2 : Nap L H1 H2 s1 s2) : Nap L H H2 s s2 := by
  refine ⟨n2.os.trans n.os, n2.bare, fun b o h1 h2 h3 => n2.keep b o h1 (n.keep b o h1 h2 h3) (n.free b o h2 h3), fun b o h => ?_, fun b o h1 h2 => ?_, fun b xs h => n2.tups b xs (n.tups b xs h), fun b o u h => n2.frzs b o u (n.frzs b o u h), fun b ps h => ?_⟩
  · obtain ⟨o1, h1⟩ := n.there b o h
    exact n2.there b o1 h1
  · obtain ⟨o1, h3⟩ := n.there b o h1
    exact n2.free b o1 h3 (n.free b o h1 h2)
  · obtain ⟨m1, h1⟩ := n.tbls b ps h
    obtain ⟨m2, h2⟩ := n2.tbls b _ h1
    exact ⟨m1 ++ m2, by rw [h2, Array.append_assoc]⟩
theorem Nap.kept {L : Addr} {H : Hp} {s s' : Shared} (ho : s'.os = s.os) (hb : AllBare s'.gens) (k : ∀ b o, s.heap.get? b = some o → s'.heap.get? b = some o) : Nap L H H s s' :=
  ⟨ho, hb, fun b o _ h _ => k b o h, fun b o h => ⟨o, k b o h⟩, fun _ _ _ h => h, fun _ _ h => h, fun _ _ _ h => h, fun b ps h => ⟨#[], by rw [h]; simp⟩⟩
end DL
namespace DL
open PySem PySem.Spec PyProof.Rows L2 GenW
end DL
namespace DL
open PySem PySem.Spec PyProof.Rows L2
@[simp] def opAddI : D → D → Option D
  | .int i, .int j => some (.int (i + j))
  | _, _ => none
/-- a name that holds a whole number -/
@[simp] def dInt (i : Nat) : Den D := fun st => match st[i]? with
  | some (.sh (.int a)) => .ok (.int a) st
  | _ => .stuck
@[simp] def rngD3 : D → D → D → Option (List D)
  | .int m, .int n, .int c => if c = -1 ∧ m.natAbs ≤ big ∧ n.natAbs ≤ big then some ((List.range (m - n).toNat).map fun k => D.int (m - (k : Nat))) else none
  | _, _, _ => none
@[simp] def dRng3 (f h k : Den D) : Den (List D) := bindD f fun x => bindD h fun y => bindD k fun z => liftO (rngD3 x y z)
end DL
namespace DL
open PySem PySem.Spec PyProof.Rows L2 GenW
end DL
namespace DL
open PySem PySem.Spec PyProof.Rows L2 GenW
end DL
namespace DL
open PySem PySem.Spec PyProof.Rows L2
end DL
namespace DL
open PySem PySem.Spec PyProof.Rows L2 GenW
def KSt (n : Nat) (b : DS) : Prop := ∀ st fl st', b st = .ok fl st' → st'[n]? = st[n]? ∧ (flowOf fl).isSome = true
section
variable {α β : Type} {n i : Nat} {a : Den α} {k : α → Den β} {ka : α → DS} {b c : DS}
theorem KSt.keeps (h : KSt n b) : Keeps n b := fun st fl st' e => (h st fl st' e).1
end
end DL
namespace DL
open PySem PySem.Spec PyProof.Rows L2 GenW
end DL
namespace DL
open PySem PySem.Spec PyProof.Rows L2
end DL
namespace DL
open PySem PySem.Spec PyProof.Rows L2
@[simp] def zipD : D → D → Option (List D)
  | .tup xs, .tup ys => some (List.zipWith (fun a b => D.tup [a, b]) xs ys)
  | _, _ => none
@[simp] def dZip (f h : Den D) : Den (List D) := bindD f fun x => bindD h fun y => liftO (zipD x y)
end DL
namespace DL
open PySem PySem.Spec PyProof.Rows L2
/-- the numbers of a known tuple; of the empty tuple -/
@[simp] def numsK : D → Option (List Int)
  | .kt ns => some ns
  | .tup [] => some []
  | _ => none
@[simp] def opCatK (x y : D) : Option D := match numsK x, y with
  | some ns, .int i => if ns.length + 1 ≤ big then some (.kt (ns ++ [i])) else none
  | _, _ => none
/-- x + (y,) -/
@[simp] def dCatK (f h : Den D) : Den D := bindD f fun x => bindD h fun y => liftO (opCatK x y)
@[simp] def opIxK : D → D → Option D
  | .kt ns, .int i => atI (ns.map D.int) i
  | x, y => opIx x y
@[simp] def isKt : D → Option Unit
  | .kt _ => some ()
  | _ => none
@[simp] def opIndexK (x y : D) : Option D := match x with
  | .kt ns => opIndexT (.tup (ns.map D.int)) y
  | _ => none
@[simp] def dIndexK (i : Nat) (h : Den D) : Den D := bindD (dRd i) fun k => bindD (liftO (isKt k)) fun _ => bindD h fun y => bindD (dRd i) fun x => liftO (opIndexK x y)
@[simp] def itemsK (d : D) : Option (List D) := match numsK d with
  | some ns => some (ns.map D.int)
  | none => none
@[simp] def dItemsK (f : Den D) : Den (List D) := bindD f fun d => liftO (itemsK d)
section
variable {X : Cx} {g : G} {W : WX} {P : Par} {σ : L2.St} {H F : Hp} {st : DSt} {e : Expr} {f h : Den D}
theorem Br.kt {v : V} {ns : List Int} (le : Same F H) (r : Br g F H v (.kt ns)) : ∃ a o, v = .ref a ∧ H a = some (.frz o (.tup (ns.map V.int))) ∧ KnO o ∧ Rv g F v (.kt ns) := by
  rcases r with r | ⟨_, _, _, _, z, _⟩
  · cases r with
    | kt h k => exact ⟨_, _, rfl, le _ _ h, k, .kt h k⟩
  · cases z
end
end DL
namespace DL
open PySem PySem.Spec PyProof.Rows L2
section
variable {g : G} {W : WX} {P : Par} {σ : L2.St} {H F : Hp} {st : DSt}
@[simp] def dRkK (i : Nat) : Den (List (Int × D)) := fun st => match st[i]? with
  | some (.rk 0 kvs) => .ok kvs st
  | _ => .stuck
@[simp] def setRk (i : Nat) (kvs : List (Int × D)) : Den Unit := fun st => match st[i]? with
  | some (.rk 0 _) => .ok () (st.set i (.rk 0 kvs))
  | _ => .stuck
@[simp] def dLkK (i : Nat) : Den (List (Int × D)) := fun st => match st[i]? with
  | some (.lk kvs) => .ok kvs st
  | _ => .stuck
theorem SR.rk {i : Nat} {kvs : List (Int × D)} (s : SR g P σ H F st) (hd : st[i]? = some (.rk 0 kvs)) : ∃ a vs, σ[i]? = some (some (.ref a)) ∧ P.B[0]? = some a ∧ H a = some (hK kvs vs) ∧ Rl g F vs (kvs.map Prod.snd) ∧ F a = none ∧ P.R a = none ∧
    ∀ (H' F' : Hp) (vs' : List V) (kvs' : List (Int × D)), Same F F' → Same F' H' → (∀ b, NT H b → F b = none → F' b = none) → (∀ b o, b ≠ a → H b = some o → H' b = some o) → H' a = some (hK kvs' vs') → F' a = none → Rl g F' vs' (kvs'.map Prod.snd) →
      SR g P σ H' F' (st.set i (.rk 0 kvs')) := by
  obtain ⟨ov, hov⟩ := SRc.nth s hd
  obtain ⟨O, c⟩ := s
  have q0 := c.sl i _ _ hd hov
  have hi : i < st.length := lt_of_get hd
  obtain ⟨a, vs, rfl, hb, ho, hn, ha, r⟩ := q0
  refine ⟨a, vs, hov, hb, ha, r, (c.oo a i ho).1, (c.oo a i ho).2.1, fun H' F' vs' kvs' sf sfh nf sh hva fa rr => ⟨O, sfh, fun b o e => ?_, fun b j e => ?_, fun b n => ?_, by rw [List.length_set]; exact c.len, fun j s ov e1 e2 => ?_⟩⟩
  · have hb : b ≠ a := fun z => by rw [z, (c.oo a i ho).2.1] at e; cases e
    exact sh b o hb (c.rr _ _ e)
  · refine ⟨nf b (c.oo b j e).2.2 (c.oo b j e).1, (c.oo b j e).2.1, ?_⟩
    by_cases hb : b = a
    · subst hb; exact NT.of hva fun xs z => by cases z
    · exact NT.move (c.oo b j e).2.2 fun u hu => sh b u hb hu
  · refine ⟨nf b (c.no b n).2 (c.no b n).1, ?_⟩
    by_cases hb : b = a
    · subst hb; exact NT.of hva fun xs z => by cases z
    · exact NT.move (c.no b n).2 fun u hu => sh b u hb hu
  · by_cases hj : j = i
    · subst hj
      rw [List.getElem?_set_self hi] at e1
      cases e1
      rw [hov] at e2; cases e2
      exact ⟨a, vs', rfl, hb, ho, hn, hva, rr⟩
    · rw [List.getElem?_set_ne (Ne.symm hj)] at e1
      exact (c.sl j s ov e1 e2).move rfl (fun _ h => h) sf (fun b o ho' h => sh b o (fun z => hj (by rw [z, ho] at ho'; exact (Option.some.inj ho').symm)) h) fun _ _ h => h
end
section
variable {X : Cx} {g : G} {W : WX} {P : Par} {σ : L2.St} {H F : Hp} {st : DSt} {e : Expr} {s : Stmt} {f h : Den D}
@[simp] def dDlenR (i : Nat) : Den D := bindD (dRkK i) fun kvs => retD (.int kvs.length)
@[simp] def sDPutR (i : Nat) (k v : Den D) : DS := bindD v fun x => bindD (dRkK i) fun _ => bindD k fun y => bindD (dRkK i) fun kvs => match keyK y with
  | some q => if kvs.length < big then bindD (setRk i (putA kvs q x)) fun _ => retD .nx else fun _ => .stuck
  | none => fun _ => .stuck
@[simp] def sDDelR (i : Nat) (k : Den D) : DS := bindD (dRkK i) fun _ => bindD k fun y => bindD (dRkK i) fun kvs => match keyK y with
  | some q => if (getA kvs q).isSome = true then bindD (setRk i (kvs.filter fun p => decide (p.1 ≠ q))) fun _ => retD .nx else fun _ => .stuck
  | none => fun _ => .stuck
/-- f(x1, x2, x3, d, x5) -/
@[simp] def dCallL (df : List D → List (Int × D) → List D → M D) (f1 f2 f3 : Den D) (i : Nat) (f5 : Den D) : Den D := bindD f1 fun d1 => bindD f2 fun d2 => bindD f3 fun d3 => bindD (dLkK i) fun _ => bindD f5 fun d5 => bindD (dLkK i) fun kvs => liftM' (match df [d1, d2, d3] kvs [d5] with | .ok d => .ok d | _ => .stuck)
theorem SR.lk {i : Nat} {kvs : List (Int × D)} (s : SR g P σ H F st) (hd : st[i]? = some (.lk kvs)) : ∃ a od vs, σ[i]? = some (some (.ref a)) ∧ F a = some (.frz od (hK kvs vs)) ∧ Rl g F vs (kvs.map Prod.snd) := by
  obtain ⟨ov, hov⟩ := SRc.nth s hd
  obtain ⟨O, c⟩ := s
  obtain ⟨a, od, vs, rfl, h1, r⟩ := c.sl i _ _ hd hov
  exact ⟨a, od, vs, hov, h1, r⟩
/-- f(x1, .., x4, d) -/
@[simp] def dCallD (df : List D → List (Int × D) → M (D × List (Int × D))) (f1 f2 f3 f4 : Den D) (i : Nat) : Den D := bindD f1 fun d1 => bindD f2 fun d2 => bindD f3 fun d3 => bindD f4 fun d4 => bindD (dRkK i) fun kvs => bindD (liftM' (match df [d1, d2, d3, d4] kvs with | .ok r => .ok r | _ => .stuck)) fun r => bindD (setRk i r.2) fun _ => retD r.1
/-- f(x1, .., x4, {}) -/
@[simp] def dCallN (df : List D → List (Int × D) → M (D × List (Int × D))) (f1 f2 f3 f4 : Den D) : Den D := bindD f1 fun d1 => bindD f2 fun d2 => bindD f3 fun d3 => bindD f4 fun d4 => bindD (liftM' (match df [d1, d2, d3, d4] [] with | .ok r => .ok r | _ => .stuck)) fun r => retD r.1
end
end DL
namespace DL
open PySem PySem.Spec L2
end DL
namespace DL
open PySem PySem.Spec PySem.W PyProof.Rows L2
end DL
namespace DL
open PySem PySem.Spec PyProof.Rows L2
def primV : D → Option V
  | .non => some .non
  | .bl b => some (.bl b)
  | .int i => some (.int i)
  | .str z => some (.str z)
  | _ => none
theorem rv_prim {g : G} {F : Hp} {d : D} {v : V} (h : primV d = some v) : Rv g F v d := by
  cases d <;> cases h
  · exact .non
  · exact .bl _
  · exact .int _
  · exact .str _
def fnStarts (a b : Str) : Option D := some (.bl (Txt.startswith a b))
def rSS (fn : Str → Str → Option D) : V → List V → Hp → VK → Prop := fun x xs H Q => ∃ a b d v, x = .str a ∧ xs = [.str b] ∧ fn a b = some d ∧ primV d = some v ∧ Q v H
def opSS (fn : Str → Str → Option D) : D → D → Option D
  | .str a, .str b => match fn a b with
    | some d => if (primV d).isSome = true then some d else none
    | none => none
  | _, _ => none
@[simp] def dSS (fn : Str → Str → Option D) (f h : Den D) : Den D := bindD f fun x => bindD (liftO (isStrD x)) fun _ => bindD h fun y => liftO (opSS fn x y)
def opZf : D → D → Option D
  | .str a, .int i => if PadOk i = true then some (.str (Txt.zfill a i)) else none
  | _, _ => none
@[simp] def dZf (f h : Den D) : Den D := bindD f fun x => bindD (liftO (isStrD x)) fun _ => bindD h fun y => liftO (opZf x y)
def opPartn : D → D → Option D
  | .str a, .str b => if (b.length == 0) = false ∧ a.length ≤ big then some (.tup [.str (Txt.partition a b).1, .str (Txt.partition a b).2.1, .str (Txt.partition a b).2.2]) else none
  | _, _ => none
@[simp] def dPartn (f h : Den D) : Den D := bindD f fun x => bindD (liftO (isStrD x)) fun _ => bindD h fun y => liftO (opPartn x y)
def rPartn : V → List V → Hp → VK → Prop := fun x xs H Q => ∃ a b, x = .str a ∧ xs = [.str b] ∧ (b.length == 0) = false ∧ a.length ≤ sizeLine ∧
  ∀ p, H p = none → Q (.ref p) (upd H p (.tup [.str (Txt.partition a b).1, .str (Txt.partition a b).2.1, .str (Txt.partition a b).2.2]))
def nSplit : D → D → Option (List D)
  | .str a, .str b => if (b.length == 0) = false ∧ a.length + 2 ≤ big then some ((Txt.split a b).map D.str) else none
  | _, _ => none
@[simp] def dSplit (f h : Den D) : Den (List D) := bindD f fun x => bindD (liftO (isStrD x)) fun _ => bindD h fun y => liftO (nSplit x y)
def rSplit : V → List V → Hp → VK → Prop := fun x xs H Q => ∃ a b, x = .str a ∧ xs = [.str b] ∧ (b.length == 0) = false ∧ a.length + 2 ≤ sizeLine ∧ rNewStrs (Txt.split a b) H Q
section
variable {X : Cx} {g : G} {W : WX} {P : Par} {σ : L2.St} {H F : Hp} {st : DSt} {e : Expr} {f h : Den D}
theorem mt_ssStarts : MtR X "str.startswith" (rSS fnStarts) := fun pins s σ H x xs v us Q I rx rs ⟨a, b, d, v', e1, e2, e3, e4, q⟩ => mt_startswith pins s σ H x xs v us Q I rx rs ⟨a, b, e1, e2, by
  cases e3; cases e4; exact q⟩
theorem ev_SS {fn : Str → Str → Option D} (he : PE X e (tM1 (rSS fn) (tE g W f) (tE g W h))) : PE X e (tE g W (dSS fn f h)) := he.imp fun σ H Q ⟨P, F, st, s, o⟩ =>
  ⟨P, F, st, s, o.bind.imp fun x st1 H1 F1 le1 s1 o1 v rx => by
    obtain ⟨u0, hx, q⟩ := Out.lift o1.bind
    cases x with
    | str a =>
      cases rx
      refine ⟨⟨a, rfl⟩, P, F1, st1, s1, Out.imp (Out.bind (q H1 F1 (Same.refl _) s1)) fun y st2 H2 F2 le2 s2 o2 u ry => ?_⟩
      obtain ⟨z, ez, q⟩ := o2.lift
      have q := q H2 F2 (Same.refl _) s2
      cases y with
      | str b =>
        cases ry
        unfold opSS at ez
        simp only at ez
        split at ez
        · rename_i d hd
          split at ez
          · rename_i hp
            cases ez
            obtain ⟨v, hv⟩ := Option.isSome_iff_exists.mp hp
            exact ⟨a, b, _, v, rfl, rfl, hd, hv, q _ (rv_prim hv)⟩
          · cases ez
        · cases ez
      | _ => cases ez
    | _ => cases hx⟩
theorem ev_Partn (tk : g.tk = false) (he : PE X e (tM1 rPartn (tE g W f) (tE g W h))) : PE X e (tE g W (dPartn f h)) := he.imp fun σ H Q ⟨P, F, st, s, o⟩ =>
  ⟨P, F, st, s, o.bind.imp fun x st1 H1 F1 le1 s1 o1 v rx => by
    obtain ⟨u0, hx, q⟩ := Out.lift o1.bind
    cases x with
    | str a =>
      cases rx
      refine ⟨⟨a, rfl⟩, P, F1, st1, s1, Out.imp (Out.bind (q H1 F1 (Same.refl _) s1)) fun y st2 H2 F2 le2 s2 o2 u ry => ?_⟩
      obtain ⟨z, ez, q⟩ := o2.lift
      cases y with
      | str b =>
        cases ry
        unfold opPartn at ez
        simp only at ez
        split at ez
        · rename_i hp
          cases ez
          refine ⟨a, b, rfl, rfl, hp.1, by rw [← big_eq]; exact hp.2, fun p hpn => ?_⟩
          have gr := Grow.new (o := .tup [.str (Txt.partition a b).1, .str (Txt.partition a b).2.1, .str (Txt.partition a b).2.2]) s2.le hpn
          exact q _ _ gr.f (s2.grow gr) _ (.tup (.inl (.inl upd_same)) (by unfold TkP; rw [tk]; exact upd_same) (.cons (.str _) (.cons (.str _) (.cons (.str _) .nil))))
        · cases ez
      | _ => cases ez
    | _ => cases hx⟩
theorem rl_strs : ∀ ys : List Str, Rl g F (ys.map V.str) (ys.map D.str)
  | [] => .nil
  | y :: ys => .cons (.str y) (rl_strs ys)
theorem ev_split (he : PE X e (tM1 rSplit (tE g W f) (tE g W h))) : PE X e (tN g W (dSplit f h)) := he.imp fun σ H Q ⟨P, F, st, s, o⟩ =>
  ⟨P, F, st, s, o.bind.imp fun x st1 H1 F1 le1 s1 o1 v rx => by
    obtain ⟨u0, hx, q⟩ := Out.lift o1.bind
    cases x with
    | str a =>
      cases rx
      refine ⟨⟨a, rfl⟩, P, F1, st1, s1, Out.imp (OutN.bind (q H1 F1 (Same.refl _) s1)) fun y st2 H2 F2 le2 s2 o2 u ry => ?_⟩
      cases ez : nSplit (D.str a) y with
      | none => rw [ez] at o2; exact o2.elim
      | some zs =>
        rw [ez] at o2
        cases y with
        | str b =>
          cases ry
          unfold nSplit at ez
          simp only at ez
          split at ez
          · rename_i hp
            cases ez
            exact ⟨a, b, rfl, rfl, hp.1, by rw [← big_eq]; exact hp.2, fun p hpn => o2 _ F2 p _ (Same.refl _) (s2.newx hpn) upd_same (rl_strs _)⟩
          · cases ez
        | _ => cases ez
    | _ => cases hx⟩
def opIntS : D → Option D
  | .str z => if z.length ≤ 640 then (PySem.intText? z).map D.int else none
  | _ => none
theorem vo_intS : VOC g (fun xs H Q => ∃ a n, xs = [.str a] ∧ PySem.intText? a = some n ∧ a.length ≤ 640 ∧ Q (.int n) H) opIntS := by
  intro H F v d z l rd h Q q
  unfold opIntS at h
  split at h
  · split at h
    · rename_i hz
      cases ht : PySem.intText? ‹_› with
      | none => rw [ht] at h; cases h
      | some n =>
        rw [ht] at h
        cases h
        cases rd.str
        exact ⟨_, n, rfl, ht, hz, q _ _ _ (Grow.refl l) (.int _)⟩
    · cases h
  · cases h
def opFmt : D → Option D
  | .str z => if z.length ≤ big then some (.str z) else none
  | .int i => if i.natAbs.log2 < 1920 then some (.str (toString i : String)) else none
  | _ => none
theorem ev_fmt (he : PE X e (tFmt (tE g W f))) : PE X e (tE g W (dOp1 opFmt f)) := he.imp fun σ H Q ⟨P, F, st, s, o⟩ =>
  ⟨P, F, st, s, o.bind.imp fun x st1 H1 F1 le1 s1 o1 v rx => by
    obtain ⟨z, ez, q⟩ := o1.lift
    have q := q H1 F1 (Same.refl _) s1
    unfold opFmt at ez
    split at ez
    · split at ez
      · rename_i hl
        cases ez; cases rx
        exact .inl ⟨_, rfl, by rw [← big_eq]; exact hl, q _ (.str _)⟩
      · cases ez
    · split at ez
      · rename_i hl
        cases ez; cases rx
        exact .inr ⟨_, rfl, hl, q _ (.str _)⟩
      · cases ez
    · cases ez⟩
/-- the parts behind what stands already -/
def joinS : List (Den D) → Str → Den D
  | [], acc => retD (.str acc)
  | f :: fs, acc => bindD f fun d => match d with
    | .str y => if (acc ++ y).length ≤ big then joinS fs (acc ++ y) else fun _ => .stuck
    | _ => fun _ => .stuck
def dFStr (fs : List (Den D)) : Den D := joinS fs Str.empty
inductive PJd (X : Cx) (g : G) (W : WX) : List Expr → List (Den D) → Prop where
  | nil : PJd X g W [] []
  | cons {e : Expr} {f : Den D} {es : List Expr} {fs : List (Den D)} (h : PE X e (tE g W f)) (r : PJd X g W es fs) : PJd X g W (e :: es) (f :: fs)
theorem PJd.pj {es : List Expr} {fs : List (Den D)} (h : PJd X g W es fs) : PJ X es (fs.map (tE g W)) := by
  induction h with
  | nil => exact .nil
  | cons h r ih => exact .cons h ih
theorem joinS_ok : ∀ {fs : List (Den D)} {acc : Str} {st : DSt} {P : Par} {H F : Hp} {Q : VK}, SR g P σ H F st → Out g W P σ F (joinS fs acc st) (fun d _ H' F' => ∀ v, Rv g F' v d → Q v H') → tJs (fs.map (tE g W)) acc σ H fun out H1 => Q (.str out) H1
  | [], acc, st, P, H, F, Q, s, o => o H F (Same.refl _) s _ (.str _)
  | f :: fs, acc, st, P, H, F, Q, s, o => ⟨P, F, st, s, o.bind.imp fun d st1 H1 F1 le1 s1 o1 v rv => by
    cases d with
    | str y =>
      cases rv
      simp only at o1
      split at o1
      · rename_i hl
        exact ⟨y, rfl, by rw [← big_eq]; exact hl, joinS_ok s1 o1⟩
      · exact o1.elim
    | _ => exact o1.elim⟩
theorem ev_fstr {fs : List (Den D)} (he : PE X e (fun σ H Q => tJs (fs.map (tE g W)) Str.empty σ H fun out H1 => Q (.str out) H1)) : PE X e (tE g W (dFStr fs)) := he.imp fun σ H Q ⟨P, F, st, s, o⟩ => joinS_ok s o
end
def rStrO (K : PySem.W.Frag) (C : Addr) (sp : Sp) : List V → Hp → VK → Prop := fun xs H Q => ∃ a dx fs, xs = [.ref a] ∧ H a = some (.ins C dx fs) ∧ sp [.ref a] H (fun v H' => ∃ z, v = .str z ∧ Q (.str z) H') E0
section
variable {X : Cx} {lvl : Nat} {C f : Addr} {ps : List Str} {sp : Sp}
theorem cr_strO (F : Mf X.prog X.w X.K X.mg X.base C "__str__" lvl f ps sp) (hr : Room (lvl + 2) X.A) : CallR X (.type "str") (rStrO X.K C sp) := by
  intro pins s σ H xs us Q I r ⟨a, dx, fs, ex, ha, hq⟩
  subst ex
  cases r with
  | cons r1 rn =>
    cases rn
    cases r1
    obtain ⟨fd, G, b⟩ := F.ok
    obtain ⟨mA, J, _⟩ := ins_get I.hok ha
    obtain ⟨od, J, _⟩ := J.look
    have hr2 : Room lvl X.A.in1.in1 := hr.in1.in1
    refine PySem.W.kso_call hr2.units0 I.kIn J F.me.at_ F.me.fn (wpAny_mono (run_own G b hr2 rfl I (.cons (show RelV (.ref a) (.ref a) from rfl) .nil) hq) (fun r s' z => ?_) fun _ _ e => e)
    obtain ⟨z, H', I', rz, b, ez, q⟩ := z
    subst ez
    obtain ⟨t, rfl⟩ := rz
    exact ⟨.str b, H', I', ⟨t, rfl⟩, q⟩
end
def opStrO (c : Str) (df : List D → M D) (x : D) : Option D := match x with
  | .ins c' _ _ => if c' = c then (match df [x] with | .ok (.str z) => some (.str z) | _ => none) else none
  | _ => none
theorem vo_strO {g : G} {c : Str} {C : Addr} {df : List D → M D} (k : g.mg c = some (.ref C)) : VOC g (rStrO g.K C (spD g df)) (opStrO c df) := by
  intro H F v d z l rd hz Q q
  unfold opStrO at hz
  split at hz
  · rename_i c' ns ds
    split at hz
    · rename_i hc
      subst hc
      have rd : Rv g F v (.ins c' ns ds) := by
        rcases rd with rd | ⟨_, _, _, _, ed, _⟩
        · exact rd
        · cases ed
      split at hz
      · rename_i b hd
        cases hz
        have rl : Rl g F [v] [.ins c' ns ds] := .cons rd .nil
        cases rd with
        | ins h1 h2 h3 h4 =>
          rw [k] at h2
          cases h2
          refine ⟨_, _, _, rfl, l _ _ h1, F, _, l, rl, ?_⟩
          rw [hd]
          intro v H' F' gr rv
          cases rv
          exact ⟨_, rfl, q _ _ _ gr (.str _)⟩
      · cases hz
    · cases hz
  · cases hz
end DL
namespace PySem
namespace ErrX
open PySem.W PySem.Calls PyProof.Rows PySem.HandSPX
structure OwnMade5 (h h' : Heap) (e C d : Addr) (f : Str) (v : Value) : Prop where
  keep : ∀ b o, h.get? b = some o → h'.get? b = some o
  new : h.objs.size ≤ e
  obj : ∃ t1, h'.get? e = some { cls := .ref C, dict := some d, data := .fields #[.ref t1, .none, .none, .none, .bool false, .none] }
  dbig : h.objs.size ≤ d
  dne : d ≠ e
  ns : h'.Ns1 d (fun y => if y = f then some v else none)
section
variable {prog : Program} {w : World} {A : Around} {E : Value → Shared → Prop} {R : Result → Shared → Prop} {s : Shared} {K : Frag} {mg mb : Str → Option Value} {C fI : Addr} {xn qual a f : Str} {e : Expr}
theorem err_made5 (T : ErrTxt prog K xn qual C fI a f e) {v : Value} (X : K.In s.heap) (Gg : s.heap.Ns mainGlobals mg) (Gb : s.heap.Ns builtinsNs mb) (hbs : mb "super" = some (.type "super")) (hlim : s.heap.NoLimit) (hroom : A.depth + 1 < recursionLimit)
    (hq : ∀ h' tk e' d, OwnMade5 s.heap h' e' C d f v → R (.ok (.ret (.ref e'))) { s with heap := h', toks := tk }) :
    codeAny (model prog w) A (.call (.ref C) ⟨[v], []⟩) R s := by
  obtain ⟨nm, q, N, bs, bm, sn, sub, ab, col, dd, k0, k1, k2, k3, k5, hC, hbm, _⟩ := T.cls
  obtain ⟨hp, g, dr, tk, os⟩ := s
  have k : ∀ b o, hp.get? b = some o → ((hp.push (kdv_tup [v])).push (excO C hp.objs.size)).get? b = some o := fun b o e => Heap.get?_push_of_some _ (Heap.get?_push_of_some _ e)
  have hget : ((hp.push (kdv_tup [v])).push (excO C hp.objs.size)).get? (hp.objs.size + 1) = some (excO C hp.objs.size) := by heap_get
  have hnx : K.lookup (hp.objs.size + 1) = none := by
    cases e : K.lookup (hp.objs.size + 1) with
    | none => rfl
    | some o =>
      have z : hp.get? (hp.objs.size + 1) = some o := X _ _ e
      exact absurd (Nat.lt_of_succ_lt (Heap.lt_size z)) (Nat.lt_irrefl _)
  refine call_own F.excBase_ValueError (fun X => refsVE_contains X bm hbm) (X _ _ hC) (looks_findIn X T.iC) (fun self => bind_fn X self T.tC) (one_size v) ?_
  refine err_init (s := ⟨(hp.push (kdv_tup [v])).push (excO C hp.objs.size), g, dr, tk, os⟩) T (X.keeps k) (Gg.keeps k) (Gb.keeps k) hbs (hlim.keeps k) hget hnx ?_ fun h' tk' dx ⟨k', ⟨t1, hx⟩, dn, dne, hns⟩ => ?_
  · show A.depth + 1 < recursionLimit
    exact hroom
  · have old : ∀ b o, hp.get? b = some o → h'.get? b = some o := fun b o e => k' b o (Nat.ne_of_lt (Nat.lt_succ_of_lt (Heap.lt_size e))) (k b o e)
    have z : hp.objs.size + 1 + 1 ≤ dx := by
      first
        | (simpa only [Heap.size_push] using dn)
        | exact dn
        | (have q := dn; rw [Heap.size_push, Heap.size_push] at q; exact q)
    exact ⟨rfl, hq h' tk' (hp.objs.size + 1) dx ⟨old, Nat.le_succ _, ⟨_, hx⟩, Nat.le_trans (Nat.le_trans (Nat.le_succ _) (Nat.le_succ _)) z, dne, hns⟩⟩
end
end ErrX
end PySem
namespace L2
open PySem PySem.Spec PyProof.Rows
section
variable {X : Cx} {C fI : Addr} {x qual a f : Str} {e' : Expr}
theorem pmk_err5 {e : Expr} {ta : TA} {p pos : Pos} (T : PySem.ErrX.ErrTxt X.prog X.K x qual C fI a f e') (gC : X.mg x = some (.ref C)) (gs : X.mg "super" = none) (hr : X.A.depth + 1 < recursionLimit) (ha : PA X [e] ta) (hg : Gl X x) (hdb : (x == ("__debug__" : Str)) = false := by decide)
    (he : starEach (e :: []) X.env = (false, eval e X.env) :: starEach [] X.env := by rfl) (hpl : (backTo pos (starEach [] X.env)).any (·.1) = false := by rfl) :
    L2H.PMk5 X (.Call (.Name x p) [e] [] pos) (tMkErr C f ta) := by
  intro pins s σ H Q I h
  refine wpAny_Call_Name_kw (ld_glob I hg gC ?_ hdb)
  refine PySem.W.callWith_K (h₀ := X.base) I.ok.mod.kin T.kC (thn (ha.run pos pins s σ H _ I h) fun us s1 hh => ?_) he hpl
  obtain ⟨vs, H1, I1, r1, v, ev, q1⟩ := hh
  subst ev
  refine ⟨I1.kIn, ?_⟩
  cases r1 with
  | cons rv rn =>
    rename_i v' us'
    cases rn
    show wpAny _ _ (call (.ref C) [v']) _ _ _
    have hlim := I1.nolimit
    obtain ⟨mb, b1, b2⟩ := I1.mod.blt
    have hbs : mb "super" = some (.type "super") := (b2 "super" (by decide)).trans PyProof.Rows.Boot.«super»
    have gG : s1.heap.Ns mainGlobals X.mg := I1.mod.glob.keeps I1.bk
    have gB : s1.heap.Ns builtinsNs mb := b1.keeps I1.bk
    obtain ⟨hp, g, dr, tk, os⟩ := s1
    refine wpAny_call (PySem.ErrX.err_made5 T I1.kIn gG gB hbs hlim hr fun h' tk' e d M => ?_)
    show L2N.MkP X pins σ Q (.ref e) ⟨h', g, dr, tk', os⟩ ∧ L2H.Six (.ref e) ⟨h', g, dr, tk', os⟩
    obtain ⟨t1, hoe⟩ := M.obj
    have hns := M.ns
    obtain ⟨G', g1, g2⟩ := restrict h' fun b => decide (b ≠ e)
    have gk : ∀ b, b ≠ e → G'.get? b = h'.get? b := fun b hb => g1 b (decide_eq_true hb)
    have ge : G'.get? e = none := g2 e (by simp)
    have old : ∀ b o, hp.get? b = some o → G'.get? b = some o := fun b o q => (gk b (Nat.ne_of_lt (Nat.lt_of_lt_of_le (Heap.lt_size q) M.new))).trans (M.keep b o q)
    have ob : ObjOk X.prog X.w (upd H1 d (.xd [(f, v)])) G' d (.xd [(f, v)]) :=
      ⟨_, hns.at (fun o q => (gk d M.dne).trans q), fun y => relO_one rv y⟩
    have J : Inv X pins σ (upd H1 d (.xd [(f, v)])) ⟨G', g, dr, tk', os⟩ := I1.laid (t' := tk') old M.dbig ob
    refine ⟨⟨e, _, _, ⟨G', g, dr, tk', os⟩, _, .ref C, some d, rfl, J, fun b o q => ?_, ge, hoe, ⟨rfl, rfl, fun vs q => by cases q; rfl⟩, rfl, rfl, ?_, rfl, I1.bare, raises_own T.exC T.tyC, q1 d (I1.hok.fresh M.dbig)⟩, fun a oe vs ea hg hd => ?_⟩
    · by_cases hb : b = e
      · have q' : G'.get? b = some o := q
        rw [hb, ge] at q'; cases q'
      · exact (gk b hb).symm.trans q
    · rw [upd_ne (Ne.symm M.dne)]
      exact I1.hok.fresh M.new
    · cases ea
      have hg : h'.get? e = some oe := hg
      rw [hoe] at hg
      cases hg
      cases hd
      show (4 : Nat) < 6
      decide
end
end L2
namespace DL
open PySem PySem.Spec PyProof.Rows L2
theorem passLN {X : Cx} : Passes (L2N.CX X.prog X.w) X E0 := fun _ _ _ _ _ _ _ h => by
  obtain ⟨_, _, _, _, _, _, _, _, _, _, _, _, z⟩ := h
  exact z.elim
structure FkN (P : Program) (w : World) (K : PySem.W.Frag) (mg : Str → Option Value) (base : Heap) (x : Str) (lvl : Nat) (f : Addr) (ps : List Str) (sp : Sp) : Prop where
  ok : ∃ fd, FnOk P w K mg base (L2N.CX P w) lvl f fd ps sp ∧ Binds K fd ps []
  gm : mg x = some (.ref f)
  kp : PySem.W.keepIn K (.ref f) = true
structure MfN (P : Program) (w : World) (K : PySem.W.Frag) (mg : Str → Option Value) (base : Heap) (C : Addr) (m : Str) (lvl : Nat) (f : Addr) (ps : List Str) (sp : Sp) : Prop where
  ok : ∃ fd, FnOk P w K mg base (L2N.CX P w) lvl f fd ps sp ∧ Binds K fd ps []
  me : Meth K C m f
structure KfN (P : Program) (w : World) (K : PySem.W.Frag) (mg : Str → Option Value) (base : Heap) (c : Str) (lvl : Nat) (C f : Addr) (ps : List Str) (sp : Sp) : Prop where
  ok : ∃ fd, FnOk P w K mg base (L2N.CX P w) lvl f fd ps sp ∧ Binds K fd ps []
  mkr : Mk K C f
  gm : mg c = some (.ref C)
section
variable {X : Cx} {x m : Str} {lvl : Nat} {f C : Addr} {ps : List Str} {sp : Sp} {W : WX} {e o : Expr} {es : List Expr} {t : TA} {ta : TE} {p pos apos : Pos}
theorem FkN.pe (F : FkN X.prog X.w X.K X.mg X.base x lvl f ps sp) (hr : Room lvl X.A) (hg : Gl X x) (tk : L2N.Takes X W) (ha : PA X (e :: es) t)
    (hdb : (x == ("__debug__" : Str)) = false := by decide) (he : starEach (e :: es) X.env = (false, eval e X.env) :: starEach es X.env := by rfl) (hpl : (backTo pos (starEach es X.env)).any (·.1) = false := by rfl) :
    PE X (.Call (.Name x p) (e :: es) [] pos) (tCallS sp (WE W) t) := by
  obtain ⟨fd, G, b⟩ := F.ok
  exact pe_callS G hr hg F.gm F.kp b (fun σ => L2N.passAt tk σ) ha hdb he hpl
theorem MfN.pe {pl : Sem Bool} (F : MfN X.prog X.w X.K X.mg X.base C m lvl f ps sp) (hr : Room lvl X.A) (c : Cls X.K C) (he : PE X o ta) (ha : PA X (e :: es) t)
    (hst : starEach (e :: es) X.env = (false, eval e X.env) :: starEach es X.env := by rfl) (hpl : (backTo pos (starEach es X.env)).any (·.1) = false := by rfl)
    (ht : eval (.Call (.Attribute o m apos) (e :: es) [] pos) X.env = (do
      let ov ← eval o X.env
      standAt apos.atName
      let (f, first) ← holding [ov] (getMethod ov m pl)
      callWith pos f first (backTo pos (starEach (e :: es) X.env)) (backToKw pos (keywordEach [] X.env))) := by rfl) :
    PE X (.Call (.Attribute o m apos) (e :: es) [] pos) (tMeth C m sp [] E0 ta t) := by
  obtain ⟨fd, G, b⟩ := F.ok
  exact pe_meth he c F.me G hr b .nil passLN ha hst hpl ht
theorem run_makeC {CX : CXT} {k : Nat} {fd : FuncData} {E : L2.St → XK} {pins : List (Addr × Obj)} {σ : L2.St} {H : Hp} {s : Shared} {Q : VK} {us : List Value} {vs : List V} (M : Mk X.K C f) (F : FnOk X.prog X.w X.K X.mg X.base CX k f fd ps sp) (hr : Room (k + 1) X.A) (hb : Binds X.K fd ps [])
    (hx : PassesAt CX X σ (E σ)) (I : Inv X pins σ H s) (r : Vals vs us)
    (h : ∀ x dx, H x = none → H dx = none → dx ≠ x → sp (.ref x :: vs) (upd (upd H dx (.own x)) x (.ins C dx [])) (fun v H2 => v = .non ∧ Q (.ref x) H2) (E σ)) :
    wpAny (model X.prog X.w) X.A (call (.ref C) us) (EP X pins σ Q) X.xe s := by
  have hq := h (s.heap.objs.size + 1) s.heap.objs.size (I.hok.fresh (Nat.le_succ _)) (I.hok.fresh (Nat.le_refl _)) (Nat.ne_of_lt (Nat.lt_succ_self _))
  have I2 := Inv.made (C := C) I
  have r2 : Vals (V.ref (s.heap.objs.size + 1) :: vs) (Value.ref (s.heap.objs.size + 1) :: us) := .cons rfl r
  have hl : (Value.ref (s.heap.objs.size + 1) :: us).length = ps.length := by
    have e := r2.length
    rw [F.len _ _ _ _ hq] at e
    exact e.symm
  have b := hb _ (Value.ref (s.heap.objs.size + 1) :: us) I2.kIn (by rw [List.append_nil]; exact hl)
  rw [List.append_nil] at b
  refine wpAny_call (make_map (f := f) I.kIn M.makes M.init (beq_iff_eq.mp M.fn) (codeAny_mono (F.run _ X.stack _ _ ⟨Value.ref (s.heap.objs.size + 1) :: us, []⟩ (Value.ref (s.heap.objs.size + 1) :: us) _ _ (E σ) (hr.make C us [])
    (I2.env0.make C us []) b r2 hq) fun r s' hq' => ?_))
  cases r with
  | error e => exact hx pins _ _ e s' I2 hq'
  | ok fl =>
    cases fl with
    | ret u =>
      obtain ⟨v, H', I3, rv, ev, q3⟩ := I2.after hq'
      subst ev
      exact ⟨rv, ⟨V.ref (s.heap.objs.size + 1), H', I3, rfl, q3⟩⟩
    | next => exact False.elim hq'
    | brk => exact False.elim hq'
    | cont => exact False.elim hq'
theorem pe_makeC {CX : CXT} {k : Nat} {fd : FuncData} {E : L2.St → XK} (M : Mk X.K C f) (F : FnOk X.prog X.w X.K X.mg X.base CX k f fd ps sp) (hr : Room (k + 1) X.A) (hg : Gl X x) (hm : X.mg x = some (.ref C)) (hb : Binds X.K fd ps []) (hx : ∀ σ, PassesAt CX X σ (E σ))
    (ha : PA X (e :: es) t) (hdb : (x == ("__debug__" : Str)) = false := by decide) (he : starEach (e :: es) X.env = (false, eval e X.env) :: starEach es X.env := by rfl) (hpl : (backTo pos (starEach es X.env)).any (·.1) = false := by rfl) :
    PE X (.Call (.Name x p) (e :: es) [] pos) (tMakeS C sp E t) := by
  refine ⟨fun pins s σ H Q I h => ?_⟩
  refine wpAny_Call_Name_kw (ld_glob I hg hm ?_ hdb)
  refine PySem.W.callWith_K (h₀ := X.base) I.ok.mod.kin M.kp (thn (ha.run pos pins s σ H _ I h) fun us s1 ⟨vs, H1, I1, r, q⟩ => ⟨I1.kIn, ?_⟩) he hpl
  exact run_makeC M F hr hb (hx σ) I1 r q
theorem KfN.pe {c : Str} (F : KfN X.prog X.w X.K X.mg X.base c lvl C f ps sp) (hr : Room (lvl + 1) X.A) (hg : Gl X c) (tk : L2N.Takes X W) (ha : PA X (e :: es) t)
    (hdb : (c == ("__debug__" : Str)) = false := by decide) (he : starEach (e :: es) X.env = (false, eval e X.env) :: starEach es X.env := by rfl) (hpl : (backTo pos (starEach es X.env)).any (·.1) = false := by rfl) :
    PE X (.Call (.Name c p) (e :: es) [] pos) (tMakeS C sp (WE W) t) := by
  obtain ⟨fd, G, b⟩ := F.ok
  exact pe_makeC F.mkr G hr hg F.gm b (fun σ => L2N.passAt tk σ) ha hdb he hpl
end
section
variable {P : Program} {w : World} {K : PySem.W.Frag} {mg : Str → Option Value} {base : Heap} {x qual : Str} {params : Arguments} {body : List Stmt} {scope : Scope} {f : Addr} {fd : FuncData} {N ps : List Str} {k : Nat}
theorem fn_dataN {b : DS} (F : FunD K x qual params body scope [] [] f fd) (S : FnScope N ps scope) (hp : ps.length ≤ N.length)
    (hbody : ∀ (cdv : Value) (A : Around) (outer : List Env) (s : Shared) (H : Hp) (E : XK), Room k (A.deeper (envOfC qual scope s.heap.objs.size f cdv)) →
      L2N.Takes (cxOf (L2N.CX P w) P w K mg base N qual scope f cdv A outer s H E) (fun cls dd _ H => E cls dd H) →
      PassesOwn (model P w) (cxOf (L2N.CX P w) P w K mg base N qual scope f cdv A outer s H E).A (cxOf (L2N.CX P w) P w K mg base N qual scope f cdv A outer s H E).env (cxOf (L2N.CX P w) P w K mg base N qual scope f cdv A outer s H E).xe →
      PSs (cxOf (L2N.CX P w) P w K mg base N qual scope f cdv A outer s H E) body (tS ⟨K, mg, none, tk⟩ (fun cls dd _ H => E cls dd H) b)) :
    FnOk P w K mg base (L2N.CX P w) (k + 1) f fd ps (spD ⟨K, mg, none, tk⟩ (runF ps.length N.length b)) :=
  F.ok S (fun vs H Q E h => spD_len h) fun cdv A outer s H vs Q E hr h => ⟨_, hbody cdv A outer s H E hr (L2N.takes_of rfl rfl rfl rfl) (passes_of rfl), body_ok rfl hp (spD_len h) h⟩
theorem fn_initN {y c : Str} {b : DS} (F : FunD K x qual params body scope [] [] f fd) (S : FnScope (y :: N) ps scope) (hp : ps.length ≤ (y :: N).length)
    (hbody : ∀ (cdv : Value) (A : Around) (outer : List Env) (s : Shared) (H : Hp) (E : XK), Room k (A.deeper (envOfC qual scope s.heap.objs.size f cdv)) →
      L2N.Takes (cxOf (L2N.CX P w) P w K mg base (y :: N) qual scope f cdv A outer s H E) (fun cls dd _ H => E cls dd H) →
      PassesOwn (model P w) (cxOf (L2N.CX P w) P w K mg base (y :: N) qual scope f cdv A outer s H E).A (cxOf (L2N.CX P w) P w K mg base (y :: N) qual scope f cdv A outer s H E).env (cxOf (L2N.CX P w) P w K mg base (y :: N) qual scope f cdv A outer s H E).xe →
      PSs (cxOf (L2N.CX P w) P w K mg base (y :: N) qual scope f cdv A outer s H E) body (tS ⟨K, mg, none, tk⟩ (fun cls dd _ H => E cls dd H) b)) :
    FnOk P w K mg base (L2N.CX P w) (k + 1) f fd ps (spI ⟨K, mg, none, tk⟩ c (runI c ps.length (y :: N).length b)) :=
  F.ok S (fun vs H Q E h => spI_len h) fun cdv A outer s H vs Q E hr h => ⟨_, hbody cdv A outer s H E hr (L2N.takes_of rfl rfl rfl rfl) (passes_of rfl), body_okI rfl hp (spI_len h) h⟩
end
section
variable {X : Cx} {g : G} {W : WX} {P : Par} {σ : L2.St} {H F : Hp} {st : DSt} {e : Expr} {f : Den D}
theorem es_raise0N {c : Str} {C : Addr} {pos : Pos} (gC : g.mg c = some (.ref C)) (tk : L2N.Takes X W) (he : L2N.PMk X e (fun _ H Q => Q (.ref C) none H)) (hc : X.calm = true := by rfl) : PS X (.Raise (some e) none pos) (tS g W (sRaise0 c)) :=
  (L2N.ps_raise hc tk he).imp fun D σ H ⟨P, F, st, s, o⟩ => o (.ref C) none σ H F (Same.refl _) s ⟨C, gC, rfl, .inl ⟨rfl, rfl⟩⟩
theorem es_raise1N {c nm : Str} {C : Addr} {pos : Pos} (gC : g.mg c = some (.ref C)) (tk : L2N.Takes X W) (he : L2N.PMk X e (tMkErr C nm (tCons (tE g W f) tNil))) (hc : X.calm = true := by rfl) : PS X (.Raise (some e) none pos) (tS g W (sRaise1 c nm f)) :=
  (L2N.ps_raise hc tk he).imp fun D σ H ⟨P, F, st, s, o⟩ => by
    refine ⟨P, F, st, s, o.bind.imp fun x st1 H1 F1 le1 s1 o1 v rx => ⟨v, rfl, fun d hd => ?_⟩⟩
    have gr : Grow H1 F1 (upd H1 d (.xd [(nm, v)])) (upd F1 d (.xd [(nm, v)])) := Grow.new s1.le hd
    exact o1 (.ref C) (some d) σ _ _ gr.f (s1.grow gr) ⟨C, gC, rfl, .inr ⟨d, nm, v, x, rfl, rfl, upd_same, rx.mono gr.f⟩⟩
theorem es_raiseFN {c nm : Str} {C : Addr} {j : Nat} {cpos pos : Pos} (gC : g.mg c = some (.ref C)) (hc : L2H.HotC X) (tk : Takes X W) (he : L2H.PMk5 X e (tMkErr C nm (tCons (tE g W f) tNil))) : PS X (.Raise (some e) (some (.Constant .none j cpos)) pos) (tS g W (sRaise1 c nm f)) :=
  (L2H.ps_raiseHN hc tk he).imp fun D σ H ⟨P, F, st, s, o⟩ => by
    refine ⟨P, F, st, s, o.bind.imp fun x st1 H1 F1 le1 s1 o1 v rx => ⟨v, rfl, fun d hd => ?_⟩⟩
    have gr : Grow H1 F1 (upd H1 d (.xd [(nm, v)])) (upd F1 d (.xd [(nm, v)])) := Grow.new s1.le hd
    exact o1 (.ref C) (some d) σ _ _ gr.f (s1.grow gr) ⟨C, gC, rfl, .inr ⟨d, nm, v, x, rfl, rfl, upd_same, rx.mono gr.f⟩⟩
/-- one clause, its suite may raise -/
def sTryX (mt : List (Str × Str × Bool)) (body : DS) (x : Str) (den : DS) : DS := fun st => match body st with
  | .exn c fs st' => (match mtB mt c x with
    | some true => den st'
    | some false => .exn c fs st'
    | none => .stuck)
  | r => r
theorem es_tryX {mt : List (Str × Str × Bool)} (mo : MtOk g mt) {blk : List Stmt} {x : Str} {V : Addr} {b₀ : Stmt} {rest : List Stmt} {np pq pos : Pos} {tb den : DS} (tk : Takes X W) (hK : X.K = g.K) (gV : g.mg x = some (.ref V)) (nmd : Names X x (.ref V))
    (hpa : ∀ hd : Option Value, PassesOwnAt (model X.prog X.w) (X.A.mark hd) X.A X.env X.xe)
    (hbody : ∀ (W' : WX) (pn : List (Addr × Obj)) (xe : Value → Shared → Prop), L2N.Takes (X.tr pn xe) W' → PSs (X.tr pn xe) blk (tS g W' tb))
    (hsu : ∀ (a : Addr) (oe : Obj) (cls : Value) (d : Option Addr) (pn : List (Addr × Obj)), Takes (L2H.suiteX X a ((a, oe) :: pn)) W → L2H.HotC (L2H.suiteX X a ((a, oe) :: pn)) → PSs (L2H.suiteX X a ((a, oe) :: pn)) (b₀ :: rest) (tS g W den))
    (hstk : X.stack = X.env :: X.outer := by rfl) (hfrm : X.env.frame = some X.env.locals := by rfl) :
    PS X (.Try blk [.ExceptHandler (some (.Name x np)) none (b₀ :: rest) pq] [] [] pos) (tS g W (sTryX mt tb x den)) := by
  refine (L2H.ps_try_onlyX (tb := fun W' => tS g W' tb) (ts := fun _ _ _ => tS g W den) hstk hfrm nmd hpa tk (fun W' pn xe t _ _ => hbody W' pn xe t) fun a oe cls d pn _ _ t h => hsu a oe cls d pn t h).imp fun D σ H ⟨P, F, st, s, o⟩ => ⟨P, F, st, s, ?_⟩
  revert o
  unfold sTryX
  cases tb st with
  | ok fl st' => exact fun o => o
  | exn c fs st' =>
    intro o cls dd σ' H' F' le s' rx
    obtain ⟨C, hm, hcls, _⟩ := id rx
    cases hb : mtB mt c x with
    | none => simp only [hb] at o; exact o.elim
    | some b =>
      have hex : PySem.W.exmOne g.K cls (.ref V) = some b := by rw [hcls]; exact mo _ (mtB_mem hb) C V hm gV
      simp only [hb] at o
      rw [hK]
      cases b with
      | true => exact ⟨true, hex, fun _ a _ => ⟨P, F', st', s', OutS.weak le o⟩, fun z => Bool.noConfusion z⟩
      | false => exact ⟨false, hex, fun z => Bool.noConfusion z, fun _ => o cls dd σ' H' F' le s' rx⟩
  | stuck => exact fun o => o
end
end DL
namespace DL
open PySem PySem.Spec PyProof.Rows L2
def opRepl (y z : Str) : D → Option D
  | .str x => if x.length + (x.length + 1) * z.length ≤ 16777216 then some (.str (Txt.replace x y z)) else none
  | _ => none
def PE1 (X : Cx) (e : Expr) (t : TE) : Prop :=
  ∀ (pins : List (Addr × Obj)) (s : Shared) (σ : L2.St) (H : Hp) (Q : VK), Inv X pins σ H s → t σ H Q → wpAny (model X.prog X.w) X.A (eval e X.env) (fun v s' => 1 ≤ s'.toks ∧ EP X pins σ Q v s') X.xe s
section
variable {X : Cx} {g : G} {W : WX} {P : Par} {σ : L2.St} {H F : Hp} {st : DSt} {e o : Expr} {f h : Den D} {t t' : TE}
theorem _root_.L2.PET.imp (h : PET X e t) (i : ∀ σ H Q, t' σ H Q → t σ H Q) : PET X e t' := fun pins s σ H Q h0 I q => h pins s σ H Q h0 I (i σ H Q q)
theorem PE1.imp (h : PE1 X e t) (i : ∀ σ H Q, t' σ H Q → t σ H Q) : PE1 X e t' := fun pins s σ H Q I q => h pins s σ H Q I (i σ H Q q)
theorem _root_.L2.PST.imp {s : Stmt} {t t' : TS} (h : PST X s t) (i : ∀ D σ H, t' D σ H → t D σ H) : PST X s t' := fun pins s σ H D h0 I q => h pins s σ H D h0 I (i D σ H q)
theorem _root_.L2.PAT.imp {es : List Expr} {t t' : TA} (h : PAT X es t) (i : ∀ σ H Q, t' σ H Q → t σ H Q) : PAT X es t' := fun pos pins s σ H Q h0 I q => h pos pins s σ H Q h0 I (i σ H Q q)
theorem _root_.L2.PSsT.imp {ss : List Stmt} {t t' : TS} (h : PSsT X ss t) (i : ∀ D σ H, t' D σ H → t D σ H) : PSsT X ss t' := fun pins s σ H D h0 I q => h pins s σ H D h0 I (i D σ H q)
/-- x + "word" -/
theorem pe1_opc {op : Operator} {r : R2} {a : Expr} {ta : TE} {c : Str} {j : Nat} {cpos pos : Pos} (ho : OpR X (binaryOp op) r) (ha : PE X a ta) : PE1 X (.BinOp a op (.Constant (.str c) j cpos) pos) (tOp r ta (tC (.str c))) := by
  intro pins s σ H Q I h
  refine wpAny_BinOp (thn (ha.run pins s σ H _ I h) fun v s1 ⟨x, H1, I1, r1, q1⟩ => Calls.Constant_str ?_)
  refine wpAny_mono (PySem.wpAny_toks_of (n := 1) (by show 1 ≤ s1.toks + 1; omega) (ho pins { s1 with toks := s1.toks + 1 } σ H1 x (.str c) v (.str c s1.toks) Q (I1.tok _) r1 ⟨_, rfl⟩ q1)) (fun _ _ z => z) fun _ _ z => z.2
theorem ev2_1 {r : R2} {op : D → D → Option D} (vo : VO2 g r op) (he : PE1 X e (tOp r (tE g W f) (tC (.str c)))) : PE1 X e (tE g W (dOp2 op f (dC (.str c)))) := he.imp fun σ H Q ⟨P, F, st, s, o⟩ =>
  ⟨P, F, st, s, o.bind.imp fun x st1 H1 F1 le1 s1 o1 v rx => fin2 vo s1 (.inl rx) (.inl (.str c)) o1⟩
/-- behind a stored value a token is out -/
theorem pss_setT {i : Nat} {x : Str} {te : TE} {rest : List Stmt} {u : TS} {pos' pos : Pos} (hN : X.N.Nodup) (hi : X.N[i]? = some x) (hx : Loc X.env.scope x) (he : PE1 X e te) (h2 : PSsT X rest u) (hs : swapsWith e (some (.Name x pos')) pos.line X.env = pure false := by rfl) (hf : X.fn x = true ∨ X.env.scope.names.lookup x = some .local := by first | exact .inl rfl | exact .inr rfl | assumption) :
    PSs X (.Assign [.Name x pos'] e pos :: rest) (tSeq (tAsg te (gName i)) u) := by
  refine ⟨fun pins s σ H D I h => ?_⟩
  refine wpAny_execs_cons (wpAny_Assign_Name (thn (he pins s σ H _ I h) fun v s1 ⟨h0, y, H1, I1, r1, q1⟩ => ?_) hs)
  refine wpAny_mono (PySem.wpAny_toks (store_ok I1 hN hi hx r1 (Q := fun _ s2 => ∃ H', Inv X pins (σ.set i (some y)) H' s2 ∧ u D (σ.set i (some y)) H') (fun s2 I2 => ⟨H1, I2, q1⟩) hf)) (fun _ s2 q => ?_) fun _ _ z => z.2
  obtain ⟨hk, H', I2, q⟩ := q
  exact h2 pins s2 _ H' D (Nat.le_trans h0 hk) I2 q
theorem ess_setT {i : Nat} {x : Str} {rest : List Stmt} {b : DS} {pos' pos : Pos} (hN : X.N.Nodup) (hi : X.N[i]? = some x) (hx : Loc X.env.scope x) (he : PE1 X e (tE g W f)) (h2 : PSsT X rest (tS g W b)) (hs : swapsWith e (some (.Name x pos')) pos.line X.env = pure false := by rfl) (hf : X.fn x = true ∨ X.env.scope.names.lookup x = some .local := by first | exact .inl rfl | exact .inr rfl | assumption) :
    PSs X (.Assign [.Name x pos'] e pos :: rest) (tS g W (sSeq (sSet i f) b)) := (pss_setT hN hi hx he h2 hs hf).imp fun D σ H q => by
  have q2 := seq_imp q
  exact (show tAsg (tE g W f) (gName i) _ σ H from by
    obtain ⟨P, F, st, s, o⟩ := (q2 : tS g W (sSet i f) _ σ H)
    exact ⟨P, F, st, s, o.bind.imp fun x st1 H1 F1 le1 s1 o1 v rx => by
      unfold putD at o1
      split at o1
      · rename_i st' h
        obtain ⟨hi, rfl⟩ := slotSet_some h
        exact o1 _ H1 F1 (Same.refl _) (s1.put rx hi)
      · exact o1.elim⟩)
theorem esst_cons {s : Stmt} {ss : List Stmt} {a b : DS} (h1 : PST X s (tS g W a)) (h2 : PSsT X ss (tS g W b)) : PSsT X (s :: ss) (tS g W (sSeq a b)) := PSsT.imp (psst_cons h1 h2) fun _ _ _ q => seq_imp q
theorem esst_one {s : Stmt} {a : DS} (h1 : PS X s (tS g W a)) : PSsT X [s] (tS g W a) := PSsT.of (ess_one h1)
theorem est_own {i : Nat} {x : Str} {fn : Den (List D)} {pos' pos : Pos} (hN : X.N.Nodup) (hi : X.N[i]? = some x) (hx : Loc X.env.scope x) (he : PET X e (tN g W fn)) (hs : swapsWith e (some (.Name x pos')) pos.line X.env = pure false := by rfl) (hf : X.fn x = true ∨ X.env.scope.names.lookup x = some .local := by first | exact .inl rfl | exact .inr rfl | assumption) :
    PST X (.Assign [.Name x pos'] e pos) (tS g W (sOwn i fn)) := by
  intro pins s σ H D h0 I h
  refine wpAny_Assign_Name (thn (he pins s σ H (fun v H1 => D.nx (σ.set i (some v)) H1) h0 I ?_) fun v s1 ⟨y, H1, I1, r1, q1⟩ => ?_) hs
  · obtain ⟨P, F, st, s, o⟩ := h
    refine ⟨P, F, st, s, ?_⟩
    unfold sOwn bindD at o
    revert o
    cases fn st with
    | ok ds st' =>
      intro o H' F' p vs le sx hp r
      have o : OutS g W P F (putD i (.ow ds) st') D := o
      unfold putD at o
      split at o
      · rename_i st2 h
        obtain ⟨hi, rfl⟩ := slotSet_some h
        exact o _ H' F' le (sx.own hp r hi)
      · exact o.elim
    | exn c fs st' => exact fun o cls dd H' F' e s => o cls dd σ H' F' e s
    | stuck => exact fun o => o
  · exact store_ok I1 hN hi hx r1 (fun s2 I2 => ⟨_, H1, I2, q1⟩) hf
theorem evt_repl {y z : Str} (he : PET X e (CwR.tReplC (tE g W f) y z)) : PET X e (tE g W (dOp1 (opRepl y z) f)) := he.imp fun σ H Q ⟨P, F, st, s, o⟩ =>
  ⟨P, F, st, s, o.bind.imp fun x st1 H1 F1 le1 s1 o1 v rx => by
    obtain ⟨d, ez, q⟩ := o1.lift
    have q := q H1 F1 (Same.refl _) s1
    unfold opRepl at ez
    split at ez
    · split at ez
      · rename_i hl
        cases ez; cases rx
        exact ⟨_, rfl, hl, q _ (.str _)⟩
      · cases ez
    · cases ez⟩
theorem eat_nil : PAT X [] (tA g W dNil) := fun pos pins s σ H Q _ I q => (ea_nil' (X := X) (g := g) (W := W)).run pos pins s σ H Q I q
theorem eat_cons {es : List Expr} {fr : Den (List D)} (he : PET X e (tE g W f)) (hr : PAT X es (tA g W fr)) (hs : starEach (e :: es) X.env = (false, eval e X.env) :: starEach es X.env := by rfl) : PAT X (e :: es) (tA g W (dCons f fr)) :=
  PAT.imp (pat_cons he hr hs) fun σ H Q ⟨P, F, st, s, o⟩ => ⟨P, F, st, s, o.bind.imp fun x st1 H1 F1 le1 s1 o1 v rx => ⟨P, F1, st1, s1, o1.bind.imp fun xs st2 H2 F2 le2 s2 o2 vs rxs => o2 H2 F2 (Same.refl _) s2 _ (.cons (rx.mono le2) rxs)⟩⟩
theorem evtN_lst {fr : Den (List D)} (he : PET X e (tLst (tA g W fr))) : PET X e (tN g W (dLst fr)) := he.imp fun σ H Q ⟨P, F, st, s, o⟩ =>
  ⟨P, F, st, s, o.bind.imp fun ds st1 H1 F1 le1 s1 o1 vs rx => by
    unfold liftO at o1
    split at o1
    · rename_i ds' ez
      split at ez
      · rename_i hl
        cases ez
        exact ⟨by rw [rx.length, ← big_eq]; exact hl, fun p hp => o1 _ F1 p vs (Same.refl _) (s1.newx hp) upd_same rx⟩
      · cases ez
    · exact o1.elim⟩
theorem evt_frz {fn : Den (List D)} (he : PET X e (tN g W fn)) : PET X e (tE g W (dFrz fn)) := he.imp fun σ H Q ⟨P, F, st, s, o⟩ => by
  refine ⟨P, F, st, s, ?_⟩
  unfold dFrz bindD at o
  revert o
  cases fn st with
  | ok ds st' => exact fun o H' F' p vs le sx hp r => o H' (upd F' p (.lst vs)) (le.trans (sx.frz hp).1) (sx.frz hp).2 _ (.lst upd_same (r.mono (sx.frz hp).1))
  | exn c fs st' => exact fun o => o
  | stuck => exact fun o => o
theorem evtN2 {r : R2} {op : D → D → Option (List D)} (vo : VN2 g r op) (he : PET X e (tOp r (tE g W f) (tE g W h))) : PET X e (tN g W (dN2 op f h)) := he.imp fun σ H Q ⟨P, F, st, s, o⟩ =>
  ⟨P, F, st, s, o.bind.imp fun x st1 H1 F1 le1 s1 o1 v rx => ⟨P, F1, st1, s1, o1.bind.imp fun y st2 H2 F2 le2 s2 o2 u ry => finN2 vo s2 (.inl (rx.mono le2)) (.inl ry) o2⟩⟩
end
section
variable {st st1 st2 : DSt}
theorem op_starts {a b : Str} : opSS fnStarts (eS a) (eS b) = some (eB (Txt.startswith a b)) := rfl
def pPart (a b : Str) : M (Str × Str × Str) := if (b.length == 0) = false ∧ a.length ≤ big then .ok (Txt.partition a b) else .stuck
theorem op_part {a b : Str} : OP (opPartn (eS a) (eS b)) (pPart a b) (eP3 eS eS eS) := by
  unfold pPart
  show OP (if (b.length == 0) = false ∧ a.length ≤ big then some (D.tup [.str (Txt.partition a b).1, .str (Txt.partition a b).2.1, .str (Txt.partition a b).2.2]) else none) _ _
  by_cases h : (b.length == 0) = false ∧ a.length ≤ big
  · rw [if_pos h, if_pos h]; rfl
  · rw [if_neg h, if_neg h]; trivial
def pSplit (a b : Str) : M (List Str) := if (b.length == 0) = false ∧ a.length + 2 ≤ big then .ok (Txt.split a b) else .stuck
theorem op_split {a b : Str} : OP (nSplit (eS a) (eS b)) (pSplit a b) (List.map eS) := by
  unfold pSplit
  show OP (if (b.length == 0) = false ∧ a.length + 2 ≤ big then some ((Txt.split a b).map D.str) else none) _ _
  by_cases h : (b.length == 0) = false ∧ a.length + 2 ≤ big
  · rw [if_pos h, if_pos h]; rfl
  · rw [if_neg h, if_neg h]; trivial
def pIntS (z : Str) : M Int := if z.length ≤ 640 then (match PySem.intText? z with | some n => .ok n | none => .stuck) else .stuck
theorem op_intS {z : Str} : OP (opIntS (eS z)) (pIntS z) eI := by
  unfold pIntS
  show OP (if z.length ≤ 640 then (PySem.intText? z).map D.int else none) _ _
  by_cases h : z.length ≤ 640
  · rw [if_pos h, if_pos h]
    cases PySem.intText? z <;> trivial
  · rw [if_neg h, if_neg h]; trivial
def pFmtS (z : Str) : M Str := if z.length ≤ big then .ok z else .stuck
theorem op_fmtS {z : Str} : OP (opFmt (eS z)) (pFmtS z) eS := by
  unfold pFmtS
  show OP (if z.length ≤ big then some (D.str z) else none) _ _
  by_cases h : z.length ≤ big
  · rw [if_pos h, if_pos h]; rfl
  · rw [if_neg h, if_neg h]; trivial
theorem op_fmtI {i : Int} : OP (opFmt (eI i)) (pStr i) eS := op_str
def pRepl (x y z : Str) : M Str := if x.length + (x.length + 1) * z.length ≤ 16777216 then .ok (Txt.replace x y z) else .stuck
theorem op_repl {x y z : Str} : OP (opRepl y z (eS x)) (pRepl x y z) eS := by
  unfold pRepl
  show OP (if x.length + (x.length + 1) * z.length ≤ 16777216 then some (D.str (Txt.replace x y z)) else none) _ _
  by_cases h : x.length + (x.length + 1) * z.length ≤ 16777216
  · rw [if_pos h, if_pos h]; rfl
  · rw [if_neg h, if_neg h]; trivial
def pFit (z : Str) (o : M Str) : M Str := if z.length ≤ big then o else .stuck
theorem re_joinN {acc : Str} : RE (joinS [] acc) st (.ok acc) eS st := rfl
theorem re_joinP {f : Den D} {fs : List (Den D)} {acc y : Str} {o : M Str} (hf : RV f st (eS y) st1) (h : RE (joinS fs (acc ++ y)) st1 o eS st2) : RE (joinS (f :: fs) acc) st (pFit (acc ++ y) o) eS st2 := by
  unfold pFit
  by_cases hl : (acc ++ y).length ≤ big
  · rw [if_pos hl]
    have e : joinS (f :: fs) acc st = joinS fs (acc ++ y) st1 := by
      show bindD f _ st = _
      unfold bindD
      rw [show f st = _ from hf]
      show (if (acc ++ y).length ≤ big then joinS fs (acc ++ y) else fun _ => .stuck) st1 = _
      rw [if_pos hl]
    unfold RE at h ⊢
    rw [e]; exact h
  · rw [if_neg hl]; trivial
theorem re_joinG {f : Den D} {fs : List (Den D)} {acc : Str} {o1 : M Str} {o : Str → M Str} (hf : RE f st o1 eS st1) (h : ∀ y, RE (joinS fs (acc ++ y)) st1 (o y) eS st2) : RE (joinS (f :: fs) acc) st (M.bind o1 fun y => pFit (acc ++ y) (o y)) eS st2 := by
  cases o1 with
  | ok y => exact re_joinP (show RV f st (eS y) st1 from hf) (h y)
  | exn c fs' =>
    obtain ⟨s, hs⟩ := hf
    refine ⟨s, ?_⟩
    show bindD f _ st = _
    unfold bindD
    rw [hs]
  | stuck => trivial
theorem re_fstr {fs : List (Den D)} {o : M Str} (h : RE (joinS fs Str.empty) st o eS st1) : RE (dFStr fs) st o eS st1 := h
theorem op_strO {c : Str} {df : List D → M D} {x : D} {o : M Str} (hc : ∃ ns ds, x = .ins c ns ds) (h : DM (df [x]) o eS) : OP (opStrO c df x) (pNX o) eS := by
  obtain ⟨ns, ds, rfl⟩ := hc
  cases o with
  | ok z =>
    have h : df [.ins c ns ds] = .ok (eS z) := h
    show (if c = c then (match df [.ins c ns ds] with | .ok (.str z) => some (D.str z) | _ => none) else none) = _
    rw [if_pos rfl, h]
    first | done | rfl
  | exn c fs => trivial
  | stuck => trivial
end
section
variable {α γ : Type} {X : Bool} {st st1 : DSt} {K : γ → Fl → DSt → Prop} {o : M α} {b den : DS} {w : α → D} {mt : List (Str × Str × Bool)}
theorem rs_tryXR {df : List D → M D} {fa : Den (List D)} {ds : List D} {g : α → γ} {x : Str} {oh : M γ} (ha : RV fa st ds st1) (hd : DM (df ds) o w) (h1 : ∀ c, K (g c) (.ret (w c)) st1) (h2 : RS X (sSeq den b) st1 oh K) :
    RS X (sSeq (sTryX mt (sRet (dCall df fa)) x den) b) st (tryM o (fun c => .ok (g c)) fun c fs => pMt mt c x oh (.exn c fs)) K := by
  have ha : fa st = .ok ds st1 := ha
  cases o with
  | ok c => exact ⟨.ret (w c), st1, by unfold sSeq sTryX sRet dCall; simp only [bindD, ha, liftM']; rw [show df ds = _ from hd]; rfl, h1 c⟩
  | exn c fs =>
    have e : sRet (dCall df fa) st = .exn c fs st1 := by unfold sRet dCall; simp only [bindD, ha, liftM']; rw [show df ds = _ from hd]
    show RS X _ st (pMt mt c x oh (.exn c fs)) K
    unfold pMt
    cases hm : mtB mt c x with
    | none => trivial
    | some q => cases q with
      | true => exact rs_of_eq (st1 := st1) (g := sSeq den b) (by unfold sSeq sTryX; simp only [e, hm]) h2
      | false => exact fun _ => ⟨st1, by unfold sSeq sTryX; simp only [e, hm]⟩
  | stuck => trivial
end
theorem room_dp {k : Nat} {A : Around} (r : Room k A) : A.depth + 1 < recursionLimit := by have := r.dp; omega
theorem room_dps {k : Nat} {A : Around} (r : Room k A) {x : Option Value} : (A.mark x).depth + 1 < recursionLimit := by have := r.dp; show A.depth + 1 < _; omega
end DL
namespace LAW
open PySem PySem.Spec PyProof.Rows L2 DL
def topS (i : Nat) : Stmt := PySem.Challenge.pw_reesblocks_k03_texts_of_semigroups.main.body.getD i (.Pass ⟨0, 0, 0, 0⟩)
def PP : Program := (PySem.Challenge.rw_reesblocks_k03_texts_of_semigroups).prog
abbrev TK : Bool := false
theorem psup : (PP.main.scope.names.lookup ("super" : Str)).isSome = false := by kernel_rfl
def mt : List (Str × Str × Bool) := [("Fault", "Fault", true), ("Fault", "Malformed", false), ("Fault", "NoText", false), ("Fault", "Refused", false), ("Malformed", "Fault", true), ("Malformed", "Malformed", true), ("Malformed", "NoText", false), ("Malformed", "Refused", false), ("NoText", "Fault", true), ("NoText", "Malformed", false), ("NoText", "NoText", true), ("NoText", "Refused", false), ("Refused", "Fault", true), ("Refused", "Malformed", false), ("Refused", "NoText", false), ("Refused", "Refused", true)]
def l1__law_state : DS := (sSeq (sSet 1 (dOp2 opAdd (dOp2 opMul (dVar 1) (dC (.int 1000003))) (dOp1n opAbs 3))) (sSet 2 (dOp2 opMod (dOp1 opInt (dOp2 opAdd (dOp2 opMul (dVar 2) (dC (.int 48271))) (dVar 3))) (dC (.int 2147483647)))))
def b__law_state : DS := (sSeq (sSet 1 (dC (.int 0))) (sSeq (sSet 2 (dC (.int 1))) (sSeq (sFor (.nm 3) (dItems (dSln 0 dNoP (dPart (dC (.int 63))))) l1__law_state) sPass)))
def r__law_state : Den (List D) := (dLst (dCons (dVar 1) (dCons (dVar 2) dNil)))
def d__law_state : List D → Option (List D) := runO 1 4 b__law_state r__law_state
def k2__law_take : DS := (sRet (dOp2 opMod (dOp1 opInt (dOp2 opDiv (dOp2n opIx 0 (dC (.int 1))) (dC (.int 7)))) (dVar 1)))
def k1__law_take : DS := (sSeq (sStore 0 (dC (.int 1)) (dOp2 opMod (dOp1 opInt (dOp2 opAdd (dOp2 opMul (dOp2n opIx 0 (dC (.int 1))) (dC (.int 48271))) (dC (.int 11)))) (dC (.int 2147483647)))) k2__law_take)
def b__law_take : DS := (sSeq (sIf (dTst (dOp2 opGt (dOp2n opIx 0 (dC (.int 0))) (dC (.int 0)))) (sSeq (sSet 2 (dOp2 opMod (dOp1 opInt (dOp2n opIx 0 (dC (.int 0)))) (dVar 1))) (sSeq (sStore 0 (dC (.int 0)) (dOp2 opDiv (dOp2n opIx 0 (dC (.int 0))) (dVar 1))) (sRet (dVar 2)))) sPass) k1__law_take)
def d__law_take : List D → List D → M (D × List D) := runR 2 3 b__law_take
def e1__law_extended : Den D := (dOp2 opIx (dOp2n opIx 1 (dVar 7)) (dVar 6))
def e2__law_extended : Den D := (dOp1 opTuple (dFrz (dComp [7] (.nm 7) (dRng (dVar 3)) dYes e1__law_extended)))
def e3__law_extended : Den D := (dOp2 opAdd (dVar 8) (dTup (dCons (dVar 3) dNil)))
def e4__law_extended : Den D := (dVar 3)
def e5__law_extended : Den D := (dOp2 opAdd (dOp2n opIx 1 (dVar 6)) (dTup (dCons (dVar 6) dNil)))
def e6__law_extended : Den D := (dOp2 opAdd (dOp2 opMul (dC (.int 2)) (dOp2 opIx (dOp2n opIx 1 (dOp2 opDiv (dVar 6) (dC (.int 2)))) (dOp2 opDiv (dVar 7) (dC (.int 2))))) (dOp2 opIx (dOp2n opIx 5 (dOp2 opMod (dOp1n opInt 6) (dC (.int 2)))) (dOp2 opMod (dOp1n opInt 7) (dC (.int 2)))))
def e7__law_extended : Den D := (dOp1 opTuple (dFrz (dComp [7] (.nm 7) (dRng (dOp2 opMul (dC (.int 2)) (dVar 3))) dYes e6__law_extended)))
def k6__law_extended : DS := (sRet (dVar 1))
def k5__law_extended : DS := (sSeq (sIf (dAnd (dTst (dOp2 opEq (dVar 4) (dC (.int 3)))) (dTst (dOp2 opLe (dOp2 opMul (dC (.int 2)) (dVar 3)) (dVar 2)))) (sSeq (sOwn 5 (dLst (dCons (dTup (dCons (dC (.int 0)) (dCons (dC (.int 0)) dNil))) (dCons (dTup (dCons (dC (.int 0)) (dCons (dC (.int 1)) dNil))) dNil)))) (sSeq (sIf (dTst (dOp2 opEq (dCallR d__law_take 0 (dCons (dC (.int 2)) dNil)) (dC (.int 0)))) (sOwn 5 (dLst (dCons (dTup (dCons (dC (.int 0)) (dCons (dC (.int 1)) dNil))) (dCons (dTup (dCons (dC (.int 1)) (dCons (dC (.int 0)) dNil))) dNil)))) sPass) (sRet (dFrz (dComp [6] (.nm 6) (dRng (dOp2 opMul (dC (.int 2)) (dVar 3))) dYes e7__law_extended))))) sPass) k6__law_extended)
def k4__law_extended : DS := (sSeq (sIf (dAnd (dTst (dOp2 opEq (dVar 4) (dC (.int 2)))) (dTst (dOp2 opLt (dVar 3) (dVar 2)))) (sRet (dFrz (dN2 nAdd (dFrz (dComp [6] (.nm 6) (dRng (dVar 3)) dYes e5__law_extended)) (dFrz (dLst (dCons (dTupRg (dRg1 (dOp2 opAdd (dVar 3) (dC (.int 1))))) dNil)))))) sPass) k5__law_extended)
def k3__law_extended : DS := (sSeq (sIf (dAnd (dTst (dOp2 opEq (dVar 4) (dC (.int 1)))) (dTst (dOp2 opLt (dVar 3) (dVar 2)))) (sRet (dFrz (dN2 nAdd (dFrz (dComp [8] (.nm 8) (dItems (dVar 1)) dYes e3__law_extended)) (dFrz (dLst (dCons (dOp1 opTuple (dFrz (dComp [7] (.nm 7) (dRng (dOp2 opAdd (dVar 3) (dC (.int 1)))) dYes e4__law_extended))) dNil)))))) sPass) k4__law_extended)
def k2__law_extended : DS := (sSeq (sIf (dTst (dOp2 opEq (dVar 4) (dC (.int 0)))) (sRet (dFrz (dComp [6] (.nm 6) (dRng (dVar 3)) dYes e2__law_extended))) sPass) k3__law_extended)
def k1__law_extended : DS := (sSeq (sSet 4 (dCallR d__law_take 0 (dCons (dC (.int 6)) dNil))) k2__law_extended)
def b__law_extended : DS := (sSeq (sSet 3 (dOp1n opLen 1)) k1__law_extended)
def d__law_extended : List D → List D → M (D × List D) := runR 3 9 b__law_extended
def e1__law_renamed : Den D := (dC (.int 0))
def e2__law_renamed : Den (List D) := (dComp [5] (.nm 5) (dRng (dVar 2)) dYes e1__law_renamed)
def l1__law_renamed : DS := (sStore2 3 (dOp2n opIx 1 (dVar 4)) (dOp2n opIx 1 (dVar 5)) (dOp2n opIx 1 (dOp2 opIx (dOp2n opIx 0 (dVar 4)) (dVar 5))))
def l2__law_renamed : DS := (sFor (.nm 5) (dRng (dVar 2)) l1__law_renamed)
def e3__law_renamed : Den D := (dOp1n opTuple 6)
def k3__law_renamed : DS := (sRet (dFrz (dComp [6] (.nm 6) (dItems (dVar 3)) dYes e3__law_renamed)))
def k2__law_renamed : DS := (sSeq (sFor (.nm 4) (dRng (dVar 2)) l2__law_renamed) k3__law_renamed)
def k1__law_renamed : DS := (sSeq (sOwn2 3 (dComp2 [4] (.nm 4) (dRng (dVar 2)) e2__law_renamed)) k2__law_renamed)
def b__law_renamed : DS := (sSeq (sSet 2 (dOp1n opLen 0)) k1__law_renamed)
def d__law_renamed : List D → M D := runF 2 7 b__law_renamed
def l1__law_triples : DS := (sSeq (sSet 11 (dOp2 opMod (dOp1n opInt 8) (dVar 1))) (sSeq (sSet 12 (dOp2 opDiv (dVar 10) (dOp2 opMul (dVar 2) (dVar 1)))) (sIf (dAnd (dTst (dVar 5)) (dTst (dOp2 opIx (dOp2n opIx 4 (dVar 11)) (dVar 12)))) (sExpr (dAppend 9 (dVar 6))) (sSeq (sSet 13 (dOp2 opMod (dOp1 opInt (dOp2 opAdd (dOp2 opAdd (dOp2 opDiv (dVar 8) (dVar 1)) (dOp2 opIx (dOp2n opIx 3 (dVar 11)) (dVar 12))) (dOp2 opDiv (dVar 10) (dVar 1)))) (dVar 2))) (sExpr (dAppend 9 (dOp2 opAdd (dOp2 opMul (dOp2 opAdd (dOp2 opMul (dOp2 opDiv (dVar 8) (dOp2 opMul (dVar 2) (dVar 1))) (dVar 2)) (dVar 13)) (dVar 1)) (dOp2 opMod (dOp1n opInt 10) (dVar 1)))))))))
def e1__law_triples : Den D := (dVar 6)
def l2__law_triples : DS := (sSeq (sOwn 9 (dLst dNil)) (sSeq (sFor (.nm 10) (dRng (dVar 6)) l1__law_triples) (sExpr (dAppend 7 (dOp1 opTuple (dFrz (dN2 nAdd (dVar 9) (dFrz (dComp [14] (.nm 14) (dRng (dOp1n opInt 5)) dYes e1__law_triples)))))))))
def e2__law_triples : Den D := (dVar 6)
def k4__law_triples : DS := (sRet (dVar 7))
def k3__law_triples : DS := (sSeq (sIf (dTst (dVar 5)) (sExpr (dAppend 7 (dOp1 opTuple (dFrz (dComp [14] (.nm 14) (dRng (dOp2 opAdd (dVar 6) (dC (.int 1)))) dYes e2__law_triples))))) sPass) k4__law_triples)
def k2__law_triples : DS := (sSeq (sFor (.nm 8) (dRng (dVar 6)) l2__law_triples) k3__law_triples)
def k1__law_triples : DS := (sSeq (sOwn 7 (dLst dNil)) k2__law_triples)
def b__law_triples : DS := (sSeq (sSet 6 (dOp2 opMul (dOp2 opMul (dVar 0) (dVar 1)) (dVar 2))) k1__law_triples)
def d__law_triples : List D → M D := runF 6 15 b__law_triples
def e1__law_blocks : Den D := (dCallR d__law_take 0 (dCons (dVar 4) dNil))
def e2__law_blocks : Den D := (dFrz (dComp [9] (.nm 9) (dRng (dVar 2)) dYes e1__law_blocks))
def e3__law_blocks : Den D := (dOp2 opEq (dCallR d__law_take 0 (dCons (dC (.int 3)) dNil)) (dC (.int 0)))
def e4__law_blocks : Den D := (dFrz (dComp [9] (.nm 9) (dRng (dVar 2)) dYes e3__law_blocks))
def k7__law_blocks : DS := (sRet (dCall d__law_triples (dCons (dVar 2) (dCons (dVar 3) (dCons (dVar 4) (dCons (dVar 5) (dCons (dVar 6) (dCons (dVar 7) dNil))))))))
def k6__law_blocks : DS := (sSeq (sSet 7 (dIf (dTst (dOp2 opEq (dCallR d__law_take 0 (dCons (dC (.int 2)) dNil)) (dC (.int 0)))) (dOp2 opLt (dOp2 opMul (dOp2 opMul (dVar 2) (dVar 3)) (dVar 4)) (dVar 1)) (dC (.bl false)))) k7__law_blocks)
def k5__law_blocks : DS := (sSeq (sOwn 6 (dComp [8] (.nm 8) (dRng (dVar 3)) dYes e4__law_blocks)) k6__law_blocks)
def k4__law_blocks : DS := (sSeq (sOwn 5 (dComp [8] (.nm 8) (dRng (dVar 3)) dYes e2__law_blocks)) k5__law_blocks)
def k3__law_blocks : DS := (sSeq (sIf (dTst (dOp2 opGt (dOp2 opAdd (dOp2 opMul (dOp2 opMul (dVar 2) (dVar 3)) (dVar 4)) (dC (.int 1))) (dVar 1))) (sAsg (.nms [2, 3, 4]) (dTup (dCons (dC (.int 1)) (dCons (dC (.int 1)) (dCons (dOp2 opMin2 (dC (.int 2)) (dVar 1)) dNil))))) sPass) k4__law_blocks)
def k2__law_blocks : DS := (sSeq (sSet 4 (dOp2 opAdd (dC (.int 1)) (dCallR d__law_take 0 (dCons (dC (.int 2)) dNil)))) k3__law_blocks)
def k1__law_blocks : DS := (sSeq (sSet 3 (dOp2 opAdd (dC (.int 1)) (dCallR d__law_take 0 (dCons (dC (.int 2)) dNil)))) k2__law_blocks)
def b__law_blocks : DS := (sSeq (sSet 2 (dOp2 opAdd (dC (.int 1)) (dCallR d__law_take 0 (dCons (dC (.int 2)) dNil)))) k1__law_blocks)
def d__law_blocks : List D → List D → M (D × List D) := runR 2 10 b__law_blocks
def l1__law_monogenic : DS := (sSeq (sSet 9 (dOp2 opAdd (dOp2 opAdd (dVar 6) (dVar 8)) (dC (.int 2)))) (sSeq (sIf (dTst (dOp2 opGt (dVar 9) (dVar 2))) (sSet 9 (dOp2 opAdd (dVar 4) (dOp2 opMod (dOp1 opInt (dOp2 opSub (dVar 9) (dVar 4))) (dVar 3)))) sPass) (sExpr (dAppend 7 (dOp2 opSub (dVar 9) (dC (.int 1)))))))
def l2__law_monogenic : DS := (sSeq (sOwn 7 (dLst dNil)) (sSeq (sFor (.nm 8) (dRng (dVar 2)) l1__law_monogenic) (sExpr (dAppend 5 (dOp1n opTuple 7)))))
def k5__law_monogenic : DS := (sRet (dVar 5))
def k4__law_monogenic : DS := (sSeq (sFor (.nm 6) (dRng (dVar 2)) l2__law_monogenic) k5__law_monogenic)
def k3__law_monogenic : DS := (sSeq (sOwn 5 (dLst dNil)) k4__law_monogenic)
def k2__law_monogenic : DS := (sSeq (sSet 4 (dOp2 opSub (dOp2 opAdd (dVar 2) (dC (.int 1))) (dVar 3))) k3__law_monogenic)
def k1__law_monogenic : DS := (sSeq (sSet 3 (dOp2 opAdd (dC (.int 1)) (dCallR d__law_take 0 (dCons (dVar 2) dNil)))) k2__law_monogenic)
def b__law_monogenic : DS := (sSeq (sSet 2 (dOp2 opAdd (dC (.int 1)) (dCallR d__law_take 0 (dCons (dVar 1) dNil)))) k1__law_monogenic)
def d__law_monogenic : List D → List D → M (D × List D) := runR 2 10 b__law_monogenic
def e1__law_after : Den D := (dOp2n opIx 1 (dVar 2))
def b__law_after : DS := (sRet (dOp1 opTuple (dFrz (dComp [2] (.nm 2) (dItems (dVar 0)) dYes e1__law_after))))
def d__law_after : List D → M D := runF 2 3 b__law_after
def l1__law_closed : DS := (sIf (dTst (dOp2m opNotIn (dVar 2) 1)) (sExpr (dAppend 1 (dVar 2))) sPass)
def l2__law_closed : DS := (sSeq (sSet 5 (dCall d__law_after (dCons (dVar 2) (dCons (dVar 4) dNil)))) (sIf (dAnd (dTst (dOp2m opNotIn (dVar 5) 1)) (dTst (dOp2 opLt (dOp1n opLen 1) (dC (.int 30))))) (sExpr (dAppend 1 (dVar 5))) sPass))
def l3__law_closed : DS := (sFor (.nm 4) (dItems (dVar 0)) l2__law_closed)
def l4__law_closed : DS := (sFor (.nm 2) (dItems (dFrz (dN1n nList 1))) l3__law_closed)
def k3__law_closed : DS := (sRet (dVar 1))
def k2__law_closed : DS := (sSeq (sFor (.nm 3) (dRng (dC (.int 30))) l4__law_closed) k3__law_closed)
def k1__law_closed : DS := (sSeq (sFor (.nm 2) (dItems (dVar 0)) l1__law_closed) k2__law_closed)
def b__law_closed : DS := (sSeq (sOwn 1 (dLst dNil)) k1__law_closed)
def d__law_closed : List D → M D := runF 1 6 b__law_closed
def e1__law_of_maps : Den D := (dCallR d__law_take 0 (dCons (dVar 2) dNil))
def l1__law_of_maps : DS := (sExpr (dAppend 3 (dOp1 opTuple (dFrz (dComp [6] (.nm 6) (dRng (dVar 2)) dYes e1__law_of_maps)))))
def e2__law_of_maps : Den D := (dOp2 opIx (dOp2n opIx 3 (dC (.int 0))) (dC (.int 0)))
def e3__law_of_maps : Den D := (dIndexN 5 (dCall d__law_after (dCons (dVar 7) (dCons (dVar 8) dNil))))
def e4__law_of_maps : Den D := (dOp1 opTuple (dFrz (dComp [8] (.nm 8) (dItems (dVar 5)) dYes e3__law_of_maps)))
def k6__law_of_maps : DS := (sRet (dFrz (dPre 5 (dComp [7] (.nm 7) (dItems (dVar 5)) dYes e4__law_of_maps))))
def k5__law_of_maps : DS := (sSeq (sIf (dTst (dOp2 opGt (dOp1n opLen 5) (dVar 1))) (sOwn 5 (dLst (dCons (dOp1 opTuple (dFrz (dComp [6] (.nm 6) (dRng (dVar 2)) dYes e2__law_of_maps))) dNil))) sPass) k6__law_of_maps)
def k4__law_of_maps : DS := (sSeq (sIf (dTst (dOp2 opGt (dOp1n opLen 5) (dVar 1))) (sSet 5 (dCall d__law_closed (dCons (dSln 3 dNoP (dPart (dC (.int 1)))) dNil))) sPass) k5__law_of_maps)
def k3__law_of_maps : DS := (sSeq (sSet 5 (dCall d__law_closed (dCons (dVar 3) dNil))) k4__law_of_maps)
def k2__law_of_maps : DS := (sSeq (sFor (.nm 4) (dRng (dOp2 opAdd (dC (.int 1)) (dCallR d__law_take 0 (dCons (dC (.int 2)) dNil)))) l1__law_of_maps) k3__law_of_maps)
def k1__law_of_maps : DS := (sSeq (sOwn 3 (dLst dNil)) k2__law_of_maps)
def b__law_of_maps : DS := (sSeq (sSet 2 (dOp2 opAdd (dC (.int 2)) (dCallR d__law_take 0 (dCons (dC (.int 2)) dNil)))) k1__law_of_maps)
def d__law_of_maps : List D → List D → M (D × List D) := runR 2 9 b__law_of_maps
def e1__law_plain : Den D := (dVar 4)
def e2__law_plain : Den D := (dOp1 opTuple (dFrz (dComp [5] (.nm 5) (dRng (dVar 3)) dYes e1__law_plain)))
def e3__law_plain : Den D := (dC (.int 0))
def e4__law_plain : Den D := (dOp1 opTuple (dFrz (dComp [5] (.nm 5) (dRng (dVar 3)) dYes e3__law_plain)))
def e5__law_plain : Den D := (dOp2 opMin2 (dVar 4) (dVar 5))
def e6__law_plain : Den D := (dOp1 opTuple (dFrz (dComp [5] (.nm 5) (dRng (dVar 3)) dYes e5__law_plain)))
def k7__law_plain : DS := (sRet (dCallR d__law_blocks 0 (dCons (dVar 1) dNil)))
def k6__law_plain : DS := (sSeq (sIf (dTst (dOp2 opLt (dVar 2) (dC (.int 6)))) (sRet (dCallR d__law_of_maps 0 (dCons (dVar 1) dNil))) sPass) k7__law_plain)
def k5__law_plain : DS := (sSeq (sIf (dTst (dOp2 opEq (dVar 2) (dC (.int 3)))) (sRet (dFrz (dComp [4] (.nm 4) (dRng (dVar 3)) dYes e6__law_plain))) sPass) k6__law_plain)
def k4__law_plain : DS := (sSeq (sIf (dTst (dOp2 opEq (dVar 2) (dC (.int 2)))) (sRet (dCallR d__law_monogenic 0 (dCons (dVar 1) dNil))) sPass) k5__law_plain)
def k3__law_plain : DS := (sSeq (sIf (dTst (dOp2 opEq (dVar 2) (dC (.int 1)))) (sRet (dFrz (dComp [4] (.nm 4) (dRng (dVar 3)) dYes e4__law_plain))) sPass) k4__law_plain)
def k2__law_plain : DS := (sSeq (sIf (dTst (dOp2 opEq (dVar 2) (dC (.int 0)))) (sRet (dFrz (dComp [4] (.nm 4) (dRng (dVar 3)) dYes e2__law_plain))) sPass) k3__law_plain)
def k1__law_plain : DS := (sSeq (sSet 3 (dOp2 opAdd (dC (.int 1)) (dCallR d__law_take 0 (dCons (dVar 1) dNil)))) k2__law_plain)
def b__law_plain : DS := (sSeq (sSet 2 (dCallR d__law_take 0 (dCons (dC (.int 8)) dNil))) k1__law_plain)
def d__law_plain : List D → List D → M (D × List D) := runR 2 6 b__law_plain
def l1__law_order_of : DS := (sExpr (dAppend 3 (dPopAt 2 (dCallR d__law_take 0 (dCons (dOp1n opLen 2) dNil)))))
def k3__law_order_of : DS := (sRet (dVar 3))
def k2__law_order_of : DS := (sSeq (sFor (.nm 4) (dRng (dVar 1)) l1__law_order_of) k3__law_order_of)
def k1__law_order_of : DS := (sSeq (sOwn 3 (dLst dNil)) k2__law_order_of)
def b__law_order_of : DS := (sSeq (sOwn 2 (dLstRg (dRg1 (dVar 1)))) k1__law_order_of)
def d__law_order_of : List D → List D → M (D × List D) := runR 2 5 b__law_order_of
def b__law_semigroup : DS := (sSeq (sSet 2 (dCallR d__law_extended 0 (dCons (dCallR d__law_plain 0 (dCons (dVar 1) dNil)) (dCons (dVar 1) dNil)))) (sRet (dCall d__law_renamed (dCons (dVar 2) (dCons (dCallR d__law_order_of 0 (dCons (dOp1n opLen 2) dNil)) dNil)))))
def d__law_semigroup : List D → List D → M (D × List D) := runR 2 3 b__law_semigroup
def b_is_integer : DS := (sRet (dIf (dTst (dOp1 (opIsi "int") (dVar 0))) (dVal (dNot (dTst (dOp1 (opIsi "bool") (dVar 0))))) (dC (.bl false))))
def d_is_integer : List D → M D := runF 1 1 b_is_integer
def b_is_item : DS := (sRet (dIf (dTst (dCall d_is_integer (dCons (dVar 0) dNil))) (dChain opLe opLt (dC (.int 0)) (dVar 0) (dVar 1)) (dC (.bl false))))
def d_is_item : List D → M D := runF 2 2 b_is_item
def l1_taken_table : DS := (sIf (dNot (dTst (dCall d_is_item (dCons (dVar 3) (dCons (dOp1n opLen 0) dNil))))) (sRaise0 "Malformed") sPass)
def l2_taken_table : DS := (sSeq (sIf (dOr (dNot (dTst (dOp1 (opIsi2 "list" "tuple") (dVar 2)))) (dTst (dOp2 opNe (dOp1n opLen 2) (dOp1n opLen 0)))) (sRaise0 "Malformed") sPass) (sSeq (sFor (.nm 3) (dItems (dVar 2)) l1_taken_table) (sExpr (dAppend 1 (dOp1n opTuple 2)))))
def k3_taken_table : DS := (sRet (dOp1n opTuple 1))
def k2_taken_table : DS := (sSeq (sFor (.nm 2) (dItems (dVar 0)) l2_taken_table) k3_taken_table)
def k1_taken_table : DS := (sSeq (sOwn 1 (dLst dNil)) k2_taken_table)
def b_taken_table : DS := (sSeq (sIf (dOr (dNot (dTst (dOp1 (opIsi2 "list" "tuple") (dVar 0)))) (dTst (dOp2 opEq (dOp1n opLen 0) (dC (.int 0))))) (sRaise0 "Malformed") sPass) k1_taken_table)
def d_taken_table : List D → M D := runF 1 4 b_taken_table
def e1_is_associative : Den D := (dOp2 opIx (dOp2n opIx 0 (dOp2n opIx 1 (dVar 2))) (dVar 3))
def e2_is_associative : Den D := (dOp2n opIx 1 (dVar 4))
def l1_is_associative : DS := (sIf (dTst (dOp2 opNe (dFrz (dComp [3] (.nm 3) (dRng (dOp1n opLen 0)) dYes e1_is_associative)) (dFrz (dComp [4] (.nm 4) (dItems (dOp2n opIx 0 (dVar 2))) dYes e2_is_associative)))) (sRet (dC (.bl false))) sPass)
def l2_is_associative : DS := (sFor (.nm 2) (dRng (dOp1n opLen 0)) l1_is_associative)
def b_is_associative : DS := (sSeq (sFor (.nm 1) (dItems (dVar 0)) l2_is_associative) (sRet (dC (.bl true))))
def d_is_associative : List D → M D := runF 1 5 b_is_associative
def k4_Semigroup___init__ : DS := (sSelf 0 "Semigroup" "table" (dVar 2))
def k3_Semigroup___init__ : DS := (sSeq (sSelf 0 "Semigroup" "n" (dOp1n opLen 2)) k4_Semigroup___init__)
def k2_Semigroup___init__ : DS := (sSeq (sIf (dNot (dTst (dCall d_is_associative (dCons (dVar 2) dNil)))) (sRaise1 "Refused" "reason" (dC (.str "associative"))) sPass) k3_Semigroup___init__)
def k1_Semigroup___init__ : DS := (sSeq (sIf (dTst (dOp2 opGt (dOp1n opLen 2) (dC (.int 24)))) (sRaise1 "Refused" "reason" (dC (.str "large"))) sPass) k2_Semigroup___init__)
def b_Semigroup___init__ : DS := (sSeq (sSet 2 (dCall d_taken_table (dCons (dVar 1) dNil))) k1_Semigroup___init__)
def d_Semigroup___init__ : List D → M (List Str × List D) := runI "Semigroup" 2 3 b_Semigroup___init__
def e1_Semigroup___str__ : Den D := (dOp1n opStr 3)
def e2_Semigroup___str__ : Den D := (dOp2 opAdd (dC (.str " ")) (dJoin (dC (.str " ")) (dFrz (dComp [3] (.nm 3) (dItems (dVar 2)) dYes e1_Semigroup___str__))))
def b_Semigroup___str__ : DS := (sSeq (sSet 1 (dJoin (dC (.str ";")) (dFrz (dComp [2] (.nm 2) (dItems (dOp1 (opFld "Semigroup" "table") (dVar 0))) dYes e2_Semigroup___str__)))) (sRet (dFStr [(dOp1 opFmt (dOp1 (opFld "Semigroup" "n") (dVar 0))), (dC (.str ":")), (dOp1 opFmt (dVar 1))])))
def d_Semigroup___str__ : List D → M D := runF 1 4 b_Semigroup___str__
def b_Semigroup___eq__ : DS := (sRet (dIf (dTst (dOp1 (opIsC "Semigroup") (dVar 1))) (dOp2 opEq (dOp1 (opFld "Semigroup" "table") (dVar 0)) (dOp1 (opFld "Semigroup" "table") (dVar 1))) (dC (.bl false))))
def d_Semigroup___eq__ : List D → M D := runF 2 2 b_Semigroup___eq__
def l1_read_number : DS := (sIf (dTst (dOp2 opNotIn (dVar 1) (dC (.str "0123456789")))) (sRaise1 "NoText" "at" (dC (.int 0))) sPass)
def k2_read_number : DS := (sRet (dOp1 opIntS (dVar 0)))
def k1_read_number : DS := (sSeq (sFor (.nm 1) (dStrItems (dVar 0)) l1_read_number) k2_read_number)
def b_read_number : DS := (sSeq (sIf (dOr (dTst (dOp2 opEq (dVar 0) (dC (.str "")))) (dOr (dTst (dOp2 opGt (dOp1n opLen 0) (dC (.int 2)))) (dAnd (dTst (dOp2 opEq (dOp1n opLen 0) (dC (.int 2)))) (dTst (dOp2 opEq (dOp2n opIx 0 (dC (.int 0))) (dC (.str "0"))))))) (sRaise1 "NoText" "at" (dC (.int 0))) sPass) k1_read_number)
def d_read_number : List D → M D := runF 1 2 b_read_number
def e1_read_semigroup : Den D := (dCall d_read_number (dCons (dVar 7) dNil))
def l1_read_semigroup : DS := (sSeq (sIf (dNot (dTst (dSS fnStarts (dVar 6) (dC (.str " "))))) (sRaise1 "NoText" "at" (dC (.int 0))) sPass) (sExpr (dAppend 5 (dFrz (dCompX [7] (.nm 7) (dItems (dFrz (dSplit (dSlS (dVar 6) (dPart (dC (.int 1))) dNoP) (dC (.str " "))))) e1_read_semigroup)))))
def y1_read_semigroup : DS := (sRet (dCall (makeM "Semigroup" d_Semigroup___init__) (dCons (dVar 5) dNil)))
def h1_read_semigroup : DS := (sRaise1 "NoText" "at" (dC (.int 0)))
def k6_read_semigroup : DS := (sTryX mt y1_read_semigroup "Fault" h1_read_semigroup)
def k5_read_semigroup : DS := (sSeq (sIf (dOr (dTst (dOp2 opEq (dVar 2) (dC (.str "")))) (dTst (dOp2 opNe (dOp1n opLen 5) (dVar 4)))) (sRaise1 "NoText" "at" (dC (.int 0))) sPass) k6_read_semigroup)
def k4_read_semigroup : DS := (sSeq (sFor (.nm 6) (dItems (dFrz (dSplit (dVar 3) (dC (.str ";"))))) l1_read_semigroup) k5_read_semigroup)
def k3_read_semigroup : DS := (sSeq (sOwn 5 (dLst dNil)) k4_read_semigroup)
def k2_read_semigroup : DS := (sSeq (sSet 4 (dCall d_read_number (dCons (dVar 1) dNil))) k3_read_semigroup)
def k1_read_semigroup : DS := (sSeq (sAsg (.nms [1, 2, 3]) (dPartn (dVar 0) (dC (.str ":")))) k2_read_semigroup)
def b_read_semigroup : DS := (sSeq (sIf (dNot (dTst (dOp1 (opIsS "Semigroup") (dVar 0)))) (sRaise1 "NoText" "at" (dC (.int 0))) sPass) k1_read_semigroup)
def d_read_semigroup : List D → M D := runF 1 8 b_read_semigroup
def y1__law_at : DS := (sExpr (dCall d_read_semigroup (dCons (dVar 0) dNil)))
def b__law_at : DS := (sSeq (sTry mt y1__law_at (⟨"NoText", some 1, (sRet (dXf 1 "NoText" "at"))⟩ :: [])) (sRet (dC .non)))
def d__law_at : List D → M D := runF 1 2 b__law_at
def l1_law : DS := (sSet 5 (dOp2 opAdd (dOp2 opAdd (dVar 5) (dC (.str " "))) (dOp1 opStr (dOp2 opIx (dOp2n opIx 2 (dVar 6)) (dVar 7)))))
def l2_law : DS := (sSeq (sIf (dTst (dOp2 opGt (dVar 6) (dC (.int 0)))) (sSet 5 (dOp2 opAdd (dVar 5) (dC (.str ";")))) sPass) (sFor (.nm 7) (dRng (dVar 3)) l1_law))
def e1_law : Den D := (dVar 9)
def t1_law : Den Bool := (dTst (dOp2 opNe (dCall d__law_at (dCons (dVar 9) dNil)) (dC (.int 0))))
def k9_law : DS := (sRet (dOp2 opEq (dOp1 opLen (dFrz (dComp [9] (.nm 9) (dItems (dVar 8)) t1_law e1_law))) (dC (.int 0))))
def k8_law : DS := (sSeq (sOwn 8 (dN2 nAdd (dVar 8) (dFrz (dLst (dCons (dOp2 opAdd (dSlS (dVar 5) dNoP (dPart (dOp1 opNeg (dC (.int 1))))) (dOp1n opStr 3)) (dCons (dOp1 (opRepl ": " ":") (dVar 5)) (dCons (dOp1 (opRepl ":" ";") (dVar 5)) (dCons (dC (.str "")) (dCons (dC (.str "1")) (dCons (dC (.str "1:")) (dCons (dC (.str "0:")) (dCons (dC (.str "0: 0")) (dCons (dC (.str "1: 1")) (dCons (dC (.str "1: 00")) (dCons (dC (.str "1: -0")) (dCons (dC (.str "2: 1 0; 0 0")) (dCons (dC (.str "2: 0 0;0 0")) (dCons (dC .non) (dCons (dC (.int 0)) (dCons (dVar 4) (dCons (dTup (dCons (dC (.str "1: 0")) dNil)) dNil))))))))))))))))))))) k9_law)
def k7_law : DS := (sSeq (sOwn 8 (dLst (dCons (dOp2 opAdd (dVar 5) (dC (.str " "))) (dCons (dOp2 opAdd (dC (.str " ")) (dVar 5)) (dCons (dOp2 opAdd (dVar 5) (dC (.str ";"))) (dCons (dOp2 opAdd (dVar 5) (dC (.str " 0"))) (dCons (dOp2 opAdd (dVar 5) (dC (.str "; 0"))) (dCons (dSlS (dVar 5) (dPart (dC (.int 1))) dNoP) (dCons (dOp2 opAdd (dC (.str "0")) (dVar 5)) (dCons (dOp1 (opRepl ":" "") (dVar 5)) (dCons (dOp1 (opRepl " " "  ") (dVar 5)) (dCons (dSlS (dVar 5) dNoP (dPart (dOp1 opNeg (dC (.int 1))))) (dCons (dOp2 opAdd (dSlS (dVar 5) dNoP (dPart (dOp1 opNeg (dC (.int 1))))) (dC (.str "x"))) dNil))))))))))))) k8_law)
def k6_law : DS := (sSeq (sIf (dOr (dTst (dOp2 opNe (dOp1 (opStrO "Semigroup" d_Semigroup___str__) (dVar 4)) (dVar 5))) (dTst (dOp2 opIsNot (dOp2 (opOwn "Semigroup" d_Semigroup___eq__ id) (dCall d_read_semigroup (dCons (dVar 5) dNil)) (dVar 4)) (dC (.bl true))))) (sRet (dC (.bl false))) sPass) k7_law)
def k5_law : DS := (sSeq (sFor (.nm 6) (dRng (dVar 3)) l2_law) k6_law)
def k4_law : DS := (sSeq (sSet 5 (dOp2 opAdd (dOp1n opStr 3) (dC (.str ":")))) k5_law)
def k3_law : DS := (sSeq (sSet 4 (dCall (makeM "Semigroup" d_Semigroup___init__) (dCons (dVar 2) dNil))) k4_law)
def k2_law : DS := (sSeq (sSet 3 (dOp1n opLen 2)) k3_law)
def k1_law : DS := (sSeq (sSet 2 (dCallR d__law_semigroup 1 (dCons (dC (.int 6)) dNil))) k2_law)
def b_law : DS := (sSeq (sOwn 1 (dCallO d__law_state (dCons (dVar 0) dNil))) k1_law)
def d_law : List D → M D := runF 1 10 b_law
def dd__law_state : He.DefD := ⟨("_law_state", none), "_law_state", "_law_state", defArgs (topS 18), defBody (topS 18), defScope (topS 18), [], []⟩
def dd__law_take : He.DefD := ⟨("_law_take", none), "_law_take", "_law_take", defArgs (topS 19), defBody (topS 19), defScope (topS 19), [], []⟩
def dd__law_extended : He.DefD := ⟨("_law_extended", none), "_law_extended", "_law_extended", defArgs (topS 29), defBody (topS 29), defScope (topS 29), [], []⟩
def dd__law_renamed : He.DefD := ⟨("_law_renamed", none), "_law_renamed", "_law_renamed", defArgs (topS 21), defBody (topS 21), defScope (topS 21), [], []⟩
def dd__law_triples : He.DefD := ⟨("_law_triples", none), "_law_triples", "_law_triples", defArgs (topS 26), defBody (topS 26), defScope (topS 26), [], []⟩
def dd__law_blocks : He.DefD := ⟨("_law_blocks", none), "_law_blocks", "_law_blocks", defArgs (topS 27), defBody (topS 27), defScope (topS 27), [], []⟩
def dd__law_monogenic : He.DefD := ⟨("_law_monogenic", none), "_law_monogenic", "_law_monogenic", defArgs (topS 25), defBody (topS 25), defScope (topS 25), [], []⟩
def dd__law_after : He.DefD := ⟨("_law_after", none), "_law_after", "_law_after", defArgs (topS 22), defBody (topS 22), defScope (topS 22), [], []⟩
def dd__law_closed : He.DefD := ⟨("_law_closed", none), "_law_closed", "_law_closed", defArgs (topS 23), defBody (topS 23), defScope (topS 23), [], []⟩
def dd__law_of_maps : He.DefD := ⟨("_law_of_maps", none), "_law_of_maps", "_law_of_maps", defArgs (topS 24), defBody (topS 24), defScope (topS 24), [], []⟩
def dd__law_plain : He.DefD := ⟨("_law_plain", none), "_law_plain", "_law_plain", defArgs (topS 28), defBody (topS 28), defScope (topS 28), [], []⟩
def dd__law_order_of : He.DefD := ⟨("_law_order_of", none), "_law_order_of", "_law_order_of", defArgs (topS 20), defBody (topS 20), defScope (topS 20), [], []⟩
def dd__law_semigroup : He.DefD := ⟨("_law_semigroup", none), "_law_semigroup", "_law_semigroup", defArgs (topS 30), defBody (topS 30), defScope (topS 30), [], []⟩
def dd_is_integer : He.DefD := ⟨("is_integer", none), "is_integer", "is_integer", defArgs (topS 7), defBody (topS 7), defScope (topS 7), [], []⟩
def dd_is_item : He.DefD := ⟨("is_item", none), "is_item", "is_item", defArgs (topS 11), defBody (topS 11), defScope (topS 11), [], []⟩
def dd_taken_table : He.DefD := ⟨("taken_table", none), "taken_table", "taken_table", defArgs (topS 12), defBody (topS 12), defScope (topS 12), [], []⟩
def dd_is_associative : He.DefD := ⟨("is_associative", none), "is_associative", "is_associative", defArgs (topS 13), defBody (topS 13), defScope (topS 13), [], []⟩
def dd_Semigroup___init__ : He.DefD := ⟨("Semigroup", some "__init__"), "__init__", "Semigroup.__init__", defArgs (inClass (topS 14) 0), defBody (inClass (topS 14) 0), defScope (inClass (topS 14) 0), [], []⟩
def dd_Semigroup___str__ : He.DefD := ⟨("Semigroup", some "__str__"), "__str__", "Semigroup.__str__", defArgs (inClass (topS 14) 2), defBody (inClass (topS 14) 2), defScope (inClass (topS 14) 2), [], []⟩
def dd_Semigroup___eq__ : He.DefD := ⟨("Semigroup", some "__eq__"), "__eq__", "Semigroup.__eq__", defArgs (inClass (topS 14) 1), defBody (inClass (topS 14) 1), defScope (inClass (topS 14) 1), [], []⟩
def dd_read_number : He.DefD := ⟨("read_number", none), "read_number", "read_number", defArgs (topS 15), defBody (topS 15), defScope (topS 15), [], []⟩
def dd_read_semigroup : He.DefD := ⟨("read_semigroup", none), "read_semigroup", "read_semigroup", defArgs (topS 16), defBody (topS 16), defScope (topS 16), [], []⟩
def dd__law_at : He.DefD := ⟨("_law_at", none), "_law_at", "_law_at", defArgs (topS 31), defBody (topS 31), defScope (topS 31), [], []⟩
def dd_law : He.DefD := ⟨("law", none), "law", "law", defArgs (topS 32), defBody (topS 32), defScope (topS 32), [], []⟩
def fn : List He.DefD := [dd__law_state, dd__law_take, dd__law_extended, dd__law_renamed, dd__law_triples, dd__law_blocks, dd__law_monogenic, dd__law_after, dd__law_closed, dd__law_of_maps, dd__law_plain, dd__law_order_of, dd__law_semigroup, dd_is_integer, dd_is_item, dd_taken_table, dd_is_associative, dd_Semigroup___init__, dd_Semigroup___str__, dd_Semigroup___eq__, dd_read_number, dd_read_semigroup, dd__law_at, dd_law]
def ed_NoText : He.DefD := ⟨("NoText", some "__init__"), "__init__", "NoText.__init__", defArgs (inClass (topS 5) 0), defBody (inClass (topS 5) 0), defScope (inClass (topS 5) 0), [], []⟩
def ed_Refused : He.DefD := ⟨("Refused", some "__init__"), "__init__", "Refused.__init__", defArgs (inClass (topS 4) 0), defBody (inClass (topS 4) 0), defScope (inClass (topS 4) 0), [], []⟩
def xn : List He.DefD := [ed_NoText, ed_Refused]
def fa : List He.Fa := [.free "abs", .free "bool", .free "int", .free "isinstance", .free "len", .free "list", .free "min", .free "range", .free "str", .free "super", .free "tuple", .int "MOST" 24, .str "DIGITS" "0123456789", .glo "Semigroup", .cls "Semigroup", .noat "Semigroup" "n", .noat "Semigroup" "table", .glo "Fault", .exc "Fault", .glo "Malformed", .exc "Malformed", .glo "NoText", .glo "Refused", .exm "Refused" "Refused" true, .exm "Refused" "NoText" false, .exm "Refused" "Malformed" false, .exm "Refused" "Fault" true, .exm "NoText" "Refused" false, .exm "NoText" "NoText" true, .exm "NoText" "Malformed" false, .exm "NoText" "Fault" true, .exm "Malformed" "Refused" false, .exm "Malformed" "NoText" false, .exm "Malformed" "Malformed" true, .exm "Malformed" "Fault" true, .exm "Fault" "Refused" false, .exm "Fault" "NoText" false, .exm "Fault" "Malformed" false, .exm "Fault" "Fault" true, .glo "_law_state", .glo "_law_take", .glo "_law_extended", .glo "_law_renamed", .glo "_law_triples", .glo "_law_blocks", .glo "_law_monogenic", .glo "_law_after", .glo "_law_closed", .glo "_law_of_maps", .glo "_law_plain", .glo "_law_order_of", .glo "_law_semigroup", .glo "is_integer", .glo "is_item", .glo "taken_table", .glo "is_associative", .mkr "Semigroup", .meth "Semigroup" "__str__", .meth "Semigroup" "__eq__", .glo "read_number", .glo "read_semigroup", .glo "_law_at", .glo "law"]
def ex (K : PySem.W.Frag) : Bool := (true && ((isfB K "Semigroup" && issB K "Semigroup") && (ownB K "Semigroup" && (errB K PP.main.file "NoText" "at" && errB K PP.main.file "Refused" "reason"))))
section
variable {w : World} {K : PySem.W.Frag} {mg : Str → Option Value} {base h : Heap}
theorem T_free_abs (KX : K.In h) (G : h.Ns mainGlobals mg) (c : Says fa fn xn ex K) : mg "abs" = none := He.free_ok KX G (c.fact 0 (f := .free "abs") rfl)
theorem T_free_bool (KX : K.In h) (G : h.Ns mainGlobals mg) (c : Says fa fn xn ex K) : mg "bool" = none := He.free_ok KX G (c.fact 1 (f := .free "bool") rfl)
theorem T_free_int (KX : K.In h) (G : h.Ns mainGlobals mg) (c : Says fa fn xn ex K) : mg "int" = none := He.free_ok KX G (c.fact 2 (f := .free "int") rfl)
theorem T_free_isinstance (KX : K.In h) (G : h.Ns mainGlobals mg) (c : Says fa fn xn ex K) : mg "isinstance" = none := He.free_ok KX G (c.fact 3 (f := .free "isinstance") rfl)
theorem T_free_len (KX : K.In h) (G : h.Ns mainGlobals mg) (c : Says fa fn xn ex K) : mg "len" = none := He.free_ok KX G (c.fact 4 (f := .free "len") rfl)
theorem T_free_list (KX : K.In h) (G : h.Ns mainGlobals mg) (c : Says fa fn xn ex K) : mg "list" = none := He.free_ok KX G (c.fact 5 (f := .free "list") rfl)
theorem T_free_min (KX : K.In h) (G : h.Ns mainGlobals mg) (c : Says fa fn xn ex K) : mg "min" = none := He.free_ok KX G (c.fact 6 (f := .free "min") rfl)
theorem T_free_range (KX : K.In h) (G : h.Ns mainGlobals mg) (c : Says fa fn xn ex K) : mg "range" = none := He.free_ok KX G (c.fact 7 (f := .free "range") rfl)
theorem T_free_str (KX : K.In h) (G : h.Ns mainGlobals mg) (c : Says fa fn xn ex K) : mg "str" = none := He.free_ok KX G (c.fact 8 (f := .free "str") rfl)
theorem T_free_super (KX : K.In h) (G : h.Ns mainGlobals mg) (c : Says fa fn xn ex K) : mg "super" = none := He.free_ok KX G (c.fact 9 (f := .free "super") rfl)
theorem T_free_tuple (KX : K.In h) (G : h.Ns mainGlobals mg) (c : Says fa fn xn ex K) : mg "tuple" = none := He.free_ok KX G (c.fact 10 (f := .free "tuple") rfl)
theorem T_int_MOST (KX : K.In h) (G : h.Ns mainGlobals mg) (c : Says fa fn xn ex K) : ∃ t, mg "MOST" = some (.int 24 t) := He.int_ok KX G (c.fact 11 (f := .int "MOST" 24) rfl)
theorem T_str_DIGITS (KX : K.In h) (G : h.Ns mainGlobals mg) (c : Says fa fn xn ex K) : ∃ t, mg "DIGITS" = some (.str "0123456789" t) := He.str_ok KX G (c.fact 12 (f := .str "DIGITS" "0123456789") rfl)
theorem T_cls_Semigroup (KX : K.In h) (G : h.Ns mainGlobals mg) (c : Says fa fn xn ex K) : ClsF ⟨K, mg, none, TK⟩ "Semigroup" (He.ga K "Semigroup") := ⟨He.glo_ok KX G (c.fact 13 (f := .glo "Semigroup") rfl), He.cls_ok (c.fact 14 (f := .cls "Semigroup") rfl)⟩
theorem T_noat_Semigroup_n (KX : K.In h) (G : h.Ns mainGlobals mg) (c : Says fa fn xn ex K) : NoAttr K (He.ga K "Semigroup") "n" := He.noat_ok (c.fact 15 (f := .noat "Semigroup" "n") rfl)
theorem T_noat_Semigroup_table (KX : K.In h) (G : h.Ns mainGlobals mg) (c : Says fa fn xn ex K) : NoAttr K (He.ga K "Semigroup") "table" := He.noat_ok (c.fact 16 (f := .noat "Semigroup" "table") rfl)
theorem T_isf_Semigroup (KX : K.In h) (G : h.Ns mainGlobals mg) (c : Says fa fn xn ex K) : IsF ⟨K, mg, none, TK⟩ "Semigroup" (He.ga K "Semigroup") := isfB_ok (T_cls_Semigroup KX G c) (He.ba (He.ba (He.ba c.xtra).2).1).1
theorem T_iss_Semigroup (KX : K.In h) (G : h.Ns mainGlobals mg) (c : Says fa fn xn ex K) : PySem.W.kitOne K (.ref (He.ga K "Semigroup")) (.type "str") = some false := of_decide_eq_true (He.ba (He.ba (He.ba c.xtra).2).1).2
theorem T_own_Semigroup (KX : K.In h) (G : h.Ns mainGlobals mg) (c : Says fa fn xn ex K) : NfO K (He.ga K "Semigroup") := ownB_ok (He.ba (He.ba (He.ba c.xtra).2).2).1
theorem T_glo_Fault (KX : K.In h) (G : h.Ns mainGlobals mg) (c : Says fa fn xn ex K) : mg "Fault" = some (.ref (He.ga K "Fault")) := He.glo_ok KX G (c.fact 17 (f := .glo "Fault") rfl)
theorem T_glo_Malformed (KX : K.In h) (G : h.Ns mainGlobals mg) (c : Says fa fn xn ex K) : mg "Malformed" = some (.ref (He.ga K "Malformed")) := He.glo_ok KX G (c.fact 19 (f := .glo "Malformed") rfl)
theorem T_exc_Malformed (KX : K.In h) (G : h.Ns mainGlobals mg) (c : Says fa fn xn ex K) : PySem.W.excIn K (He.ga K "Malformed") He.veBase "ValueError.__new__" = true ∧ PySem.W.keepIn K (.ref (He.ga K "Malformed")) = true ∧ PySem.W.subIn K (.ref (He.ga K "Malformed")) (.type "BaseException") = some true ∧ PySem.W.typeIn K (.ref (He.ga K "Malformed")) = some (.type "type") := He.exc_ok (c.fact 20 (f := .exc "Malformed") rfl)
theorem T_glo_NoText (KX : K.In h) (G : h.Ns mainGlobals mg) (c : Says fa fn xn ex K) : mg "NoText" = some (.ref (He.ga K "NoText")) := He.glo_ok KX G (c.fact 21 (f := .glo "NoText") rfl)
theorem T_err_NoText (KX : K.In h) (G : h.Ns mainGlobals mg) (c : Says fa fn xn ex K) : PySem.ErrX.ErrTxt PP K "NoText" "NoText.__init__" (He.ga K "NoText") (He.fAd K ("NoText", some "__init__")) "at" "at" (argOf (defBody (inClass (topS 5) 0))) ∧ XfC K (He.ga K "NoText") :=
  err_txt (d := ed_NoText) (file := PP.main.file) (c.clo 0) (He.ba (He.ba (He.ba (He.ba c.xtra).2).2).2).1 (He.eqO_ok (c.fact 9 (f := .free "super") rfl)) rfl rfl rfl rfl rfl rfl (.inr ⟨_, _, _, rfl⟩) ⟨by decide, by decide, by decide, by decide⟩ (fun _ _ _ _ _ _ _ _ _ _ _ _ _ => BindsTo.of_eq rfl) rfl psup (fun _ => rfl)
theorem T_glo_Refused (KX : K.In h) (G : h.Ns mainGlobals mg) (c : Says fa fn xn ex K) : mg "Refused" = some (.ref (He.ga K "Refused")) := He.glo_ok KX G (c.fact 22 (f := .glo "Refused") rfl)
theorem T_err_Refused (KX : K.In h) (G : h.Ns mainGlobals mg) (c : Says fa fn xn ex K) : PySem.ErrX.ErrTxt PP K "Refused" "Refused.__init__" (He.ga K "Refused") (He.fAd K ("Refused", some "__init__")) "reason" "reason" (argOf (defBody (inClass (topS 4) 0))) ∧ XfC K (He.ga K "Refused") :=
  err_txt (d := ed_Refused) (file := PP.main.file) (c.clo 1) (He.ba (He.ba (He.ba (He.ba c.xtra).2).2).2).2 (He.eqO_ok (c.fact 9 (f := .free "super") rfl)) rfl rfl rfl rfl rfl rfl (.inl ⟨_, rfl⟩) ⟨by decide, by decide, by decide, by decide⟩ (fun _ _ _ _ _ _ _ _ _ _ _ _ _ => BindsTo.of_eq rfl) rfl psup (fun _ => rfl)
theorem T_mt (KX : K.In h) (G : h.Ns mainGlobals mg) (c : Says fa fn xn ex K) : MtOk ⟨K, mg, none, TK⟩ mt := (mt_cons (T_glo_Fault KX G c) (T_glo_Fault KX G c) (He.exm_ok (c.fact 38 (f := .exm "Fault" "Fault" true) rfl)) (mt_cons (T_glo_Fault KX G c) (T_glo_Malformed KX G c) (He.exm_ok (c.fact 37 (f := .exm "Fault" "Malformed" false) rfl)) (mt_cons (T_glo_Fault KX G c) (T_glo_NoText KX G c) (He.exm_ok (c.fact 36 (f := .exm "Fault" "NoText" false) rfl)) (mt_cons (T_glo_Fault KX G c) (T_glo_Refused KX G c) (He.exm_ok (c.fact 35 (f := .exm "Fault" "Refused" false) rfl)) (mt_cons (T_glo_Malformed KX G c) (T_glo_Fault KX G c) (He.exm_ok (c.fact 34 (f := .exm "Malformed" "Fault" true) rfl)) (mt_cons (T_glo_Malformed KX G c) (T_glo_Malformed KX G c) (He.exm_ok (c.fact 33 (f := .exm "Malformed" "Malformed" true) rfl)) (mt_cons (T_glo_Malformed KX G c) (T_glo_NoText KX G c) (He.exm_ok (c.fact 32 (f := .exm "Malformed" "NoText" false) rfl)) (mt_cons (T_glo_Malformed KX G c) (T_glo_Refused KX G c) (He.exm_ok (c.fact 31 (f := .exm "Malformed" "Refused" false) rfl)) (mt_cons (T_glo_NoText KX G c) (T_glo_Fault KX G c) (He.exm_ok (c.fact 30 (f := .exm "NoText" "Fault" true) rfl)) (mt_cons (T_glo_NoText KX G c) (T_glo_Malformed KX G c) (He.exm_ok (c.fact 29 (f := .exm "NoText" "Malformed" false) rfl)) (mt_cons (T_glo_NoText KX G c) (T_glo_NoText KX G c) (He.exm_ok (c.fact 28 (f := .exm "NoText" "NoText" true) rfl)) (mt_cons (T_glo_NoText KX G c) (T_glo_Refused KX G c) (He.exm_ok (c.fact 27 (f := .exm "NoText" "Refused" false) rfl)) (mt_cons (T_glo_Refused KX G c) (T_glo_Fault KX G c) (He.exm_ok (c.fact 26 (f := .exm "Refused" "Fault" true) rfl)) (mt_cons (T_glo_Refused KX G c) (T_glo_Malformed KX G c) (He.exm_ok (c.fact 25 (f := .exm "Refused" "Malformed" false) rfl)) (mt_cons (T_glo_Refused KX G c) (T_glo_NoText KX G c) (He.exm_ok (c.fact 24 (f := .exm "Refused" "NoText" false) rfl)) (mt_cons (T_glo_Refused KX G c) (T_glo_Refused KX G c) (He.exm_ok (c.fact 23 (f := .exm "Refused" "Refused" true) rfl)) mt_nil))))))))))))))))
theorem sc__law_state : FnScope ["_law_script", "_law_seed", "_law_total", "_law_cell"] ["_law_script"] (defScope (topS 18)) := ⟨rfl, rfl, rfl, by decide +kernel, rfl, by decide +kernel, by decide +kernel⟩
theorem ok__law_state (KX : K.In h) (G : h.Ns mainGlobals mg) (c : Says fa fn xn ex K) : Fk PP w K mg base "_law_state" 1 (He.fAd K ("_law_state", none)) ["_law_script"] (spO ⟨K, mg, none, TK⟩ d__law_state) := by
  obtain ⟨fd, F⟩ := c.def_ 0 (d := dd__law_state) rfl
  have sc := sc__law_state
  refine ⟨⟨fd, fn_own F sc (by decide) fun cdv A outer s H E hr tk po => ?_, F.bindsN (ps := ["_law_script"]) fun _ _ _ _ _ _ us hl => match us, hl with | [_], _ => rfl⟩, He.glo_ok KX G (c.fact 39 (f := .glo "_law_state") rfl), F.kp⟩
  exact (essO_cons (es_set (ps_set (i := 1) sc.nd rfl (by first | exact Or.inl rfl | exact Or.inr rfl) (ev_int pe_int)))
    (essO_cons (es_set (ps_set (i := 2) sc.nd rfl (by first | exact Or.inl rfl | exact Or.inr rfl) (ev_int pe_int)))
    (essO_cons (es_for (ps_for po rfl (ei_any (pi_any (ev_sln (pe_slice sl_D (pv 0) eo_none (eo_some (ev_int pe_int)))))) (eg_nm (pg_name (i := 3) sc.nd rfl (by first | exact .inl rfl | exact .inr rfl))) (ess_cons (es_set (ps_set (i := 1) sc.nd rfl (by first | exact Or.inl rfl | exact Or.inr rfl) (ev2 vo_add (pe_op op_addD (ev2 vo_mul (pe_op op_mulD (ev_var (pv 1)) (ev_int pe_int))) (evc1n vo_abs (pe_callB call_abs (by rfl) (T_free_abs KX G c) (by decide +kernel) (pa_cons (pv 3) pa_nil)))))))
    (ess_one (es_set (ps_set (i := 2) sc.nd rfl (by first | exact Or.inl rfl | exact Or.inr rfl) (ev2 vo_mod (pe_op op_modN (evc1 vo_int (pe_callTy call_int1 (by rfl) (T_free_int KX G c) (by decide +kernel) (pa_cons (ev2 vo_add (pe_op op_addD (ev2 vo_mul (pe_op op_mulD (ev_var (pv 2)) (ev_int pe_int))) (ev_var (pv 3)))) pa_nil))) (ev_int pe_int)))))))))
    (essO_one (ps_ret (evN_lst (pe_lst (ea_cons (ev_var (pv 1)) (ea_cons (ev_var (pv 2)) ea_nil')))))))))
theorem sc__law_take : FnScope ["_law_state_here", "_law_m", "_law_value"] ["_law_state_here", "_law_m"] (defScope (topS 19)) := ⟨rfl, rfl, rfl, by decide +kernel, rfl, by decide +kernel, by decide +kernel⟩
theorem ok__law_take (KX : K.In h) (G : h.Ns mainGlobals mg) (c : Says fa fn xn ex K) : Fk PP w K mg base "_law_take" 1 (He.fAd K ("_law_take", none)) ["_law_state_here", "_law_m"] (spR ⟨K, mg, none, TK⟩ d__law_take) := by
  obtain ⟨fd, F⟩ := c.def_ 1 (d := dd__law_take) rfl
  have sc := sc__law_take
  refine ⟨⟨fd, fn_dataR F sc (by decide) fun cdv A outer s H E hr tk po => ?_, F.bindsN (ps := ["_law_state_here", "_law_m"]) fun _ _ _ _ _ _ us hl => match us, hl with | [_, _], _ => rfl⟩, He.glo_ok KX G (c.fact 40 (f := .glo "_law_take") rfl), F.kp⟩
  exact (ess_cons (es_if (ps_if (et2 (vo_cmpI _) (pt_cmpR op_gt (ev2n vo_ix (pe_ix ix_seq (pv 0) (ev_int pe_int) (fun _ _ => rfl))) (ev_int pe_int) (nomark _))) (ess_cons (es_set (ps_set (i := 2) sc.nd rfl (by first | exact Or.inl rfl | exact Or.inr rfl) (ev2 vo_mod (pe_op op_modN (evc1 vo_int (pe_callTy call_int1 (by rfl) (T_free_int KX G c) (by decide +kernel) (pa_cons (ev2n vo_ix (pe_ix ix_seq (pv 0) (ev_int pe_int) (fun _ _ => rfl))) pa_nil))) (ev_var (pv 1))))))
    (ess_cons (es_store (ps_asg (ev2 vo_div (pe_op op_fdivN (ev2n vo_ix (pe_ix ix_seq (pv 0) (ev_int pe_int) (fun _ _ => rfl))) (ev_var (pv 1)))) (pg_sub (pv 0) (ev_int pe_int) set_list)))
    (ess_one (es_ret (ps_ret (ev_var (pv 2))))))) ess_nil))
    (ess_cons (es_store (ps_asg (ev2 vo_mod (pe_op op_modN (evc1 vo_int (pe_callTy call_int1 (by rfl) (T_free_int KX G c) (by decide +kernel) (pa_cons (ev2 vo_add (pe_op op_addD (ev2 vo_mul (pe_op op_mulD (ev2n vo_ix (pe_ix ix_seq (pv 0) (ev_int pe_int) (fun _ _ => rfl))) (ev_int pe_int))) (ev_int pe_int))) pa_nil))) (ev_int pe_int))) (pg_sub (pv 0) (ev_int pe_int) set_list)))
    (ess_one (es_ret (ps_ret (ev2 vo_mod (pe_op op_modN (evc1 vo_int (pe_callTy call_int1 (by rfl) (T_free_int KX G c) (by decide +kernel) (pa_cons (ev2 vo_div (pe_op op_fdivN (ev2n vo_ix (pe_ix ix_seq (pv 0) (ev_int pe_int) (fun _ _ => rfl))) (ev_int pe_int))) pa_nil))) (ev_var (pv 1)))))))))
theorem sc__law_extended : FnScope ["_law_state_here", "_law_table", "_law_most", "_law_n", "_law_pick", "_law_second", "_law_x", "_law_y", "_law_row"] ["_law_state_here", "_law_table", "_law_most"] (defScope (topS 29)) := ⟨rfl, rfl, rfl, by decide +kernel, rfl, by decide +kernel, by decide +kernel⟩
theorem ok__law_extended (KX : K.In h) (G : h.Ns mainGlobals mg) (c : Says fa fn xn ex K) : Fk PP w K mg base "_law_extended" 2 (He.fAd K ("_law_extended", none)) ["_law_state_here", "_law_table", "_law_most"] (spR ⟨K, mg, none, TK⟩ d__law_extended) := by
  obtain ⟨fd, F⟩ := c.def_ 2 (d := dd__law_extended) rfl
  have sc := sc__law_extended
  refine ⟨⟨fd, fn_dataR F sc (by decide) fun cdv A outer s H E hr tk po => ?_, F.bindsN (ps := ["_law_state_here", "_law_table", "_law_most"]) fun _ _ _ _ _ _ us hl => match us, hl with | [_, _, _], _ => rfl⟩, He.glo_ok KX G (c.fact 41 (f := .glo "_law_extended") rfl), F.kp⟩
  exact (ess_cons (es_set (ps_set (i := 3) sc.nd rfl (by first | exact Or.inl rfl | exact Or.inr rfl) (evc1n vo_len (pe_callB call_lenD (by rfl) (T_free_len KX G c) (by decide +kernel) (pa_cons (pv 1) pa_nil)))))
    (ess_cons (es_set (ps_set (i := 4) sc.nd rfl (by first | exact Or.inl rfl | exact Or.inr rfl) (ev_callR (runR_nox _ _ _) ((ok__law_take KX G c).pe (hr.mono (by decide)) (by rfl) tk (pa_cons (pv 0) (ea_cons (ev_int pe_int) ea_nil'))))))
    (ess_cons (es_if (ps_if (et2 vo_eq (pt_cmpR (op_eqD (room_u4 hr)) (ev_var (pv 4)) (ev_int pe_int) (nomark _))) (ess_one (es_ret (ps_ret (ev_frz (ev_comp (pe_lc (own := [("_law_x", 6)]) rfl sc.nd (ei_rng (pi_range1 (by rfl) (T_free_range KX G c) (pa_cons (ev_var (pv 3)) pa_nil))) (blkOk_by (own := [("_law_x", 6)]) (by first | decide +kernel | rfl)) (fun _ _ _ _ _ => (eg_nm (pg_name (i := 6) sc.nd rfl (by first | exact .inl rfl | exact .inr rfl)))) (fun _ _ _ _ _ => ets_nil) (fun _ _ _ _ _ => (evc1 vo_tuple (pe_callTy call_tupleN (by rfl) (T_free_tuple KX G c) (by decide +kernel) (pa_cons (ev_frz (ev_comp (pe_lc (own := [("_law_y", 7)]) rfl sc.nd (ei_rng (pi_range1 (by rfl) (T_free_range KX G c) (pa_cons (ev_var (pv 3)) pa_nil))) (blkOk_by (own := [("_law_y", 7)]) (by first | decide +kernel | rfl)) (fun _ _ _ _ _ => (eg_nm (pg_name (i := 7) sc.nd rfl (by first | exact .inl rfl | exact .inr rfl)))) (fun _ _ _ _ _ => ets_nil) (fun _ _ _ _ _ => (ev2 vo_ix (pe_ix ix_seq (ev2n vo_ix (pe_ix ix_seq (pv 1) (ev_var (pv 7)) (fun _ _ => rfl))) (ev_var (pv 6)) (fun _ _ => rfl))))))) pa_nil)))))))))) ess_nil))
    (ess_cons (es_if (ps_if (PW.pt (et_and (pw_and (et2 vo_eq (pt_cmpR (op_eqD (room_u4 hr)) (ev_var (pv 4)) (ev_int pe_int) (nomark _))) (pw_and1 (et2 (vo_cmpI _) (pt_cmpR op_lt (ev_var (pv 3)) (ev_var (pv 2)) (nomark _))))))) (ess_one (es_ret (ps_ret (ev_frz (evN2 vn_add (pe_op op_addD (ev_frz (ev_comp (pe_lc (own := [("_law_row", 8)]) rfl sc.nd (ei_any (pi_any (ev_var (pv 1)))) (blkOk_by (own := [("_law_row", 8)]) (by first | decide +kernel | rfl)) (fun _ _ _ _ _ => (eg_nm (pg_name (i := 8) sc.nd rfl (by first | exact .inl rfl | exact .inr rfl)))) (fun _ _ _ _ _ => ets_nil) (fun _ _ _ _ _ => (ev2 vo_add (pe_op op_addD (ev_var (pv 8)) (ev_tup (pe_tupN (ea_cons (ev_var (pv 3)) ea_nil'))))))))) (ev_frz (evN_lst (pe_lst (ea_cons (evc1 vo_tuple (pe_callTy call_tupleN (by rfl) (T_free_tuple KX G c) (by decide +kernel) (pa_cons (ev_frz (ev_comp (pe_lc (own := [("_law_y", 7)]) rfl sc.nd (ei_rng (pi_range1 (by rfl) (T_free_range KX G c) (pa_cons (ev2 vo_add (pe_op op_addD (ev_var (pv 3)) (ev_int pe_int))) pa_nil))) (blkOk_by (own := [("_law_y", 7)]) (by first | decide +kernel | rfl)) (fun _ _ _ _ _ => (eg_nm (pg_name (i := 7) sc.nd rfl (by first | exact .inl rfl | exact .inr rfl)))) (fun _ _ _ _ _ => ets_nil) (fun _ _ _ _ _ => (ev_var (pv 3)))))) pa_nil))) ea_nil')))))))))) ess_nil))
    (ess_cons (es_if (ps_if (PW.pt (et_and (pw_and (et2 vo_eq (pt_cmpR (op_eqD (room_u4 hr)) (ev_var (pv 4)) (ev_int pe_int) (nomark _))) (pw_and1 (et2 (vo_cmpI _) (pt_cmpR op_lt (ev_var (pv 3)) (ev_var (pv 2)) (nomark _))))))) (ess_one (es_ret (ps_ret (ev_frz (evN2 vn_add (pe_op op_addD (ev_frz (ev_comp (pe_lc (own := [("_law_x", 6)]) rfl sc.nd (ei_rng (pi_range1 (by rfl) (T_free_range KX G c) (pa_cons (ev_var (pv 3)) pa_nil))) (blkOk_by (own := [("_law_x", 6)]) (by first | decide +kernel | rfl)) (fun _ _ _ _ _ => (eg_nm (pg_name (i := 6) sc.nd rfl (by first | exact .inl rfl | exact .inr rfl)))) (fun _ _ _ _ _ => ets_nil) (fun _ _ _ _ _ => (ev2 vo_add (pe_op op_addD (ev2n vo_ix (pe_ix ix_seq (pv 1) (ev_var (pv 6)) (fun _ _ => rfl))) (ev_tup (pe_tupN (ea_cons (ev_var (pv 6)) ea_nil'))))))))) (ev_frz (evN_lst (pe_lst (ea_cons (ev_tupRg (pe_tupRgN rfl (by rfl) (T_free_tuple KX G c) (erg1 (prg_1 (by rfl) (T_free_range KX G c) (ev2 vo_add (pe_op op_addD (ev_var (pv 3)) (ev_int pe_int))))))) ea_nil')))))))))) ess_nil))
    (ess_cons (es_if (ps_if (PW.pt (et_and (pw_and (et2 vo_eq (pt_cmpR (op_eqD (room_u4 hr)) (ev_var (pv 4)) (ev_int pe_int) (nomark _))) (pw_and1 (et2 (vo_cmpI _) (pt_cmpR op_le (ev2 vo_mul (pe_op op_mulD (ev_int pe_int) (ev_var (pv 3)))) (ev_var (pv 2)) (nomark _))))))) (ess_cons (es_own (ps_set (i := 5) sc.nd rfl (by first | exact Or.inl rfl | exact Or.inr rfl) (evN_lst (pe_lst (ea_cons (ev_tup (pe_tupN (ea_cons (ev_int pe_int) (ea_cons (ev_int pe_int) ea_nil')))) (ea_cons (ev_tup (pe_tupN (ea_cons (ev_int pe_int) (ea_cons (ev_int pe_int) ea_nil')))) ea_nil'))))))
    (ess_cons (es_if (ps_if (et2 vo_eq (pt_cmpR (op_eqD (room_u4 hr)) (ev_callR (runR_nox _ _ _) ((ok__law_take KX G c).pe (hr.mono (by decide)) (by rfl) tk (pa_cons (pv 0) (ea_cons (ev_int pe_int) ea_nil')))) (ev_int pe_int) (nomark _))) (ess_one (es_own (ps_set (i := 5) sc.nd rfl (by first | exact Or.inl rfl | exact Or.inr rfl) (evN_lst (pe_lst (ea_cons (ev_tup (pe_tupN (ea_cons (ev_int pe_int) (ea_cons (ev_int pe_int) ea_nil')))) (ea_cons (ev_tup (pe_tupN (ea_cons (ev_int pe_int) (ea_cons (ev_int pe_int) ea_nil')))) ea_nil'))))))) ess_nil))
    (ess_one (es_ret (ps_ret (ev_frz (ev_comp (pe_lc (own := [("_law_x", 6)]) rfl sc.nd (ei_rng (pi_range1 (by rfl) (T_free_range KX G c) (pa_cons (ev2 vo_mul (pe_op op_mulD (ev_int pe_int) (ev_var (pv 3)))) pa_nil))) (blkOk_by (own := [("_law_x", 6)]) (by first | decide +kernel | rfl)) (fun _ _ _ _ _ => (eg_nm (pg_name (i := 6) sc.nd rfl (by first | exact .inl rfl | exact .inr rfl)))) (fun _ _ _ _ _ => ets_nil) (fun _ _ _ _ _ => (evc1 vo_tuple (pe_callTy call_tupleN (by rfl) (T_free_tuple KX G c) (by decide +kernel) (pa_cons (ev_frz (ev_comp (pe_lc (own := [("_law_y", 7)]) rfl sc.nd (ei_rng (pi_range1 (by rfl) (T_free_range KX G c) (pa_cons (ev2 vo_mul (pe_op op_mulD (ev_int pe_int) (ev_var (pv 3)))) pa_nil))) (blkOk_by (own := [("_law_y", 7)]) (by first | decide +kernel | rfl)) (fun _ _ _ _ _ => (eg_nm (pg_name (i := 7) sc.nd rfl (by first | exact .inl rfl | exact .inr rfl)))) (fun _ _ _ _ _ => ets_nil) (fun _ _ _ _ _ => (ev2 vo_add (pe_op op_addD (ev2 vo_mul (pe_op op_mulD (ev_int pe_int) (ev2 vo_ix (pe_ix ix_seq (ev2n vo_ix (pe_ix ix_seq (pv 1) (ev2 vo_div (pe_op op_fdivN (ev_var (pv 6)) (ev_int pe_int))) (fun _ _ => rfl))) (ev2 vo_div (pe_op op_fdivN (ev_var (pv 7)) (ev_int pe_int))) (fun _ _ => rfl))))) (ev2 vo_ix (pe_ix ix_seq (ev2n vo_ix (pe_ix ix_seq (pv 5) (ev2 vo_mod (pe_op op_modN (evc1n vo_int (pe_callTy call_int1 (by rfl) (T_free_int KX G c) (by decide +kernel) (pa_cons (pv 6) pa_nil))) (ev_int pe_int))) (fun _ _ => rfl))) (ev2 vo_mod (pe_op op_modN (evc1n vo_int (pe_callTy call_int1 (by rfl) (T_free_int KX G c) (by decide +kernel) (pa_cons (pv 7) pa_nil))) (ev_int pe_int))) (fun _ _ => rfl))))))))) pa_nil)))))))))))) ess_nil))
    (ess_one (es_ret (ps_ret (ev_var (pv 1)))))))))))
theorem sc__law_renamed : FnScope ["_law_table", "_law_order", "_law_n", "_law_found", "_law_x", "_law_y", "_law_row"] ["_law_table", "_law_order"] (defScope (topS 21)) := ⟨rfl, rfl, rfl, by decide +kernel, rfl, by decide +kernel, by decide +kernel⟩
theorem ok__law_renamed (KX : K.In h) (G : h.Ns mainGlobals mg) (c : Says fa fn xn ex K) : Fk PP w K mg base "_law_renamed" 1 (He.fAd K ("_law_renamed", none)) ["_law_table", "_law_order"] (spD ⟨K, mg, none, TK⟩ d__law_renamed) := by
  obtain ⟨fd, F⟩ := c.def_ 3 (d := dd__law_renamed) rfl
  have sc := sc__law_renamed
  refine ⟨⟨fd, fn_data F sc (by decide) fun cdv A outer s H E hr tk po => ?_, F.bindsN (ps := ["_law_table", "_law_order"]) fun _ _ _ _ _ _ us hl => match us, hl with | [_, _], _ => rfl⟩, He.glo_ok KX G (c.fact 42 (f := .glo "_law_renamed") rfl), F.kp⟩
  exact (ess_cons (es_set (ps_set (i := 2) sc.nd rfl (by first | exact Or.inl rfl | exact Or.inr rfl) (evc1n vo_len (pe_callB call_lenD (by rfl) (T_free_len KX G c) (by decide +kernel) (pa_cons (pv 0) pa_nil)))))
    (ess_cons (es_own2 (ps_setLc (i := 3) (own := [("_law_x", 4)]) rfl sc.nd rfl rfl (sw_true rfl rfl rfl (by decide +kernel)) (ei_rng (pi_range1 (by rfl) (T_free_range KX G c) (pa_cons (ev_var (pv 2)) pa_nil))) (blkOk_by (own := [("_law_x", 4)]) (by first | decide +kernel | rfl)) (fun _ _ _ _ _ => (eg_nm (pg_name (i := 4) sc.nd rfl (by first | exact .inl rfl | exact .inr rfl)))) (fun _ _ _ _ _ => ets_nil) (fun _ _ _ _ _ => (ev_comp (pe_lc (own := [("_law_y", 5)]) rfl sc.nd (ei_rng (pi_range1 (by rfl) (T_free_range KX G c) (pa_cons (ev_var (pv 2)) pa_nil))) (blkOk_by (own := [("_law_y", 5)]) (by first | decide +kernel | rfl)) (fun _ _ _ _ _ => (eg_nm (pg_name (i := 5) sc.nd rfl (by first | exact .inl rfl | exact .inr rfl)))) (fun _ _ _ _ _ => ets_nil) (fun _ _ _ _ _ => (ev_int pe_int)))))))
    (ess_cons (es_for (ps_for po rfl (ei_rng (pi_range1 (by rfl) (T_free_range KX G c) (pa_cons (ev_var (pv 2)) pa_nil))) (eg_nm (pg_name (i := 4) sc.nd rfl (by first | exact .inl rfl | exact .inr rfl))) (ess_one (es_for (ps_for po rfl (ei_rng (pi_range1 (by rfl) (T_free_range KX G c) (pa_cons (ev_var (pv 2)) pa_nil))) (eg_nm (pg_name (i := 5) sc.nd rfl (by first | exact .inl rfl | exact .inr rfl))) (ess_one (es_store2 (ps_asg (ev2n vo_ix (pe_ix ix_seq (pv 1) (ev2 vo_ix (pe_ix ix_seq (ev2n vo_ix (pe_ix ix_seq (pv 0) (ev_var (pv 4)) (fun _ _ => rfl))) (ev_var (pv 5)) (fun _ _ => rfl))) (fun _ _ => rfl))) (pg_sub (pe_ix ix_seq (pv 3) (ev2n vo_ix (pe_ix ix_seq (pv 1) (ev_var (pv 4)) (fun _ _ => rfl))) (fun _ _ => rfl)) (ev2n vo_ix (pe_ix ix_seq (pv 1) (ev_var (pv 5)) (fun _ _ => rfl))) set_list)))))))))
    (ess_one (es_ret (ps_ret (ev_frz (ev_comp (pe_lc (own := [("_law_row", 6)]) rfl sc.nd (ei_any (pi_any (ev_var (pv 3)))) (blkOk_by (own := [("_law_row", 6)]) (by first | decide +kernel | rfl)) (fun _ _ _ _ _ => (eg_nm (pg_name (i := 6) sc.nd rfl (by first | exact .inl rfl | exact .inr rfl)))) (fun _ _ _ _ _ => ets_nil) (fun _ _ _ _ _ => (evc1n vo_tuple (pe_callTy call_tupleN (by rfl) (T_free_tuple KX G c) (by decide +kernel) (pa_cons (pv 6) pa_nil)))))))))))))
theorem sc__law_triples : FnScope ["_law_a", "_law_b", "_law_g", "_law_twist", "_law_holes", "_law_zero", "_law_size", "_law_rows", "_law_x", "_law_row", "_law_y", "_law_j", "_law_i", "_law_turn", "_law_k"] ["_law_a", "_law_b", "_law_g", "_law_twist", "_law_holes", "_law_zero"] (defScope (topS 26)) := ⟨rfl, rfl, rfl, by decide +kernel, rfl, by decide +kernel, by decide +kernel⟩
theorem ok__law_triples (KX : K.In h) (G : h.Ns mainGlobals mg) (c : Says fa fn xn ex K) : Fk PP w K mg base "_law_triples" 1 (He.fAd K ("_law_triples", none)) ["_law_a", "_law_b", "_law_g", "_law_twist", "_law_holes", "_law_zero"] (spD ⟨K, mg, none, TK⟩ d__law_triples) := by
  obtain ⟨fd, F⟩ := c.def_ 4 (d := dd__law_triples) rfl
  have sc := sc__law_triples
  refine ⟨⟨fd, fn_data F sc (by decide) fun cdv A outer s H E hr tk po => ?_, F.bindsN (ps := ["_law_a", "_law_b", "_law_g", "_law_twist", "_law_holes", "_law_zero"]) fun _ _ _ _ _ _ us hl => match us, hl with | [_, _, _, _, _, _], _ => rfl⟩, He.glo_ok KX G (c.fact 43 (f := .glo "_law_triples") rfl), F.kp⟩
  exact (ess_cons (es_set (ps_set (i := 6) sc.nd rfl (by first | exact Or.inl rfl | exact Or.inr rfl) (ev2 vo_mul (pe_op op_mulD (ev2 vo_mul (pe_op op_mulD (ev_var (pv 0)) (ev_var (pv 1)))) (ev_var (pv 2))))))
    (ess_cons (es_own (ps_set (i := 7) sc.nd rfl (by first | exact Or.inl rfl | exact Or.inr rfl) (evN_lst (pe_lst ea_nil'))))
    (ess_cons (es_for (ps_for po rfl (ei_rng (pi_range1 (by rfl) (T_free_range KX G c) (pa_cons (ev_var (pv 6)) pa_nil))) (eg_nm (pg_name (i := 8) sc.nd rfl (by first | exact .inl rfl | exact .inr rfl))) (ess_cons (es_own (ps_set (i := 9) sc.nd rfl (by first | exact Or.inl rfl | exact Or.inr rfl) (evN_lst (pe_lst ea_nil'))))
    (ess_cons (es_for (ps_for po rfl (ei_rng (pi_range1 (by rfl) (T_free_range KX G c) (pa_cons (ev_var (pv 6)) pa_nil))) (eg_nm (pg_name (i := 10) sc.nd rfl (by first | exact .inl rfl | exact .inr rfl))) (ess_cons (es_set (ps_set (i := 11) sc.nd rfl (by first | exact Or.inl rfl | exact Or.inr rfl) (ev2 vo_mod (pe_op op_modN (evc1n vo_int (pe_callTy call_int1 (by rfl) (T_free_int KX G c) (by decide +kernel) (pa_cons (pv 8) pa_nil))) (ev_var (pv 1))))))
    (ess_cons (es_set (ps_set (i := 12) sc.nd rfl (by first | exact Or.inl rfl | exact Or.inr rfl) (ev2 vo_div (pe_op op_fdivN (ev_var (pv 10)) (ev2 vo_mul (pe_op op_mulD (ev_var (pv 2)) (ev_var (pv 1))))))))
    (ess_one (es_if (ps_if (PW.pt (et_and (pw_and (et_tst (pt_val (ev_var (pv 5)))) (pw_and1 (et_tst (pt_val (ev2 vo_ix (pe_ix ix_seq (ev2n vo_ix (pe_ix ix_seq (pv 4) (ev_var (pv 11)) (fun _ _ => rfl))) (ev_var (pv 12)) (fun _ _ => rfl))))))))) (ess_one (es_expr (ps_expr (ev_append (pe_bm PySem.F.plainAttrs_list PySem.F.slot_list_append PySem.F.type_list_append mt_append (pv 9) (pa_cons (ev_var (pv 6)) pa_nil)))))) (ess_cons (es_set (ps_set (i := 13) sc.nd rfl (by first | exact Or.inl rfl | exact Or.inr rfl) (ev2 vo_mod (pe_op op_modN (evc1 vo_int (pe_callTy call_int1 (by rfl) (T_free_int KX G c) (by decide +kernel) (pa_cons (ev2 vo_add (pe_op op_addD (ev2 vo_add (pe_op op_addD (ev2 vo_div (pe_op op_fdivN (ev_var (pv 8)) (ev_var (pv 1)))) (ev2 vo_ix (pe_ix ix_seq (ev2n vo_ix (pe_ix ix_seq (pv 3) (ev_var (pv 11)) (fun _ _ => rfl))) (ev_var (pv 12)) (fun _ _ => rfl))))) (ev2 vo_div (pe_op op_fdivN (ev_var (pv 10)) (ev_var (pv 1)))))) pa_nil))) (ev_var (pv 2))))))
    (ess_one (es_expr (ps_expr (ev_append (pe_bm PySem.F.plainAttrs_list PySem.F.slot_list_append PySem.F.type_list_append mt_append (pv 9) (pa_cons (ev2 vo_add (pe_op op_addD (ev2 vo_mul (pe_op op_mulD (ev2 vo_add (pe_op op_addD (ev2 vo_mul (pe_op op_mulD (ev2 vo_div (pe_op op_fdivN (ev_var (pv 8)) (ev2 vo_mul (pe_op op_mulD (ev_var (pv 2)) (ev_var (pv 1)))))) (ev_var (pv 2)))) (ev_var (pv 13)))) (ev_var (pv 1)))) (ev2 vo_mod (pe_op op_modN (evc1n vo_int (pe_callTy call_int1 (by rfl) (T_free_int KX G c) (by decide +kernel) (pa_cons (pv 10) pa_nil))) (ev_var (pv 1)))))) pa_nil))))))))))))))
    (ess_one (es_expr (ps_expr (ev_append (pe_bm PySem.F.plainAttrs_list PySem.F.slot_list_append PySem.F.type_list_append mt_append (pv 7) (pa_cons (evc1 vo_tuple (pe_callTy call_tupleN (by rfl) (T_free_tuple KX G c) (by decide +kernel) (pa_cons (ev_frz (evN2 vn_add (pe_op op_addD (ev_var (pv 9)) (ev_frz (ev_comp (pe_lc (own := [("_law_k", 14)]) rfl sc.nd (ei_rng (pi_range1 (by rfl) (T_free_range KX G c) (pa_cons (evc1n vo_int (pe_callTy call_int1 (by rfl) (T_free_int KX G c) (by decide +kernel) (pa_cons (pv 5) pa_nil))) pa_nil))) (blkOk_by (own := [("_law_k", 14)]) (by first | decide +kernel | rfl)) (fun _ _ _ _ _ => (eg_nm (pg_name (i := 14) sc.nd rfl (by first | exact .inl rfl | exact .inr rfl)))) (fun _ _ _ _ _ => ets_nil) (fun _ _ _ _ _ => (ev_var (pv 6))))))))) pa_nil))) pa_nil))))))))))
    (ess_cons (es_if (ps_if (et_tst (pt_val (ev_var (pv 5)))) (ess_one (es_expr (ps_expr (ev_append (pe_bm PySem.F.plainAttrs_list PySem.F.slot_list_append PySem.F.type_list_append mt_append (pv 7) (pa_cons (evc1 vo_tuple (pe_callTy call_tupleN (by rfl) (T_free_tuple KX G c) (by decide +kernel) (pa_cons (ev_frz (ev_comp (pe_lc (own := [("_law_k", 14)]) rfl sc.nd (ei_rng (pi_range1 (by rfl) (T_free_range KX G c) (pa_cons (ev2 vo_add (pe_op op_addD (ev_var (pv 6)) (ev_int pe_int))) pa_nil))) (blkOk_by (own := [("_law_k", 14)]) (by first | decide +kernel | rfl)) (fun _ _ _ _ _ => (eg_nm (pg_name (i := 14) sc.nd rfl (by first | exact .inl rfl | exact .inr rfl)))) (fun _ _ _ _ _ => ets_nil) (fun _ _ _ _ _ => (ev_var (pv 6)))))) pa_nil))) pa_nil)))))) ess_nil))
    (ess_one (es_ret (ps_ret (ev_var (pv 7)))))))))
theorem sc__law_blocks : FnScope ["_law_state_here", "_law_most", "_law_a", "_law_b", "_law_g", "_law_twist", "_law_holes", "_law_zero", "_law_j", "_law_i"] ["_law_state_here", "_law_most"] (defScope (topS 27)) := ⟨rfl, rfl, rfl, by decide +kernel, rfl, by decide +kernel, by decide +kernel⟩
theorem ok__law_blocks (KX : K.In h) (G : h.Ns mainGlobals mg) (c : Says fa fn xn ex K) : Fk PP w K mg base "_law_blocks" 2 (He.fAd K ("_law_blocks", none)) ["_law_state_here", "_law_most"] (spR ⟨K, mg, none, TK⟩ d__law_blocks) := by
  obtain ⟨fd, F⟩ := c.def_ 5 (d := dd__law_blocks) rfl
  have sc := sc__law_blocks
  refine ⟨⟨fd, fn_dataR F sc (by decide) fun cdv A outer s H E hr tk po => ?_, F.bindsN (ps := ["_law_state_here", "_law_most"]) fun _ _ _ _ _ _ us hl => match us, hl with | [_, _], _ => rfl⟩, He.glo_ok KX G (c.fact 44 (f := .glo "_law_blocks") rfl), F.kp⟩
  exact (ess_cons (es_set (ps_set (i := 2) sc.nd rfl (by first | exact Or.inl rfl | exact Or.inr rfl) (ev2 vo_add (pe_op op_addD (ev_int pe_int) (ev_callR (runR_nox _ _ _) ((ok__law_take KX G c).pe (hr.mono (by decide)) (by rfl) tk (pa_cons (pv 0) (ea_cons (ev_int pe_int) ea_nil'))))))))
    (ess_cons (es_set (ps_set (i := 3) sc.nd rfl (by first | exact Or.inl rfl | exact Or.inr rfl) (ev2 vo_add (pe_op op_addD (ev_int pe_int) (ev_callR (runR_nox _ _ _) ((ok__law_take KX G c).pe (hr.mono (by decide)) (by rfl) tk (pa_cons (pv 0) (ea_cons (ev_int pe_int) ea_nil'))))))))
    (ess_cons (es_set (ps_set (i := 4) sc.nd rfl (by first | exact Or.inl rfl | exact Or.inr rfl) (ev2 vo_add (pe_op op_addD (ev_int pe_int) (ev_callR (runR_nox _ _ _) ((ok__law_take KX G c).pe (hr.mono (by decide)) (by rfl) tk (pa_cons (pv 0) (ea_cons (ev_int pe_int) ea_nil'))))))))
    (ess_cons (es_if (ps_if (et2 (vo_cmpI _) (pt_cmpR op_gt (ev2 vo_add (pe_op op_addD (ev2 vo_mul (pe_op op_mulD (ev2 vo_mul (pe_op op_mulD (ev_var (pv 2)) (ev_var (pv 3)))) (ev_var (pv 4)))) (ev_int pe_int))) (ev_var (pv 1)) (nomark _))) (ess_one (es_asg (ps_asg (ev_tup (pe_tupN (ea_cons (ev_int pe_int) (ea_cons (ev_int pe_int) (ea_cons (evc2 vo_min2 (pe_callB (call_min2 rfl) (by rfl) (T_free_min KX G c) (by decide +kernel) (pa_cons (ev_int pe_int) (pa_cons (ev_var (pv 1)) pa_nil)))) ea_nil'))))) (eg_nms (pg_tup rfl (pgs_cons (pg_name (i := 2) sc.nd rfl (by first | exact .inl rfl | exact .inr rfl)) (pgs_cons (pg_name (i := 3) sc.nd rfl (by first | exact .inl rfl | exact .inr rfl)) (pgs_cons (pg_name (i := 4) sc.nd rfl (by first | exact .inl rfl | exact .inr rfl)) pgs_nil)))) rfl)))) ess_nil))
    (ess_cons (es_ownLc (ps_setLc (i := 5) (own := [("_law_j", 8)]) rfl sc.nd rfl rfl (sw_true rfl rfl rfl (by decide +kernel)) (ei_rng (pi_range1 (by rfl) (T_free_range KX G c) (pa_cons (ev_var (pv 3)) pa_nil))) (blkOk_by (own := [("_law_j", 8)]) (by first | decide +kernel | rfl)) (fun _ _ _ _ _ => (eg_nm (pg_name (i := 8) sc.nd rfl (by first | exact .inl rfl | exact .inr rfl)))) (fun _ _ _ _ _ => ets_nil) (fun _ _ _ _ _ => (ev_frz (ev_comp (pe_lc (own := [("_law_i", 9)]) rfl sc.nd (ei_rng (pi_range1 (by rfl) (T_free_range KX G c) (pa_cons (ev_var (pv 2)) pa_nil))) (blkOk_by (own := [("_law_i", 9)]) (by first | decide +kernel | rfl)) (fun _ _ _ _ _ => (eg_nm (pg_name (i := 9) sc.nd rfl (by first | exact .inl rfl | exact .inr rfl)))) (fun _ _ _ _ _ => ets_nil) (fun _ _ _ _ _ => (ev_callR (runR_nox _ _ _) ((ok__law_take KX G c).pe (hr.mono (by decide)) (by rfl) takes0 (pa_cons (pv 0) (ea_cons (ev_var (pv 4)) ea_nil')))))))))))
    (ess_cons (es_ownLc (ps_setLc (i := 6) (own := [("_law_j", 8)]) rfl sc.nd rfl rfl (sw_true rfl rfl rfl (by decide +kernel)) (ei_rng (pi_range1 (by rfl) (T_free_range KX G c) (pa_cons (ev_var (pv 3)) pa_nil))) (blkOk_by (own := [("_law_j", 8)]) (by first | decide +kernel | rfl)) (fun _ _ _ _ _ => (eg_nm (pg_name (i := 8) sc.nd rfl (by first | exact .inl rfl | exact .inr rfl)))) (fun _ _ _ _ _ => ets_nil) (fun _ _ _ _ _ => (ev_frz (ev_comp (pe_lc (own := [("_law_i", 9)]) rfl sc.nd (ei_rng (pi_range1 (by rfl) (T_free_range KX G c) (pa_cons (ev_var (pv 2)) pa_nil))) (blkOk_by (own := [("_law_i", 9)]) (by first | decide +kernel | rfl)) (fun _ _ _ _ _ => (eg_nm (pg_name (i := 9) sc.nd rfl (by first | exact .inl rfl | exact .inr rfl)))) (fun _ _ _ _ _ => ets_nil) (fun _ _ _ _ _ => (ev2 vo_eq (pe_cmpR (op_eqD (room_u4 hr)) (ev_callR (runR_nox _ _ _) ((ok__law_take KX G c).pe (hr.mono (by decide)) (by rfl) takes0 (pa_cons (pv 0) (ea_cons (ev_int pe_int) ea_nil')))) (ev_int pe_int) (nomark _))))))))))
    (ess_cons (es_set (ps_set (i := 7) sc.nd rfl (by first | exact Or.inl rfl | exact Or.inr rfl) (ev_andV (pe_and (ev2 vo_eq (pe_cmpR (op_eqD (room_u4 hr)) (ev_callR (runR_nox _ _ _) ((ok__law_take KX G c).pe (hr.mono (by decide)) (by rfl) tk (pa_cons (pv 0) (ea_cons (ev_int pe_int) ea_nil')))) (ev_int pe_int) (nomark _))) (pe_one (ev2 (vo_cmpI _) (pe_cmpR op_lt (ev2 vo_mul (pe_op op_mulD (ev2 vo_mul (pe_op op_mulD (ev_var (pv 2)) (ev_var (pv 3)))) (ev_var (pv 4)))) (ev_var (pv 1)) (nomark _))))))))
    (ess_one (es_ret (ps_ret (ev_call ((ok__law_triples KX G c).pe (hr.mono (by decide)) (by rfl) tk (ea_cons (ev_var (pv 2)) (ea_cons (ev_var (pv 3)) (ea_cons (ev_var (pv 4)) (ea_cons (ev_var (pv 5)) (ea_cons (ev_var (pv 6)) (ea_cons (ev_var (pv 7)) ea_nil'))))))))))))))))))
theorem sc__law_monogenic : FnScope ["_law_state_here", "_law_most", "_law_n", "_law_period", "_law_index", "_law_rows", "_law_x", "_law_row", "_law_y", "_law_k"] ["_law_state_here", "_law_most"] (defScope (topS 25)) := ⟨rfl, rfl, rfl, by decide +kernel, rfl, by decide +kernel, by decide +kernel⟩
theorem ok__law_monogenic (KX : K.In h) (G : h.Ns mainGlobals mg) (c : Says fa fn xn ex K) : Fk PP w K mg base "_law_monogenic" 2 (He.fAd K ("_law_monogenic", none)) ["_law_state_here", "_law_most"] (spR ⟨K, mg, none, TK⟩ d__law_monogenic) := by
  obtain ⟨fd, F⟩ := c.def_ 6 (d := dd__law_monogenic) rfl
  have sc := sc__law_monogenic
  refine ⟨⟨fd, fn_dataR F sc (by decide) fun cdv A outer s H E hr tk po => ?_, F.bindsN (ps := ["_law_state_here", "_law_most"]) fun _ _ _ _ _ _ us hl => match us, hl with | [_, _], _ => rfl⟩, He.glo_ok KX G (c.fact 45 (f := .glo "_law_monogenic") rfl), F.kp⟩
  exact (ess_cons (es_set (ps_set (i := 2) sc.nd rfl (by first | exact Or.inl rfl | exact Or.inr rfl) (ev2 vo_add (pe_op op_addD (ev_int pe_int) (ev_callR (runR_nox _ _ _) ((ok__law_take KX G c).pe (hr.mono (by decide)) (by rfl) tk (pa_cons (pv 0) (ea_cons (ev_var (pv 1)) ea_nil'))))))))
    (ess_cons (es_set (ps_set (i := 3) sc.nd rfl (by first | exact Or.inl rfl | exact Or.inr rfl) (ev2 vo_add (pe_op op_addD (ev_int pe_int) (ev_callR (runR_nox _ _ _) ((ok__law_take KX G c).pe (hr.mono (by decide)) (by rfl) tk (pa_cons (pv 0) (ea_cons (ev_var (pv 2)) ea_nil'))))))))
    (ess_cons (es_set (ps_set (i := 4) sc.nd rfl (by first | exact Or.inl rfl | exact Or.inr rfl) (ev2 vo_sub (pe_op op_sub (ev2 vo_add (pe_op op_addD (ev_var (pv 2)) (ev_int pe_int))) (ev_var (pv 3))))))
    (ess_cons (es_own (ps_set (i := 5) sc.nd rfl (by first | exact Or.inl rfl | exact Or.inr rfl) (evN_lst (pe_lst ea_nil'))))
    (ess_cons (es_for (ps_for po rfl (ei_rng (pi_range1 (by rfl) (T_free_range KX G c) (pa_cons (ev_var (pv 2)) pa_nil))) (eg_nm (pg_name (i := 6) sc.nd rfl (by first | exact .inl rfl | exact .inr rfl))) (ess_cons (es_own (ps_set (i := 7) sc.nd rfl (by first | exact Or.inl rfl | exact Or.inr rfl) (evN_lst (pe_lst ea_nil'))))
    (ess_cons (es_for (ps_for po rfl (ei_rng (pi_range1 (by rfl) (T_free_range KX G c) (pa_cons (ev_var (pv 2)) pa_nil))) (eg_nm (pg_name (i := 8) sc.nd rfl (by first | exact .inl rfl | exact .inr rfl))) (ess_cons (es_set (ps_set (i := 9) sc.nd rfl (by first | exact Or.inl rfl | exact Or.inr rfl) (ev2 vo_add (pe_op op_addD (ev2 vo_add (pe_op op_addD (ev_var (pv 6)) (ev_var (pv 8)))) (ev_int pe_int)))))
    (ess_cons (es_if (ps_if (et2 (vo_cmpI _) (pt_cmpR op_gt (ev_var (pv 9)) (ev_var (pv 2)) (nomark _))) (ess_one (es_set (ps_set (i := 9) sc.nd rfl (by first | exact Or.inl rfl | exact Or.inr rfl) (ev2 vo_add (pe_op op_addD (ev_var (pv 4)) (ev2 vo_mod (pe_op op_modN (evc1 vo_int (pe_callTy call_int1 (by rfl) (T_free_int KX G c) (by decide +kernel) (pa_cons (ev2 vo_sub (pe_op op_sub (ev_var (pv 9)) (ev_var (pv 4)))) pa_nil))) (ev_var (pv 3))))))))) ess_nil))
    (ess_one (es_expr (ps_expr (ev_append (pe_bm PySem.F.plainAttrs_list PySem.F.slot_list_append PySem.F.type_list_append mt_append (pv 7) (pa_cons (ev2 vo_sub (pe_op op_sub (ev_var (pv 9)) (ev_int pe_int))) pa_nil))))))))))
    (ess_one (es_expr (ps_expr (ev_append (pe_bm PySem.F.plainAttrs_list PySem.F.slot_list_append PySem.F.type_list_append mt_append (pv 5) (pa_cons (evc1n vo_tuple (pe_callTy call_tupleN (by rfl) (T_free_tuple KX G c) (by decide +kernel) (pa_cons (pv 7) pa_nil))) pa_nil))))))))))
    (ess_one (es_ret (ps_ret (ev_var (pv 5))))))))))
theorem sc__law_after : FnScope ["_law_f", "_law_g", "_law_x"] ["_law_f", "_law_g"] (defScope (topS 22)) := ⟨rfl, rfl, rfl, by decide +kernel, rfl, by decide +kernel, by decide +kernel⟩
theorem ok__law_after (KX : K.In h) (G : h.Ns mainGlobals mg) (c : Says fa fn xn ex K) : Fk PP w K mg base "_law_after" 1 (He.fAd K ("_law_after", none)) ["_law_f", "_law_g"] (spD ⟨K, mg, none, TK⟩ d__law_after) := by
  obtain ⟨fd, F⟩ := c.def_ 7 (d := dd__law_after) rfl
  have sc := sc__law_after
  refine ⟨⟨fd, fn_data F sc (by decide) fun cdv A outer s H E hr tk po => ?_, F.bindsN (ps := ["_law_f", "_law_g"]) fun _ _ _ _ _ _ us hl => match us, hl with | [_, _], _ => rfl⟩, He.glo_ok KX G (c.fact 46 (f := .glo "_law_after") rfl), F.kp⟩
  exact (ess_one (es_ret (ps_ret (evc1 vo_tuple (pe_callTy call_tupleN (by rfl) (T_free_tuple KX G c) (by decide +kernel) (pa_cons (ev_frz (ev_comp (pe_lc (own := [("_law_x", 2)]) rfl sc.nd (ei_any (pi_any (ev_var (pv 0)))) (blkOk_by (own := [("_law_x", 2)]) (by first | decide +kernel | rfl)) (fun _ _ _ _ _ => (eg_nm (pg_name (i := 2) sc.nd rfl (by first | exact .inl rfl | exact .inr rfl)))) (fun _ _ _ _ _ => ets_nil) (fun _ _ _ _ _ => (ev2n vo_ix (pe_ix ix_seq (pv 1) (ev_var (pv 2)) (fun _ _ => rfl))))))) pa_nil))))))
theorem sc__law_closed : FnScope ["_law_maps", "_law_found", "_law_f", "_law_turn", "_law_g", "_law_h"] ["_law_maps"] (defScope (topS 23)) := ⟨rfl, rfl, rfl, by decide +kernel, rfl, by decide +kernel, by decide +kernel⟩
theorem ok__law_closed (KX : K.In h) (G : h.Ns mainGlobals mg) (c : Says fa fn xn ex K) : Fk PP w K mg base "_law_closed" 2 (He.fAd K ("_law_closed", none)) ["_law_maps"] (spD ⟨K, mg, none, TK⟩ d__law_closed) := by
  obtain ⟨fd, F⟩ := c.def_ 8 (d := dd__law_closed) rfl
  have sc := sc__law_closed
  refine ⟨⟨fd, fn_data F sc (by decide) fun cdv A outer s H E hr tk po => ?_, F.bindsN (ps := ["_law_maps"]) fun _ _ _ _ _ _ us hl => match us, hl with | [_], _ => rfl⟩, He.glo_ok KX G (c.fact 47 (f := .glo "_law_closed") rfl), F.kp⟩
  exact (ess_cons (es_own (ps_set (i := 1) sc.nd rfl (by first | exact Or.inl rfl | exact Or.inr rfl) (evN_lst (pe_lst ea_nil'))))
    (ess_cons (es_for (ps_for po rfl (ei_any (pi_any (ev_var (pv 0)))) (eg_nm (pg_name (i := 2) sc.nd rfl (by first | exact .inl rfl | exact .inr rfl))) (ess_one (es_if (ps_if (et2m vo_notin (pt_cmpR (op_notInA (room_u hr)) (ev_var (pv 2)) (pv 1) (by with_unfolding_all rfl))) (ess_one (es_expr (ps_expr (ev_append (pe_bm PySem.F.plainAttrs_list PySem.F.slot_list_append PySem.F.type_list_append mt_append (pv 1) (pa_cons (ev_var (pv 2)) pa_nil)))))) ess_nil)))))
    (ess_cons (es_for (ps_for po rfl (ei_rng (pi_range1 (by rfl) (T_free_range KX G c) (pa_cons (ev_int pe_int) pa_nil))) (eg_nm (pg_name (i := 3) sc.nd rfl (by first | exact .inl rfl | exact .inr rfl))) (ess_one (es_for (ps_for po rfl (ei_any (pi_any (ev_frz (evN1n vn_list (pe_callTy call_list_of (by rfl) (T_free_list KX G c) (by decide +kernel) (pa_cons (pv 1) pa_nil)))))) (eg_nm (pg_name (i := 2) sc.nd rfl (by first | exact .inl rfl | exact .inr rfl))) (ess_one (es_for (ps_for po rfl (ei_any (pi_any (ev_var (pv 0)))) (eg_nm (pg_name (i := 4) sc.nd rfl (by first | exact .inl rfl | exact .inr rfl))) (ess_cons (es_set (ps_set (i := 5) sc.nd rfl (by first | exact Or.inl rfl | exact Or.inr rfl) (ev_call ((ok__law_after KX G c).pe (hr.mono (by decide)) (by rfl) tk (ea_cons (ev_var (pv 2)) (ea_cons (ev_var (pv 4)) ea_nil'))))))
    (ess_one (es_if (ps_if (PW.pt (et_and (pw_and (et2m vo_notin (pt_cmpR (op_notInA (room_u hr)) (ev_var (pv 5)) (pv 1) (by with_unfolding_all rfl))) (pw_and1 (et2 (vo_cmpI _) (pt_cmpR op_lt (evc1n vo_len (pe_callB call_lenD (by rfl) (T_free_len KX G c) (by decide +kernel) (pa_cons (pv 1) pa_nil))) (ev_int pe_int) (nomark _))))))) (ess_one (es_expr (ps_expr (ev_append (pe_bm PySem.F.plainAttrs_list PySem.F.slot_list_append PySem.F.type_list_append mt_append (pv 1) (pa_cons (ev_var (pv 5)) pa_nil)))))) ess_nil))))))))))))
    (ess_one (es_ret (ps_ret (ev_var (pv 1))))))))
theorem sc__law_of_maps : FnScope ["_law_state_here", "_law_most", "_law_k", "_law_maps", "_law_turn", "_law_found", "_law_x", "_law_f", "_law_g"] ["_law_state_here", "_law_most"] (defScope (topS 24)) := ⟨rfl, rfl, rfl, by decide +kernel, rfl, by decide +kernel, by decide +kernel⟩
theorem ok__law_of_maps (KX : K.In h) (G : h.Ns mainGlobals mg) (c : Says fa fn xn ex K) : Fk PP w K mg base "_law_of_maps" 3 (He.fAd K ("_law_of_maps", none)) ["_law_state_here", "_law_most"] (spR ⟨K, mg, none, TK⟩ d__law_of_maps) := by
  obtain ⟨fd, F⟩ := c.def_ 9 (d := dd__law_of_maps) rfl
  have sc := sc__law_of_maps
  refine ⟨⟨fd, fn_dataR F sc (by decide) fun cdv A outer s H E hr tk po => ?_, F.bindsN (ps := ["_law_state_here", "_law_most"]) fun _ _ _ _ _ _ us hl => match us, hl with | [_, _], _ => rfl⟩, He.glo_ok KX G (c.fact 48 (f := .glo "_law_of_maps") rfl), F.kp⟩
  exact (ess_cons (es_set (ps_set (i := 2) sc.nd rfl (by first | exact Or.inl rfl | exact Or.inr rfl) (ev2 vo_add (pe_op op_addD (ev_int pe_int) (ev_callR (runR_nox _ _ _) ((ok__law_take KX G c).pe (hr.mono (by decide)) (by rfl) tk (pa_cons (pv 0) (ea_cons (ev_int pe_int) ea_nil'))))))))
    (ess_cons (es_own (ps_set (i := 3) sc.nd rfl (by first | exact Or.inl rfl | exact Or.inr rfl) (evN_lst (pe_lst ea_nil'))))
    (ess_cons (es_for (ps_for po rfl (ei_rng (pi_range1 (by rfl) (T_free_range KX G c) (pa_cons (ev2 vo_add (pe_op op_addD (ev_int pe_int) (ev_callR (runR_nox _ _ _) ((ok__law_take KX G c).pe (hr.mono (by decide)) (by rfl) tk (pa_cons (pv 0) (ea_cons (ev_int pe_int) ea_nil')))))) pa_nil))) (eg_nm (pg_name (i := 4) sc.nd rfl (by first | exact .inl rfl | exact .inr rfl))) (ess_one (es_expr (ps_expr (ev_append (pe_bm PySem.F.plainAttrs_list PySem.F.slot_list_append PySem.F.type_list_append mt_append (pv 3) (pa_cons (evc1 vo_tuple (pe_callTy call_tupleN (by rfl) (T_free_tuple KX G c) (by decide +kernel) (pa_cons (ev_frz (ev_comp (pe_lc (own := [("_law_x", 6)]) rfl sc.nd (ei_rng (pi_range1 (by rfl) (T_free_range KX G c) (pa_cons (ev_var (pv 2)) pa_nil))) (blkOk_by (own := [("_law_x", 6)]) (by first | decide +kernel | rfl)) (fun _ _ _ _ _ => (eg_nm (pg_name (i := 6) sc.nd rfl (by first | exact .inl rfl | exact .inr rfl)))) (fun _ _ _ _ _ => ets_nil) (fun _ _ _ _ _ => (ev_callR (runR_nox _ _ _) ((ok__law_take KX G c).pe (hr.mono (by decide)) (by rfl) takes0 (pa_cons (pv 0) (ea_cons (ev_var (pv 2)) ea_nil')))))))) pa_nil))) pa_nil))))))))
    (ess_cons (es_set (ps_set (i := 5) sc.nd rfl (by first | exact Or.inl rfl | exact Or.inr rfl) (ev_call ((ok__law_closed KX G c).pe (hr.mono (by decide)) (by rfl) tk (ea_cons (ev_var (pv 3)) ea_nil')))))
    (ess_cons (es_if (ps_if (et2 (vo_cmpI _) (pt_cmpR op_gt (evc1n vo_len (pe_callB call_lenD (by rfl) (T_free_len KX G c) (by decide +kernel) (pa_cons (pv 5) pa_nil))) (ev_var (pv 1)) (nomark _))) (ess_one (es_set (ps_set (i := 5) sc.nd rfl (by first | exact Or.inl rfl | exact Or.inr rfl) (ev_call ((ok__law_closed KX G c).pe (hr.mono (by decide)) (by rfl) tk (ea_cons (ev_sln (pe_slice sl_D (pv 3) eo_none (eo_some (ev_int pe_int)))) ea_nil')))))) ess_nil))
    (ess_cons (es_if (ps_if (et2 (vo_cmpI _) (pt_cmpR op_gt (evc1n vo_len (pe_callB call_lenD (by rfl) (T_free_len KX G c) (by decide +kernel) (pa_cons (pv 5) pa_nil))) (ev_var (pv 1)) (nomark _))) (ess_one (es_own (ps_set (i := 5) sc.nd rfl (by first | exact Or.inl rfl | exact Or.inr rfl) (evN_lst (pe_lst (ea_cons (evc1 vo_tuple (pe_callTy call_tupleN (by rfl) (T_free_tuple KX G c) (by decide +kernel) (pa_cons (ev_frz (ev_comp (pe_lc (own := [("_law_x", 6)]) rfl sc.nd (ei_rng (pi_range1 (by rfl) (T_free_range KX G c) (pa_cons (ev_var (pv 2)) pa_nil))) (blkOk_by (own := [("_law_x", 6)]) (by first | decide +kernel | rfl)) (fun _ _ _ _ _ => (eg_nm (pg_name (i := 6) sc.nd rfl (by first | exact .inl rfl | exact .inr rfl)))) (fun _ _ _ _ _ => ets_nil) (fun _ _ _ _ _ => (ev2 vo_ix (pe_ix ix_seq (ev2n vo_ix (pe_ix ix_seq (pv 3) (ev_int pe_int) (fun _ _ => rfl))) (ev_int pe_int) (fun _ _ => rfl))))))) pa_nil))) ea_nil')))))) ess_nil))
    (ess_one (es_ret (ps_ret (ev_frz (ev_pre (ev_comp (pe_lc (own := [("_law_f", 7)]) rfl sc.nd (ei_any (pi_any (ev_var (pv 5)))) (blkOk_by (own := [("_law_f", 7)]) (by first | decide +kernel | rfl)) (fun _ _ _ _ _ => (eg_nm (pg_name (i := 7) sc.nd rfl (by first | exact .inl rfl | exact .inr rfl)))) (fun _ _ _ _ _ => ets_nil) (fun _ _ _ _ _ => (evc1 vo_tuple (pe_callTy call_tupleN (by rfl) (T_free_tuple KX G c) (by decide +kernel) (pa_cons (ev_frz (ev_comp (pe_lc (own := [("_law_g", 8)]) rfl sc.nd (ei_any (pi_any (ev_var (pv 5)))) (blkOk_by (own := [("_law_g", 8)]) (by first | decide +kernel | rfl)) (fun _ _ _ _ _ => (eg_nm (pg_name (i := 8) sc.nd rfl (by first | exact .inl rfl | exact .inr rfl)))) (fun _ _ _ _ _ => ets_nil) (fun _ _ _ _ _ => (ev_indexN (pe_bm PySem.F.plainAttrs_list PySem.F.slot_list_index PySem.F.type_list_index (mt_indexA (room_u hr)) (pv 5) (pa_cons (ev_call ((ok__law_after KX G c).pe (hr.mono (by decide)) (by rfl) takes0 (ea_cons (ev_var (pv 7)) (ea_cons (ev_var (pv 8)) ea_nil')))) pa_nil))))))) pa_nil)))))))))))))))))
theorem sc__law_plain : FnScope ["_law_state_here", "_law_most", "_law_pick", "_law_n", "_law_x", "_law_y"] ["_law_state_here", "_law_most"] (defScope (topS 28)) := ⟨rfl, rfl, rfl, by decide +kernel, rfl, by decide +kernel, by decide +kernel⟩
theorem ok__law_plain (KX : K.In h) (G : h.Ns mainGlobals mg) (c : Says fa fn xn ex K) : Fk PP w K mg base "_law_plain" 4 (He.fAd K ("_law_plain", none)) ["_law_state_here", "_law_most"] (spR ⟨K, mg, none, TK⟩ d__law_plain) := by
  obtain ⟨fd, F⟩ := c.def_ 10 (d := dd__law_plain) rfl
  have sc := sc__law_plain
  refine ⟨⟨fd, fn_dataR F sc (by decide) fun cdv A outer s H E hr tk po => ?_, F.bindsN (ps := ["_law_state_here", "_law_most"]) fun _ _ _ _ _ _ us hl => match us, hl with | [_, _], _ => rfl⟩, He.glo_ok KX G (c.fact 49 (f := .glo "_law_plain") rfl), F.kp⟩
  exact (ess_cons (es_set (ps_set (i := 2) sc.nd rfl (by first | exact Or.inl rfl | exact Or.inr rfl) (ev_callR (runR_nox _ _ _) ((ok__law_take KX G c).pe (hr.mono (by decide)) (by rfl) tk (pa_cons (pv 0) (ea_cons (ev_int pe_int) ea_nil'))))))
    (ess_cons (es_set (ps_set (i := 3) sc.nd rfl (by first | exact Or.inl rfl | exact Or.inr rfl) (ev2 vo_add (pe_op op_addD (ev_int pe_int) (ev_callR (runR_nox _ _ _) ((ok__law_take KX G c).pe (hr.mono (by decide)) (by rfl) tk (pa_cons (pv 0) (ea_cons (ev_var (pv 1)) ea_nil'))))))))
    (ess_cons (es_if (ps_if (et2 vo_eq (pt_cmpR (op_eqD (room_u4 hr)) (ev_var (pv 2)) (ev_int pe_int) (nomark _))) (ess_one (es_ret (ps_ret (ev_frz (ev_comp (pe_lc (own := [("_law_x", 4)]) rfl sc.nd (ei_rng (pi_range1 (by rfl) (T_free_range KX G c) (pa_cons (ev_var (pv 3)) pa_nil))) (blkOk_by (own := [("_law_x", 4)]) (by first | decide +kernel | rfl)) (fun _ _ _ _ _ => (eg_nm (pg_name (i := 4) sc.nd rfl (by first | exact .inl rfl | exact .inr rfl)))) (fun _ _ _ _ _ => ets_nil) (fun _ _ _ _ _ => (evc1 vo_tuple (pe_callTy call_tupleN (by rfl) (T_free_tuple KX G c) (by decide +kernel) (pa_cons (ev_frz (ev_comp (pe_lc (own := [("_law_y", 5)]) rfl sc.nd (ei_rng (pi_range1 (by rfl) (T_free_range KX G c) (pa_cons (ev_var (pv 3)) pa_nil))) (blkOk_by (own := [("_law_y", 5)]) (by first | decide +kernel | rfl)) (fun _ _ _ _ _ => (eg_nm (pg_name (i := 5) sc.nd rfl (by first | exact .inl rfl | exact .inr rfl)))) (fun _ _ _ _ _ => ets_nil) (fun _ _ _ _ _ => (ev_var (pv 4)))))) pa_nil)))))))))) ess_nil))
    (ess_cons (es_if (ps_if (et2 vo_eq (pt_cmpR (op_eqD (room_u4 hr)) (ev_var (pv 2)) (ev_int pe_int) (nomark _))) (ess_one (es_ret (ps_ret (ev_frz (ev_comp (pe_lc (own := [("_law_x", 4)]) rfl sc.nd (ei_rng (pi_range1 (by rfl) (T_free_range KX G c) (pa_cons (ev_var (pv 3)) pa_nil))) (blkOk_by (own := [("_law_x", 4)]) (by first | decide +kernel | rfl)) (fun _ _ _ _ _ => (eg_nm (pg_name (i := 4) sc.nd rfl (by first | exact .inl rfl | exact .inr rfl)))) (fun _ _ _ _ _ => ets_nil) (fun _ _ _ _ _ => (evc1 vo_tuple (pe_callTy call_tupleN (by rfl) (T_free_tuple KX G c) (by decide +kernel) (pa_cons (ev_frz (ev_comp (pe_lc (own := [("_law_y", 5)]) rfl sc.nd (ei_rng (pi_range1 (by rfl) (T_free_range KX G c) (pa_cons (ev_var (pv 3)) pa_nil))) (blkOk_by (own := [("_law_y", 5)]) (by first | decide +kernel | rfl)) (fun _ _ _ _ _ => (eg_nm (pg_name (i := 5) sc.nd rfl (by first | exact .inl rfl | exact .inr rfl)))) (fun _ _ _ _ _ => ets_nil) (fun _ _ _ _ _ => (ev_int pe_int))))) pa_nil)))))))))) ess_nil))
    (ess_cons (es_if (ps_if (et2 vo_eq (pt_cmpR (op_eqD (room_u4 hr)) (ev_var (pv 2)) (ev_int pe_int) (nomark _))) (ess_one (es_ret (ps_ret (ev_callR (runR_nox _ _ _) ((ok__law_monogenic KX G c).pe (hr.mono (by decide)) (by rfl) tk (pa_cons (pv 0) (ea_cons (ev_var (pv 1)) ea_nil'))))))) ess_nil))
    (ess_cons (es_if (ps_if (et2 vo_eq (pt_cmpR (op_eqD (room_u4 hr)) (ev_var (pv 2)) (ev_int pe_int) (nomark _))) (ess_one (es_ret (ps_ret (ev_frz (ev_comp (pe_lc (own := [("_law_x", 4)]) rfl sc.nd (ei_rng (pi_range1 (by rfl) (T_free_range KX G c) (pa_cons (ev_var (pv 3)) pa_nil))) (blkOk_by (own := [("_law_x", 4)]) (by first | decide +kernel | rfl)) (fun _ _ _ _ _ => (eg_nm (pg_name (i := 4) sc.nd rfl (by first | exact .inl rfl | exact .inr rfl)))) (fun _ _ _ _ _ => ets_nil) (fun _ _ _ _ _ => (evc1 vo_tuple (pe_callTy call_tupleN (by rfl) (T_free_tuple KX G c) (by decide +kernel) (pa_cons (ev_frz (ev_comp (pe_lc (own := [("_law_y", 5)]) rfl sc.nd (ei_rng (pi_range1 (by rfl) (T_free_range KX G c) (pa_cons (ev_var (pv 3)) pa_nil))) (blkOk_by (own := [("_law_y", 5)]) (by first | decide +kernel | rfl)) (fun _ _ _ _ _ => (eg_nm (pg_name (i := 5) sc.nd rfl (by first | exact .inl rfl | exact .inr rfl)))) (fun _ _ _ _ _ => ets_nil) (fun _ _ _ _ _ => (evc2 vo_min2 (pe_callB (call_min2 rfl) (by rfl) (T_free_min KX G c) (by decide +kernel) (pa_cons (ev_var (pv 4)) (pa_cons (ev_var (pv 5)) pa_nil)))))))) pa_nil)))))))))) ess_nil))
    (ess_cons (es_if (ps_if (et2 (vo_cmpI _) (pt_cmpR op_lt (ev_var (pv 2)) (ev_int pe_int) (nomark _))) (ess_one (es_ret (ps_ret (ev_callR (runR_nox _ _ _) ((ok__law_of_maps KX G c).pe (hr.mono (by decide)) (by rfl) tk (pa_cons (pv 0) (ea_cons (ev_var (pv 1)) ea_nil'))))))) ess_nil))
    (ess_one (es_ret (ps_ret (ev_callR (runR_nox _ _ _) ((ok__law_blocks KX G c).pe (hr.mono (by decide)) (by rfl) tk (pa_cons (pv 0) (ea_cons (ev_var (pv 1)) ea_nil'))))))))))))))
theorem sc__law_order_of : FnScope ["_law_state_here", "_law_n", "_law_left", "_law_found", "_law_k"] ["_law_state_here", "_law_n"] (defScope (topS 20)) := ⟨rfl, rfl, rfl, by decide +kernel, rfl, by decide +kernel, by decide +kernel⟩
theorem ok__law_order_of (KX : K.In h) (G : h.Ns mainGlobals mg) (c : Says fa fn xn ex K) : Fk PP w K mg base "_law_order_of" 2 (He.fAd K ("_law_order_of", none)) ["_law_state_here", "_law_n"] (spR ⟨K, mg, none, TK⟩ d__law_order_of) := by
  obtain ⟨fd, F⟩ := c.def_ 11 (d := dd__law_order_of) rfl
  have sc := sc__law_order_of
  refine ⟨⟨fd, fn_dataR F sc (by decide) fun cdv A outer s H E hr tk po => ?_, F.bindsN (ps := ["_law_state_here", "_law_n"]) fun _ _ _ _ _ _ us hl => match us, hl with | [_, _], _ => rfl⟩, He.glo_ok KX G (c.fact 50 (f := .glo "_law_order_of") rfl), F.kp⟩
  exact (ess_cons (es_own (ps_set (i := 2) sc.nd rfl (by first | exact Or.inl rfl | exact Or.inr rfl) (evN_rg (pe_listRg rfl (by rfl) (T_free_list KX G c) (erg1 (prg_1 (by rfl) (T_free_range KX G c) (ev_var (pv 1))))))))
    (ess_cons (es_own (ps_set (i := 3) sc.nd rfl (by first | exact Or.inl rfl | exact Or.inr rfl) (evN_lst (pe_lst ea_nil'))))
    (ess_cons (es_for (ps_for po rfl (ei_rng (pi_range1 (by rfl) (T_free_range KX G c) (pa_cons (ev_var (pv 1)) pa_nil))) (eg_nm (pg_name (i := 4) sc.nd rfl (by first | exact .inl rfl | exact .inr rfl))) (ess_one (es_expr (ps_expr (ev_append (pe_bm PySem.F.plainAttrs_list PySem.F.slot_list_append PySem.F.type_list_append mt_append (pv 3) (pa_cons (ev_popAt (pe_bm PySem.F.plainAttrs_list PySem.F.slot_list_pop PySem.F.type_list_pop mt_popAt (pv 2) (pa_cons (ev_callR (runR_nox _ _ _) ((ok__law_take KX G c).pe (hr.mono (by decide)) (by rfl) tk (pa_cons (pv 0) (ea_cons (evc1n vo_len (pe_callB call_lenD (by rfl) (T_free_len KX G c) (by decide +kernel) (pa_cons (pv 2) pa_nil))) ea_nil')))) pa_nil))) pa_nil))))))))
    (ess_one (es_ret (ps_ret (ev_var (pv 3))))))))
theorem sc__law_semigroup : FnScope ["_law_state_here", "_law_most", "_law_table"] ["_law_state_here", "_law_most"] (defScope (topS 30)) := ⟨rfl, rfl, rfl, by decide +kernel, rfl, by decide +kernel, by decide +kernel⟩
theorem ok__law_semigroup (KX : K.In h) (G : h.Ns mainGlobals mg) (c : Says fa fn xn ex K) : Fk PP w K mg base "_law_semigroup" 5 (He.fAd K ("_law_semigroup", none)) ["_law_state_here", "_law_most"] (spR ⟨K, mg, none, TK⟩ d__law_semigroup) := by
  obtain ⟨fd, F⟩ := c.def_ 12 (d := dd__law_semigroup) rfl
  have sc := sc__law_semigroup
  refine ⟨⟨fd, fn_dataR F sc (by decide) fun cdv A outer s H E hr tk po => ?_, F.bindsN (ps := ["_law_state_here", "_law_most"]) fun _ _ _ _ _ _ us hl => match us, hl with | [_, _], _ => rfl⟩, He.glo_ok KX G (c.fact 51 (f := .glo "_law_semigroup") rfl), F.kp⟩
  exact (ess_cons (es_set (ps_set (i := 2) sc.nd rfl (by first | exact Or.inl rfl | exact Or.inr rfl) (ev_callR (runR_nox _ _ _) ((ok__law_extended KX G c).pe (hr.mono (by decide)) (by rfl) tk (pa_cons (pv 0) (ea_cons (ev_callR (runR_nox _ _ _) ((ok__law_plain KX G c).pe (hr.mono (by decide)) (by rfl) tk (pa_cons (pv 0) (ea_cons (ev_var (pv 1)) ea_nil')))) (ea_cons (ev_var (pv 1)) ea_nil')))))))
    (ess_one (es_ret (ps_ret (ev_call ((ok__law_renamed KX G c).pe (hr.mono (by decide)) (by rfl) tk (ea_cons (ev_var (pv 2)) (ea_cons (ev_callR (runR_nox _ _ _) ((ok__law_order_of KX G c).pe (hr.mono (by decide)) (by rfl) tk (pa_cons (pv 0) (ea_cons (evc1n vo_len (pe_callB call_lenD (by rfl) (T_free_len KX G c) (by decide +kernel) (pa_cons (pv 2) pa_nil))) ea_nil')))) ea_nil'))))))))
theorem sc_is_integer : FnScope ["value"] ["value"] (defScope (topS 7)) := ⟨rfl, rfl, rfl, by decide +kernel, rfl, by decide +kernel, by decide +kernel⟩
theorem ok_is_integer (KX : K.In h) (G : h.Ns mainGlobals mg) (c : Says fa fn xn ex K) : Fk PP w K mg base "is_integer" 1 (He.fAd K ("is_integer", none)) ["value"] (spD ⟨K, mg, none, TK⟩ d_is_integer) := by
  obtain ⟨fd, F⟩ := c.def_ 13 (d := dd_is_integer) rfl
  have sc := sc_is_integer
  refine ⟨⟨fd, fn_data F sc (by decide) fun cdv A outer s H E hr tk po => ?_, F.bindsN (ps := ["value"]) fun _ _ _ _ _ _ us hl => match us, hl with | [_], _ => rfl⟩, He.glo_ok KX G (c.fact 52 (f := .glo "is_integer") rfl), F.kp⟩
  exact (ess_one (es_ret (ps_ret (ev_andV (pe_and (ev_isi (by decide) (pe_callB call_isi (by rfl) (T_free_isinstance KX G c) (by decide +kernel) (pa_cons (ev_var (pv 0)) (pa_cons (pe_bltn (by rfl) (T_free_int KX G c) (by decide +kernel) rfl) pa_nil)))) (pe_one (ev_notV (pe_not (ev_isi (by decide) (pe_callB call_isi (by rfl) (T_free_isinstance KX G c) (by decide +kernel) (pa_cons (ev_var (pv 0)) (pa_cons (pe_bltn (by rfl) (T_free_bool KX G c) (by decide +kernel) rfl) pa_nil))))))))))))
theorem sc_is_item : FnScope ["value", "n"] ["value", "n"] (defScope (topS 11)) := ⟨rfl, rfl, rfl, by decide +kernel, rfl, by decide +kernel, by decide +kernel⟩
theorem ok_is_item (KX : K.In h) (G : h.Ns mainGlobals mg) (c : Says fa fn xn ex K) : Fk PP w K mg base "is_item" 2 (He.fAd K ("is_item", none)) ["value", "n"] (spD ⟨K, mg, none, TK⟩ d_is_item) := by
  obtain ⟨fd, F⟩ := c.def_ 14 (d := dd_is_item) rfl
  have sc := sc_is_item
  refine ⟨⟨fd, fn_data F sc (by decide) fun cdv A outer s H E hr tk po => ?_, F.bindsN (ps := ["value", "n"]) fun _ _ _ _ _ _ us hl => match us, hl with | [_, _], _ => rfl⟩, He.glo_ok KX G (c.fact 53 (f := .glo "is_item") rfl), F.kp⟩
  exact (ess_one (es_ret (ps_ret (ev_andV (pe_and (ev_call ((ok_is_integer KX G c).pe (hr.mono (by decide)) (by rfl) tk (ea_cons (ev_var (pv 0)) ea_nil'))) (pe_one (ev_chain (vo_cmpI _) (vo_cmpI _) (pe_chain op_le op_lt (ev_int pe_int) (ev_var (pv 0)) (ev_var (pv 1))))))))))
theorem sc_taken_table : FnScope ["table", "found", "row", "item"] ["table"] (defScope (topS 12)) := ⟨rfl, rfl, rfl, by decide +kernel, rfl, by decide +kernel, by decide +kernel⟩
theorem ok_taken_table (KX : K.In h) (G : h.Ns mainGlobals mg) (c : Says fa fn xn ex K) : Fk PP w K mg base "taken_table" 3 (He.fAd K ("taken_table", none)) ["table"] (spD ⟨K, mg, none, TK⟩ d_taken_table) := by
  obtain ⟨fd, F⟩ := c.def_ 15 (d := dd_taken_table) rfl
  have sc := sc_taken_table
  refine ⟨⟨fd, fn_data F sc (by decide) fun cdv A outer s H E hr tk po => ?_, F.bindsN (ps := ["table"]) fun _ _ _ _ _ _ us hl => match us, hl with | [_], _ => rfl⟩, He.glo_ok KX G (c.fact 54 (f := .glo "taken_table") rfl), F.kp⟩
  exact (ess_cons (es_if (ps_if (PW.pt (et_or (pw_or (et_not (pt_not (et_tst (pt_val (ev_isi2 (by decide) (by decide) (pe_callB call_isiT (by rfl) (T_free_isinstance KX G c) (by decide +kernel) (pa_cons (ev_var (pv 0)) (pa_cons (pe_tup (pa_cons (pe_bltn (by rfl) (T_free_list KX G c) (by decide +kernel) rfl) (pa_cons (pe_bltn (by rfl) (T_free_tuple KX G c) (by decide +kernel) rfl) pa_nil))) pa_nil)))))))) (pw_or1 (et2 vo_eq (pt_cmpR (op_eqD (room_u4 hr)) (evc1n vo_len (pe_callB call_lenD (by rfl) (T_free_len KX G c) (by decide +kernel) (pa_cons (pv 0) pa_nil))) (ev_int pe_int) (nomark _))))))) (ess_one (es_raise0 (T_glo_Malformed KX G c) tk (pmk_own PySem.F.excBase_ValueError (T_exc_Malformed KX G c).1 (T_glo_Malformed KX G c) (T_exc_Malformed KX G c).2.1 (raises_own (T_exc_Malformed KX G c).2.2.1 (T_exc_Malformed KX G c).2.2.2) (by rfl)))) ess_nil))
    (ess_cons (es_own (ps_set (i := 1) sc.nd rfl (by first | exact Or.inl rfl | exact Or.inr rfl) (evN_lst (pe_lst ea_nil'))))
    (ess_cons (es_for (ps_for po rfl (ei_any (pi_any (ev_var (pv 0)))) (eg_nm (pg_name (i := 2) sc.nd rfl (by first | exact .inl rfl | exact .inr rfl))) (ess_cons (es_if (ps_if (PW.pt (et_or (pw_or (et_not (pt_not (et_tst (pt_val (ev_isi2 (by decide) (by decide) (pe_callB call_isiT (by rfl) (T_free_isinstance KX G c) (by decide +kernel) (pa_cons (ev_var (pv 2)) (pa_cons (pe_tup (pa_cons (pe_bltn (by rfl) (T_free_list KX G c) (by decide +kernel) rfl) (pa_cons (pe_bltn (by rfl) (T_free_tuple KX G c) (by decide +kernel) rfl) pa_nil))) pa_nil)))))))) (pw_or1 (et2 vo_ne (pt_cmpR (op_neD (room_u4 hr)) (evc1n vo_len (pe_callB call_lenD (by rfl) (T_free_len KX G c) (by decide +kernel) (pa_cons (pv 2) pa_nil))) (evc1n vo_len (pe_callB call_lenD (by rfl) (T_free_len KX G c) (by decide +kernel) (pa_cons (pv 0) pa_nil))) (nomark _))))))) (ess_one (es_raise0 (T_glo_Malformed KX G c) tk (pmk_own PySem.F.excBase_ValueError (T_exc_Malformed KX G c).1 (T_glo_Malformed KX G c) (T_exc_Malformed KX G c).2.1 (raises_own (T_exc_Malformed KX G c).2.2.1 (T_exc_Malformed KX G c).2.2.2) (by rfl)))) ess_nil))
    (ess_cons (es_for (ps_for po rfl (ei_any (pi_any (ev_var (pv 2)))) (eg_nm (pg_name (i := 3) sc.nd rfl (by first | exact .inl rfl | exact .inr rfl))) (ess_one (es_if (ps_if (et_not (pt_not (et_tst (pt_val (ev_call ((ok_is_item KX G c).pe (hr.mono (by decide)) (by rfl) tk (ea_cons (ev_var (pv 3)) (ea_cons (evc1n vo_len (pe_callB call_lenD (by rfl) (T_free_len KX G c) (by decide +kernel) (pa_cons (pv 0) pa_nil))) ea_nil')))))))) (ess_one (es_raise0 (T_glo_Malformed KX G c) tk (pmk_own PySem.F.excBase_ValueError (T_exc_Malformed KX G c).1 (T_glo_Malformed KX G c) (T_exc_Malformed KX G c).2.1 (raises_own (T_exc_Malformed KX G c).2.2.1 (T_exc_Malformed KX G c).2.2.2) (by rfl)))) ess_nil)))))
    (ess_one (es_expr (ps_expr (ev_append (pe_bm PySem.F.plainAttrs_list PySem.F.slot_list_append PySem.F.type_list_append mt_append (pv 1) (pa_cons (evc1n vo_tuple (pe_callTy call_tupleN (by rfl) (T_free_tuple KX G c) (by decide +kernel) (pa_cons (pv 2) pa_nil))) pa_nil))))))))))
    (ess_one (es_ret (ps_ret (evc1n vo_tuple (pe_callTy call_tupleN (by rfl) (T_free_tuple KX G c) (by decide +kernel) (pa_cons (pv 1) pa_nil)))))))))
theorem sc_is_associative : FnScope ["table", "row", "y", "z", "item"] ["table"] (defScope (topS 13)) := ⟨rfl, rfl, rfl, by decide +kernel, rfl, by decide +kernel, by decide +kernel⟩
theorem ok_is_associative (KX : K.In h) (G : h.Ns mainGlobals mg) (c : Says fa fn xn ex K) : Fk PP w K mg base "is_associative" 1 (He.fAd K ("is_associative", none)) ["table"] (spD ⟨K, mg, none, TK⟩ d_is_associative) := by
  obtain ⟨fd, F⟩ := c.def_ 16 (d := dd_is_associative) rfl
  have sc := sc_is_associative
  refine ⟨⟨fd, fn_data F sc (by decide) fun cdv A outer s H E hr tk po => ?_, F.bindsN (ps := ["table"]) fun _ _ _ _ _ _ us hl => match us, hl with | [_], _ => rfl⟩, He.glo_ok KX G (c.fact 55 (f := .glo "is_associative") rfl), F.kp⟩
  exact (ess_cons (es_for (ps_for po rfl (ei_any (pi_any (ev_var (pv 0)))) (eg_nm (pg_name (i := 1) sc.nd rfl (by first | exact .inl rfl | exact .inr rfl))) (ess_one (es_for (ps_for po rfl (ei_rng (pi_range1 (by rfl) (T_free_range KX G c) (pa_cons (evc1n vo_len (pe_callB call_lenD (by rfl) (T_free_len KX G c) (by decide +kernel) (pa_cons (pv 0) pa_nil))) pa_nil))) (eg_nm (pg_name (i := 2) sc.nd rfl (by first | exact .inl rfl | exact .inr rfl))) (ess_one (es_if (ps_if (et2 vo_ne (pt_cmpR (op_neD (room_u4 hr)) (ev_frz (ev_comp (pe_lc (own := [("z", 3)]) rfl sc.nd (ei_rng (pi_range1 (by rfl) (T_free_range KX G c) (pa_cons (evc1n vo_len (pe_callB call_lenD (by rfl) (T_free_len KX G c) (by decide +kernel) (pa_cons (pv 0) pa_nil))) pa_nil))) (blkOk_by (own := [("z", 3)]) (by first | decide +kernel | rfl)) (fun _ _ _ _ _ => (eg_nm (pg_name (i := 3) sc.nd rfl (by first | exact .inl rfl | exact .inr rfl)))) (fun _ _ _ _ _ => ets_nil) (fun _ _ _ _ _ => (ev2 vo_ix (pe_ix ix_seq (ev2n vo_ix (pe_ix ix_seq (pv 0) (ev2n vo_ix (pe_ix ix_seq (pv 1) (ev_var (pv 2)) (fun _ _ => rfl))) (fun _ _ => rfl))) (ev_var (pv 3)) (fun _ _ => rfl))))))) (ev_frz (ev_comp (pe_lc (own := [("item", 4)]) rfl sc.nd (ei_any (pi_any (ev2n vo_ix (pe_ix ix_seq (pv 0) (ev_var (pv 2)) (fun _ _ => rfl))))) (blkOk_by (own := [("item", 4)]) (by first | decide +kernel | rfl)) (fun _ _ _ _ _ => (eg_nm (pg_name (i := 4) sc.nd rfl (by first | exact .inl rfl | exact .inr rfl)))) (fun _ _ _ _ _ => ets_nil) (fun _ _ _ _ _ => (ev2n vo_ix (pe_ix ix_seq (pv 1) (ev_var (pv 4)) (fun _ _ => rfl))))))) (nomark _))) (ess_one (es_ret (ps_ret (ev_bl pe_bl)))) ess_nil))))))))
    (ess_one (es_ret (ps_ret (ev_bl pe_bl)))))
theorem sc_Semigroup___init__ : FnScope ["self", "table", "own"] ["self", "table"] (defScope (inClass (topS 14) 0)) := ⟨rfl, rfl, rfl, by decide +kernel, rfl, by decide +kernel, by decide +kernel⟩
theorem ok_Semigroup (KX : K.In h) (G : h.Ns mainGlobals mg) (c : Says fa fn xn ex K) : Kf PP w K mg base "Semigroup" 4 (He.ga K "Semigroup") (He.fAd K ("Semigroup", some "__init__")) ["self", "table"] (spI ⟨K, mg, none, TK⟩ "Semigroup" d_Semigroup___init__) := by
  obtain ⟨fd, F⟩ := c.def_ 17 (d := dd_Semigroup___init__) rfl
  have sc := sc_Semigroup___init__
  refine ⟨⟨fd, fn_init F sc (by decide) fun cdv A outer s H E hr tk po => ?_, F.bindsN (ps := ["self", "table"]) fun _ _ _ _ _ _ us hl => match us, hl with | [_, _], _ => rfl⟩, He.mkr_ok (c.fact 56 (f := .mkr "Semigroup") rfl), He.glo_ok KX G (c.fact 13 (f := .glo "Semigroup") rfl)⟩
  exact (ess_cons (es_set (ps_set (i := 2) sc.nd rfl (by first | exact Or.inl rfl | exact Or.inr rfl) (ev_call ((ok_taken_table KX G c).pe (hr.mono (by decide)) (by rfl) tk (ea_cons (ev_var (pv 1)) ea_nil')))))
    (ess_cons (es_if (ps_if (et2 (vo_cmpI _) (pt_cmpR op_gt (evc1n vo_len (pe_callB call_lenD (by rfl) (T_free_len KX G c) (by decide +kernel) (pa_cons (pv 2) pa_nil))) (ev_gint (T_int_MOST KX G c) (by rfl)) (nomark _))) (ess_one (es_raise1 (T_glo_Refused KX G c) tk (pmk_err (k := 1) (T_err_Refused KX G c).1 (T_glo_Refused KX G c) (T_free_super KX G c) (hr.mono (by decide)) (pa_cons (ev_str pe_str) pa_nil) (by rfl)))) ess_nil))
    (ess_cons (es_if (ps_if (et_not (pt_not (et_tst (pt_val (ev_call ((ok_is_associative KX G c).pe (hr.mono (by decide)) (by rfl) tk (ea_cons (ev_var (pv 2)) ea_nil'))))))) (ess_one (es_raise1 (T_glo_Refused KX G c) tk (pmk_err (k := 1) (T_err_Refused KX G c).1 (T_glo_Refused KX G c) (T_free_super KX G c) (hr.mono (by decide)) (pa_cons (ev_str pe_str) pa_nil) (by rfl)))) ess_nil))
    (ess_cons (es_self (T_cls_Semigroup KX G c) (T_noat_Semigroup_n KX G c) (ps_fld (pv 0) (evc1n vo_len (pe_callB call_lenD (by rfl) (T_free_len KX G c) (by decide +kernel) (pa_cons (pv 2) pa_nil))) rfl))
    (ess_one (es_self (T_cls_Semigroup KX G c) (T_noat_Semigroup_table KX G c) (ps_fld (pv 0) (ev_var (pv 2)) rfl)))))))
theorem sc_Semigroup___str__ : FnScope ["self", "body", "row", "item"] ["self"] (defScope (inClass (topS 14) 2)) := ⟨rfl, rfl, rfl, by decide +kernel, rfl, by decide +kernel, by decide +kernel⟩
theorem ok_Semigroup___str__ (KX : K.In h) (G : h.Ns mainGlobals mg) (c : Says fa fn xn ex K) : Mf PP w K mg base (He.ga K "Semigroup") "__str__" 1 (He.fAd K ("Semigroup", some "__str__")) ["self"] (spD ⟨K, mg, none, TK⟩ d_Semigroup___str__) := by
  obtain ⟨fd, F⟩ := c.def_ 18 (d := dd_Semigroup___str__) rfl
  have sc := sc_Semigroup___str__
  refine ⟨⟨fd, fn_data F sc (by decide) fun cdv A outer s H E hr tk po => ?_, F.bindsN (ps := ["self"]) fun _ _ _ _ _ _ us hl => match us, hl with | [_], _ => rfl⟩, He.meth_ok (c.fact 57 (f := .meth "Semigroup" "__str__") rfl)⟩
  exact (ess_cons (es_set (ps_set (i := 1) sc.nd rfl (by first | exact Or.inl rfl | exact Or.inr rfl) (ev_join (pe_m1 PySem.F.slot_str_join PySem.F.type_str_join mt_join (ev_str pe_str) (ev_frz (ev_comp (pe_lc (own := [("row", 2)]) rfl sc.nd (ei_any (pi_any (ev_fld (T_cls_Semigroup KX G c) (T_noat_Semigroup_table KX G c) (pe_fld (ev_var (pv 0)) rfl)))) (blkOk_by (own := [("row", 2)]) (by first | decide +kernel | rfl)) (fun _ _ _ _ _ => (eg_nm (pg_name (i := 2) sc.nd rfl (by first | exact .inl rfl | exact .inr rfl)))) (fun _ _ _ _ _ => ets_nil) (fun _ _ _ _ _ => (ev2 vo_add (pe_op op_addD (ev_str pe_str) (ev_join (pe_m1 PySem.F.slot_str_join PySem.F.type_str_join mt_join (ev_str pe_str) (ev_frz (ev_comp (pe_lc (own := [("item", 3)]) rfl sc.nd (ei_any (pi_any (ev_var (pv 2)))) (blkOk_by (own := [("item", 3)]) (by first | decide +kernel | rfl)) (fun _ _ _ _ _ => (eg_nm (pg_name (i := 3) sc.nd rfl (by first | exact .inl rfl | exact .inr rfl)))) (fun _ _ _ _ _ => ets_nil) (fun _ _ _ _ _ => (evc1n vo_str (pe_callTy call_str_int (by rfl) (T_free_str KX G c) (by decide +kernel) (pa_cons (pv 3) pa_nil)))))))))))))))))))
    (ess_one (es_ret (ps_ret (ev_fstr (pe_joined (PJd.pj (PJd.cons (ev_fmt (pe_fmt (ev_fld (T_cls_Semigroup KX G c) (T_noat_Semigroup_n KX G c) (pe_fld (ev_var (pv 0)) rfl)))) (PJd.cons (ev_str pe_str) (PJd.cons (ev_fmt (pe_fmt (ev_var (pv 1)))) PJd.nil))))))))))
theorem sc_Semigroup___eq__ : FnScope ["self", "other"] ["self", "other"] (defScope (inClass (topS 14) 1)) := ⟨rfl, rfl, rfl, by decide +kernel, rfl, by decide +kernel, by decide +kernel⟩
theorem ok_Semigroup___eq__ (KX : K.In h) (G : h.Ns mainGlobals mg) (c : Says fa fn xn ex K) : Mf PP w K mg base (He.ga K "Semigroup") "__eq__" 1 (He.fAd K ("Semigroup", some "__eq__")) ["self", "other"] (spD ⟨K, mg, none, TK⟩ d_Semigroup___eq__) := by
  obtain ⟨fd, F⟩ := c.def_ 19 (d := dd_Semigroup___eq__) rfl
  have sc := sc_Semigroup___eq__
  refine ⟨⟨fd, fn_data F sc (by decide) fun cdv A outer s H E hr tk po => ?_, F.bindsN (ps := ["self", "other"]) fun _ _ _ _ _ _ us hl => match us, hl with | [_, _], _ => rfl⟩, He.meth_ok (c.fact 58 (f := .meth "Semigroup" "__eq__") rfl)⟩
  exact (ess_one (es_ret (ps_ret (ev_andV (pe_and (ev_isC (T_isf_Semigroup KX G c) (pe_callB call_isi (by rfl) (T_free_isinstance KX G c) (by decide +kernel) (pa_cons (ev_var (pv 1)) (pa_cons (pe_glob (by rfl) (T_isf_Semigroup KX G c).gC rfl) pa_nil)))) (pe_one (ev2 vo_eq (pe_cmpR (op_eqD (room_u4 hr)) (ev_fld (T_cls_Semigroup KX G c) (T_noat_Semigroup_table KX G c) (pe_fld (ev_var (pv 0)) rfl)) (ev_fld (T_cls_Semigroup KX G c) (T_noat_Semigroup_table KX G c) (pe_fld (ev_var (pv 1)) rfl)) (nomark _)))))))))
theorem sc_read_number : FnScope ["text", "sign"] ["text"] (defScope (topS 15)) := ⟨rfl, rfl, rfl, by decide +kernel, rfl, by decide +kernel, by decide +kernel⟩
theorem ok_read_number (KX : K.In h) (G : h.Ns mainGlobals mg) (c : Says fa fn xn ex K) : Fk PP w K mg base "read_number" 2 (He.fAd K ("read_number", none)) ["text"] (spD ⟨K, mg, none, TK⟩ d_read_number) := by
  obtain ⟨fd, F⟩ := c.def_ 20 (d := dd_read_number) rfl
  have sc := sc_read_number
  refine ⟨⟨fd, fn_data F sc (by decide) fun cdv A outer s H E hr tk po => ?_, F.bindsN (ps := ["text"]) fun _ _ _ _ _ _ us hl => match us, hl with | [_], _ => rfl⟩, He.glo_ok KX G (c.fact 59 (f := .glo "read_number") rfl), F.kp⟩
  exact (ess_cons (es_if (ps_if (PW.pt (et_or (pw_or (et2 vo_eq (pt_cmpR (op_eqD (room_u4 hr)) (ev_var (pv 0)) (ev_str pe_str) (nomark _))) (et_or (pw_or (et2 (vo_cmpI _) (pt_cmpR op_gt (evc1n vo_len (pe_callB call_lenD (by rfl) (T_free_len KX G c) (by decide +kernel) (pa_cons (pv 0) pa_nil))) (ev_int pe_int) (nomark _))) (pw_or1 (PW.pt (et_and (pw_and (et2 vo_eq (pt_cmpR (op_eqD (room_u4 hr)) (evc1n vo_len (pe_callB call_lenD (by rfl) (T_free_len KX G c) (by decide +kernel) (pa_cons (pv 0) pa_nil))) (ev_int pe_int) (nomark _))) (pw_and1 (et2 vo_eq (pt_cmpR (op_eqD (room_u4 hr)) (ev2n vo_ix (pe_ix ix_seq (pv 0) (ev_int pe_int) (fun _ _ => rfl))) (ev_str pe_str) (nomark _))))))))))))) (ess_one (es_raise1 (T_glo_NoText KX G c) tk (pmk_err (k := 1) (T_err_NoText KX G c).1 (T_glo_NoText KX G c) (T_free_super KX G c) (hr.mono (by decide)) (pa_cons (ev_int pe_int) pa_nil) (by rfl)))) ess_nil))
    (ess_cons (es_for (ps_for po rfl (ei_str (pi_str (ev_var (pv 0)))) (eg_nm (pg_name (i := 1) sc.nd rfl (by first | exact .inl rfl | exact .inr rfl))) (ess_one (es_if (ps_if (et2 vo_notin (pt_cmpR (op_notInA (room_u hr)) (ev_var (pv 1)) (ev_gstr (T_str_DIGITS KX G c) (by rfl)) (by with_unfolding_all rfl))) (ess_one (es_raise1 (T_glo_NoText KX G c) tk (pmk_err (k := 1) (T_err_NoText KX G c).1 (T_glo_NoText KX G c) (T_free_super KX G c) (hr.mono (by decide)) (pa_cons (ev_int pe_int) pa_nil) (by rfl)))) ess_nil)))))
    (ess_one (es_ret (ps_ret (evc1 vo_intS (pe_callTy call_int_str (by rfl) (T_free_int KX G c) (by decide +kernel) (pa_cons (ev_var (pv 0)) pa_nil))))))))
theorem ok_is_integer_n (KX : K.In h) (G : h.Ns mainGlobals mg) (c : Says fa fn xn ex K) : FkN PP w K mg base "is_integer" 1 (He.fAd K ("is_integer", none)) ["value"] (spD ⟨K, mg, none, TK⟩ d_is_integer) := by
  obtain ⟨fd, F⟩ := c.def_ 13 (d := dd_is_integer) rfl
  have sc := sc_is_integer
  refine ⟨⟨fd, fn_dataN F sc (by decide) fun cdv A outer s H E hr tkn po => ?_, F.bindsN (ps := ["value"]) fun _ _ _ _ _ _ us hl => match us, hl with | [_], _ => rfl⟩, He.glo_ok KX G (c.fact 52 (f := .glo "is_integer") rfl), F.kp⟩
  exact (ess_one (es_ret (ps_ret (ev_andV (pe_and (ev_isi (by decide) (pe_callB call_isi (by rfl) (T_free_isinstance KX G c) (by decide +kernel) (pa_cons (ev_var (pv 0)) (pa_cons (pe_bltn (by rfl) (T_free_int KX G c) (by decide +kernel) rfl) pa_nil)))) (pe_one (ev_notV (pe_not (ev_isi (by decide) (pe_callB call_isi (by rfl) (T_free_isinstance KX G c) (by decide +kernel) (pa_cons (ev_var (pv 0)) (pa_cons (pe_bltn (by rfl) (T_free_bool KX G c) (by decide +kernel) rfl) pa_nil))))))))))))
theorem ok_is_item_n (KX : K.In h) (G : h.Ns mainGlobals mg) (c : Says fa fn xn ex K) : FkN PP w K mg base "is_item" 2 (He.fAd K ("is_item", none)) ["value", "n"] (spD ⟨K, mg, none, TK⟩ d_is_item) := by
  obtain ⟨fd, F⟩ := c.def_ 14 (d := dd_is_item) rfl
  have sc := sc_is_item
  refine ⟨⟨fd, fn_dataN F sc (by decide) fun cdv A outer s H E hr tkn po => ?_, F.bindsN (ps := ["value", "n"]) fun _ _ _ _ _ _ us hl => match us, hl with | [_, _], _ => rfl⟩, He.glo_ok KX G (c.fact 53 (f := .glo "is_item") rfl), F.kp⟩
  exact (ess_one (es_ret (ps_ret (ev_andV (pe_and (ev_call ((ok_is_integer_n KX G c).pe (hr.mono (by decide)) (by rfl) tkn (ea_cons (ev_var (pv 0)) ea_nil'))) (pe_one (ev_chain (vo_cmpI _) (vo_cmpI _) (pe_chain op_le op_lt (ev_int pe_int) (ev_var (pv 0)) (ev_var (pv 1))))))))))
theorem ok_taken_table_n (KX : K.In h) (G : h.Ns mainGlobals mg) (c : Says fa fn xn ex K) : FkN PP w K mg base "taken_table" 3 (He.fAd K ("taken_table", none)) ["table"] (spD ⟨K, mg, none, TK⟩ d_taken_table) := by
  obtain ⟨fd, F⟩ := c.def_ 15 (d := dd_taken_table) rfl
  have sc := sc_taken_table
  refine ⟨⟨fd, fn_dataN F sc (by decide) fun cdv A outer s H E hr tkn po => ?_, F.bindsN (ps := ["table"]) fun _ _ _ _ _ _ us hl => match us, hl with | [_], _ => rfl⟩, He.glo_ok KX G (c.fact 54 (f := .glo "taken_table") rfl), F.kp⟩
  exact (ess_cons (es_if (ps_if (PW.pt (et_or (pw_or (et_not (pt_not (et_tst (pt_val (ev_isi2 (by decide) (by decide) (pe_callB call_isiT (by rfl) (T_free_isinstance KX G c) (by decide +kernel) (pa_cons (ev_var (pv 0)) (pa_cons (pe_tup (pa_cons (pe_bltn (by rfl) (T_free_list KX G c) (by decide +kernel) rfl) (pa_cons (pe_bltn (by rfl) (T_free_tuple KX G c) (by decide +kernel) rfl) pa_nil))) pa_nil)))))))) (pw_or1 (et2 vo_eq (pt_cmpR (op_eqD (room_u4 hr)) (evc1n vo_len (pe_callB call_lenD (by rfl) (T_free_len KX G c) (by decide +kernel) (pa_cons (pv 0) pa_nil))) (ev_int pe_int) (nomark _))))))) (ess_one (es_raise0N (T_glo_Malformed KX G c) tkn (L2N.pmk_own PySem.F.excBase_ValueError (T_exc_Malformed KX G c).1 (T_glo_Malformed KX G c) (T_exc_Malformed KX G c).2.1 (raises_own (T_exc_Malformed KX G c).2.2.1 (T_exc_Malformed KX G c).2.2.2) (by rfl)))) ess_nil))
    (ess_cons (es_own (ps_set (i := 1) sc.nd rfl (by first | exact Or.inl rfl | exact Or.inr rfl) (evN_lst (pe_lst ea_nil'))))
    (ess_cons (es_for (ps_for po rfl (ei_any (pi_any (ev_var (pv 0)))) (eg_nm (pg_name (i := 2) sc.nd rfl (by first | exact .inl rfl | exact .inr rfl))) (ess_cons (es_if (ps_if (PW.pt (et_or (pw_or (et_not (pt_not (et_tst (pt_val (ev_isi2 (by decide) (by decide) (pe_callB call_isiT (by rfl) (T_free_isinstance KX G c) (by decide +kernel) (pa_cons (ev_var (pv 2)) (pa_cons (pe_tup (pa_cons (pe_bltn (by rfl) (T_free_list KX G c) (by decide +kernel) rfl) (pa_cons (pe_bltn (by rfl) (T_free_tuple KX G c) (by decide +kernel) rfl) pa_nil))) pa_nil)))))))) (pw_or1 (et2 vo_ne (pt_cmpR (op_neD (room_u4 hr)) (evc1n vo_len (pe_callB call_lenD (by rfl) (T_free_len KX G c) (by decide +kernel) (pa_cons (pv 2) pa_nil))) (evc1n vo_len (pe_callB call_lenD (by rfl) (T_free_len KX G c) (by decide +kernel) (pa_cons (pv 0) pa_nil))) (nomark _))))))) (ess_one (es_raise0N (T_glo_Malformed KX G c) tkn (L2N.pmk_own PySem.F.excBase_ValueError (T_exc_Malformed KX G c).1 (T_glo_Malformed KX G c) (T_exc_Malformed KX G c).2.1 (raises_own (T_exc_Malformed KX G c).2.2.1 (T_exc_Malformed KX G c).2.2.2) (by rfl)))) ess_nil))
    (ess_cons (es_for (ps_for po rfl (ei_any (pi_any (ev_var (pv 2)))) (eg_nm (pg_name (i := 3) sc.nd rfl (by first | exact .inl rfl | exact .inr rfl))) (ess_one (es_if (ps_if (et_not (pt_not (et_tst (pt_val (ev_call ((ok_is_item_n KX G c).pe (hr.mono (by decide)) (by rfl) tkn (ea_cons (ev_var (pv 3)) (ea_cons (evc1n vo_len (pe_callB call_lenD (by rfl) (T_free_len KX G c) (by decide +kernel) (pa_cons (pv 0) pa_nil))) ea_nil')))))))) (ess_one (es_raise0N (T_glo_Malformed KX G c) tkn (L2N.pmk_own PySem.F.excBase_ValueError (T_exc_Malformed KX G c).1 (T_glo_Malformed KX G c) (T_exc_Malformed KX G c).2.1 (raises_own (T_exc_Malformed KX G c).2.2.1 (T_exc_Malformed KX G c).2.2.2) (by rfl)))) ess_nil)))))
    (ess_one (es_expr (ps_expr (ev_append (pe_bm PySem.F.plainAttrs_list PySem.F.slot_list_append PySem.F.type_list_append mt_append (pv 1) (pa_cons (evc1n vo_tuple (pe_callTy call_tupleN (by rfl) (T_free_tuple KX G c) (by decide +kernel) (pa_cons (pv 2) pa_nil))) pa_nil))))))))))
    (ess_one (es_ret (ps_ret (evc1n vo_tuple (pe_callTy call_tupleN (by rfl) (T_free_tuple KX G c) (by decide +kernel) (pa_cons (pv 1) pa_nil)))))))))
theorem ok_is_associative_n (KX : K.In h) (G : h.Ns mainGlobals mg) (c : Says fa fn xn ex K) : FkN PP w K mg base "is_associative" 1 (He.fAd K ("is_associative", none)) ["table"] (spD ⟨K, mg, none, TK⟩ d_is_associative) := by
  obtain ⟨fd, F⟩ := c.def_ 16 (d := dd_is_associative) rfl
  have sc := sc_is_associative
  refine ⟨⟨fd, fn_dataN F sc (by decide) fun cdv A outer s H E hr tkn po => ?_, F.bindsN (ps := ["table"]) fun _ _ _ _ _ _ us hl => match us, hl with | [_], _ => rfl⟩, He.glo_ok KX G (c.fact 55 (f := .glo "is_associative") rfl), F.kp⟩
  exact (ess_cons (es_for (ps_for po rfl (ei_any (pi_any (ev_var (pv 0)))) (eg_nm (pg_name (i := 1) sc.nd rfl (by first | exact .inl rfl | exact .inr rfl))) (ess_one (es_for (ps_for po rfl (ei_rng (pi_range1 (by rfl) (T_free_range KX G c) (pa_cons (evc1n vo_len (pe_callB call_lenD (by rfl) (T_free_len KX G c) (by decide +kernel) (pa_cons (pv 0) pa_nil))) pa_nil))) (eg_nm (pg_name (i := 2) sc.nd rfl (by first | exact .inl rfl | exact .inr rfl))) (ess_one (es_if (ps_if (et2 vo_ne (pt_cmpR (op_neD (room_u4 hr)) (ev_frz (ev_comp (pe_lc (own := [("z", 3)]) rfl sc.nd (ei_rng (pi_range1 (by rfl) (T_free_range KX G c) (pa_cons (evc1n vo_len (pe_callB call_lenD (by rfl) (T_free_len KX G c) (by decide +kernel) (pa_cons (pv 0) pa_nil))) pa_nil))) (blkOk_by (own := [("z", 3)]) (by first | decide +kernel | rfl)) (fun _ _ _ _ _ => (eg_nm (pg_name (i := 3) sc.nd rfl (by first | exact .inl rfl | exact .inr rfl)))) (fun _ _ _ _ _ => ets_nil) (fun _ _ _ _ _ => (ev2 vo_ix (pe_ix ix_seq (ev2n vo_ix (pe_ix ix_seq (pv 0) (ev2n vo_ix (pe_ix ix_seq (pv 1) (ev_var (pv 2)) (fun _ _ => rfl))) (fun _ _ => rfl))) (ev_var (pv 3)) (fun _ _ => rfl))))))) (ev_frz (ev_comp (pe_lc (own := [("item", 4)]) rfl sc.nd (ei_any (pi_any (ev2n vo_ix (pe_ix ix_seq (pv 0) (ev_var (pv 2)) (fun _ _ => rfl))))) (blkOk_by (own := [("item", 4)]) (by first | decide +kernel | rfl)) (fun _ _ _ _ _ => (eg_nm (pg_name (i := 4) sc.nd rfl (by first | exact .inl rfl | exact .inr rfl)))) (fun _ _ _ _ _ => ets_nil) (fun _ _ _ _ _ => (ev2n vo_ix (pe_ix ix_seq (pv 1) (ev_var (pv 4)) (fun _ _ => rfl))))))) (nomark _))) (ess_one (es_ret (ps_ret (ev_bl pe_bl)))) ess_nil))))))))
    (ess_one (es_ret (ps_ret (ev_bl pe_bl)))))
theorem ok_Semigroup_n (KX : K.In h) (G : h.Ns mainGlobals mg) (c : Says fa fn xn ex K) : KfN PP w K mg base "Semigroup" 4 (He.ga K "Semigroup") (He.fAd K ("Semigroup", some "__init__")) ["self", "table"] (spI ⟨K, mg, none, TK⟩ "Semigroup" d_Semigroup___init__) := by
  obtain ⟨fd, F⟩ := c.def_ 17 (d := dd_Semigroup___init__) rfl
  have sc := sc_Semigroup___init__
  refine ⟨⟨fd, fn_initN F sc (by decide) fun cdv A outer s H E hr tkn po => ?_, F.bindsN (ps := ["self", "table"]) fun _ _ _ _ _ _ us hl => match us, hl with | [_, _], _ => rfl⟩, He.mkr_ok (c.fact 56 (f := .mkr "Semigroup") rfl), He.glo_ok KX G (c.fact 13 (f := .glo "Semigroup") rfl)⟩
  exact (ess_cons (es_set (ps_set (i := 2) sc.nd rfl (by first | exact Or.inl rfl | exact Or.inr rfl) (ev_call ((ok_taken_table_n KX G c).pe (hr.mono (by decide)) (by rfl) tkn (ea_cons (ev_var (pv 1)) ea_nil')))))
    (ess_cons (es_if (ps_if (et2 (vo_cmpI _) (pt_cmpR op_gt (evc1n vo_len (pe_callB call_lenD (by rfl) (T_free_len KX G c) (by decide +kernel) (pa_cons (pv 2) pa_nil))) (ev_gint (T_int_MOST KX G c) (by rfl)) (nomark _))) (ess_one (es_raise1N (T_glo_Refused KX G c) tkn (L2H.PMk5.pmk (pmk_err5 (T_err_Refused KX G c).1 (T_glo_Refused KX G c) (T_free_super KX G c) (room_dp hr) (pa_cons (ev_str pe_str) pa_nil) (by rfl))))) ess_nil))
    (ess_cons (es_if (ps_if (et_not (pt_not (et_tst (pt_val (ev_call ((ok_is_associative_n KX G c).pe (hr.mono (by decide)) (by rfl) tkn (ea_cons (ev_var (pv 2)) ea_nil'))))))) (ess_one (es_raise1N (T_glo_Refused KX G c) tkn (L2H.PMk5.pmk (pmk_err5 (T_err_Refused KX G c).1 (T_glo_Refused KX G c) (T_free_super KX G c) (room_dp hr) (pa_cons (ev_str pe_str) pa_nil) (by rfl))))) ess_nil))
    (ess_cons (es_self (T_cls_Semigroup KX G c) (T_noat_Semigroup_n KX G c) (ps_fld (pv 0) (evc1n vo_len (pe_callB call_lenD (by rfl) (T_free_len KX G c) (by decide +kernel) (pa_cons (pv 2) pa_nil))) rfl))
    (ess_one (es_self (T_cls_Semigroup KX G c) (T_noat_Semigroup_table KX G c) (ps_fld (pv 0) (ev_var (pv 2)) rfl)))))))
theorem sc_read_semigroup : FnScope ["text", "head", "colon", "tail", "n", "rows", "piece", "item"] ["text"] (defScope (topS 16)) := ⟨rfl, rfl, rfl, by decide +kernel, rfl, by decide +kernel, by decide +kernel⟩
theorem ok_read_semigroup (KX : K.In h) (G : h.Ns mainGlobals mg) (c : Says fa fn xn ex K) : Fk PP w K mg base "read_semigroup" 6 (He.fAd K ("read_semigroup", none)) ["text"] (spD ⟨K, mg, none, TK⟩ d_read_semigroup) := by
  obtain ⟨fd, F⟩ := c.def_ 21 (d := dd_read_semigroup) rfl
  have sc := sc_read_semigroup
  refine ⟨⟨fd, fn_data F sc (by decide) fun cdv A outer s H E hr tk po => ?_, F.bindsN (ps := ["text"]) fun _ _ _ _ _ _ us hl => match us, hl with | [_], _ => rfl⟩, He.glo_ok KX G (c.fact 60 (f := .glo "read_semigroup") rfl), F.kp⟩
  exact (ess_cons (es_if (ps_if (et_not (pt_not (et_tst (pt_val (ev_isS (T_isf_Semigroup KX G c) (T_iss_Semigroup KX G c) (pe_callB call_isi (by rfl) (T_free_isinstance KX G c) (by decide +kernel) (pa_cons (ev_var (pv 0)) (pa_cons (pe_bltn (by rfl) (T_free_str KX G c) (by decide +kernel) rfl) pa_nil)))))))) (ess_one (es_raise1 (T_glo_NoText KX G c) tk (pmk_err (k := 1) (T_err_NoText KX G c).1 (T_glo_NoText KX G c) (T_free_super KX G c) (hr.mono (by decide)) (pa_cons (ev_int pe_int) pa_nil) (by rfl)))) ess_nil))
    (ess_cons (es_asg (ps_asg (ev_Partn rfl (pe_partition (ev_var (pv 0)) (ev_str pe_str))) (eg_nms (pg_tup rfl (pgs_cons (pg_name (i := 1) sc.nd rfl (by first | exact .inl rfl | exact .inr rfl)) (pgs_cons (pg_name (i := 2) sc.nd rfl (by first | exact .inl rfl | exact .inr rfl)) (pgs_cons (pg_name (i := 3) sc.nd rfl (by first | exact .inl rfl | exact .inr rfl)) pgs_nil)))) rfl)))
    (ess_cons (es_set (ps_set (i := 4) sc.nd rfl (by first | exact Or.inl rfl | exact Or.inr rfl) (ev_call ((ok_read_number KX G c).pe (hr.mono (by decide)) (by rfl) tk (ea_cons (ev_var (pv 1)) ea_nil')))))
    (ess_cons (es_own (ps_set (i := 5) sc.nd rfl (by first | exact Or.inl rfl | exact Or.inr rfl) (evN_lst (pe_lst ea_nil'))))
    (ess_cons (es_for (ps_for po rfl (ei_any (pi_any (ev_frz (ev_split (pe_split (ev_var (pv 3)) (ev_str pe_str)))))) (eg_nm (pg_name (i := 6) sc.nd rfl (by first | exact .inl rfl | exact .inr rfl))) (ess_cons (es_if (ps_if (et_not (pt_not (et_tst (pt_val (ev_SS (pe_m1 PySem.F.slot_str_startswith PySem.F.type_str_startswith mt_ssStarts (ev_var (pv 6)) (ev_str pe_str))))))) (ess_one (es_raise1 (T_glo_NoText KX G c) tk (pmk_err (k := 1) (T_err_NoText KX G c).1 (T_glo_NoText KX G c) (T_free_super KX G c) (hr.mono (by decide)) (pa_cons (ev_int pe_int) pa_nil) (by rfl)))) ess_nil))
    (ess_one (es_expr (ps_expr (ev_append (pe_bm PySem.F.plainAttrs_list PySem.F.slot_list_append PySem.F.type_list_append mt_append (pv 5) (pa_cons (ev_frz (ev_compX (pe_lcX (own := [("item", 7)]) rfl sc.nd (fly_def rfl rfl tk) (ei_any (pi_any (ev_frz (ev_split (pe_split (ev_slS (pe_slice sl_str (ev_var (pv 6)) (eo_some (ev_int pe_int)) eo_none)) (ev_str pe_str)))))) (blkOk_by (own := [("item", 7)]) (by first | decide +kernel | rfl)) (fun _ _ _ _ _ _ fl => (eg_nm (pg_name (i := 7) sc.nd rfl (by first | exact .inl rfl | exact .inr rfl)))) (fun _ _ _ _ _ _ fl => pts_nil) (fun _ _ _ _ _ _ fl => (ev_call ((ok_read_number KX G c).pe (hr.mono (by decide)) (by rfl) fl.tk (ea_cons (ev_var (pv 7)) ea_nil'))))))) pa_nil)))))))))
    (ess_cons (es_if (ps_if (PW.pt (et_or (pw_or (et2 vo_eq (pt_cmpR (op_eqD (room_u4 hr)) (ev_var (pv 2)) (ev_str pe_str) (nomark _))) (pw_or1 (et2 vo_ne (pt_cmpR (op_neD (room_u4 hr)) (evc1n vo_len (pe_callB call_lenD (by rfl) (T_free_len KX G c) (by decide +kernel) (pa_cons (pv 5) pa_nil))) (ev_var (pv 4)) (nomark _))))))) (ess_one (es_raise1 (T_glo_NoText KX G c) tk (pmk_err (k := 1) (T_err_NoText KX G c).1 (T_glo_NoText KX G c) (T_free_super KX G c) (hr.mono (by decide)) (pa_cons (ev_int pe_int) pa_nil) (by rfl)))) ess_nil))
    (ess_one (es_tryX (T_mt KX G c) tk rfl (T_glo_Fault KX G c) ⟨by rfl, by decide, .inl (T_glo_Fault KX G c)⟩ (L2H.passesAt_of rfl) (fun W' pn xe tkn => (ess_one (es_ret (ps_ret (ev_make (T_cls_Semigroup KX G c).gC ((ok_Semigroup_n KX G c).pe (hr.mono (by decide)) (by rfl) tkn (ea_cons (ev_var (pv 5)) ea_nil'))))))) (fun a oe cls d pn tks hot => (ess_one (es_raiseFN (T_glo_NoText KX G c) hot tks (pmk_err5 (T_err_NoText KX G c).1 (T_glo_NoText KX G c) (T_free_super KX G c) (room_dps hr) (pa_cons (ev_int pe_int) pa_nil) (by rfl)))))))))))))
theorem sc__law_at : FnScope ["_law_text", "e"] ["_law_text"] (defScope (topS 31)) := ⟨rfl, rfl, rfl, by decide +kernel, rfl, by decide +kernel, by decide +kernel⟩
theorem ok__law_at (KX : K.In h) (G : h.Ns mainGlobals mg) (c : Says fa fn xn ex K) : Fk PP w K mg base "_law_at" 7 (He.fAd K ("_law_at", none)) ["_law_text"] (spD ⟨K, mg, none, TK⟩ d__law_at) := by
  obtain ⟨fd, F⟩ := c.def_ 22 (d := dd__law_at) rfl
  have sc := sc__law_at
  refine ⟨⟨fd, fn_data F sc (by decide) fun cdv A outer s H E hr tk po => ?_, F.bindsN (ps := ["_law_text"]) fun _ _ _ _ _ _ us hl => match us, hl with | [_], _ => rfl⟩, He.glo_ok KX G (c.fact 61 (f := .glo "_law_at") rfl), F.kp⟩
  exact (ess_cons (es_try (T_mt KX G c) tk rfl (fun W' pn xe tk => (ess_one (es_expr (ps_expr (ev_call ((ok_read_semigroup KX G c).pe (hr.mono (by decide)) (by rfl) tk (ea_cons (ev_var (pv 0)) ea_nil'))))))) (HdsD.nm (i := 1) (T_glo_NoText KX G c) ⟨by rfl, by decide, .inl (T_glo_NoText KX G c)⟩ rfl rfl (fun a oe cls d pn hz hf => (ess_one (es_ret (ps_ret (ev_xf (T_glo_NoText KX G c) (pe_xf (T_err_NoText KX G c).2 (T_err_NoText KX G c).1.noN hz hf (pv 1))))))) HdsD.nil) rfl rfl sc.nd)
    (ess_one (es_ret (ps_ret (ev_non pe_non)))))
theorem sc_law : FnScope ["_law_script", "_law_state_here", "_law_table", "_law_n", "_law_s", "_law_text", "_law_x", "_law_y", "_law_wrong", "_law_value"] ["_law_script"] (defScope (topS 32)) := ⟨rfl, rfl, rfl, by decide +kernel, rfl, by decide +kernel, by decide +kernel⟩
theorem ok_law (KX : K.In h) (G : h.Ns mainGlobals mg) (c : Says fa fn xn ex K) : mg ("law" : Str) = some (.ref (He.fAd K ("law", none))) ∧ ∃ fd : FuncData, (∀ (s : Shared) (u : Value), BindsTo s fd ⟨[u], []⟩ [(("_law_script" : Str), u)]) ∧ ∀ base : Heap, FnOk PP w K mg base (L2.CX PP w) 8 (He.fAd K ("law", none)) fd ["_law_script"] (spD ⟨K, mg, none, TK⟩ d_law) := by
  obtain ⟨fd, F⟩ := c.def_ 23 (d := dd_law) rfl
  have sc := sc_law
  have b := FunD.bindsA (ps := ["_law_script"]) F fun _ _ _ _ _ _ us hl => match us, hl with | [_], _ => rfl
  refine ⟨He.glo_ok KX G (c.fact 62 (f := .glo "law") rfl), fd, fun s u => b s [u] rfl, fun base => fn_data F sc (by decide) fun cdv A outer s H E hr tk po => ?_⟩
  exact (ess_cons (es_own (ps_set (i := 1) sc.nd rfl (by first | exact Or.inl rfl | exact Or.inr rfl) (ev_callO ((ok__law_state KX G c).pe (hr.mono (by decide)) (by rfl) tk (ea_cons (ev_var (pv 0)) ea_nil')))))
    (ess_cons (es_set (ps_set (i := 2) sc.nd rfl (by first | exact Or.inl rfl | exact Or.inr rfl) (ev_callR (runR_nox _ _ _) ((ok__law_semigroup KX G c).pe (hr.mono (by decide)) (by rfl) tk (pa_cons (pv 1) (ea_cons (ev_int pe_int) ea_nil'))))))
    (ess_cons (es_set (ps_set (i := 3) sc.nd rfl (by first | exact Or.inl rfl | exact Or.inr rfl) (evc1n vo_len (pe_callB call_lenD (by rfl) (T_free_len KX G c) (by decide +kernel) (pa_cons (pv 2) pa_nil)))))
    (ess_cons (es_set (ps_set (i := 4) sc.nd rfl (by first | exact Or.inl rfl | exact Or.inr rfl) (ev_make (T_cls_Semigroup KX G c).gC ((ok_Semigroup KX G c).pe (hr.mono (by decide)) (by rfl) tk (ea_cons (ev_var (pv 2)) ea_nil')))))
    (ess_setT (i := 5) sc.nd rfl (by first | exact Or.inl rfl | exact Or.inr rfl) (ev2_1 vo_add (pe1_opc op_addD (evc1n vo_str (pe_callTy call_str_int (by rfl) (T_free_str KX G c) (by decide +kernel) (pa_cons (pv 3) pa_nil)))))
    (esst_cons (PST.of (es_for (ps_for po rfl (ei_rng (pi_range1 (by rfl) (T_free_range KX G c) (pa_cons (ev_var (pv 3)) pa_nil))) (eg_nm (pg_name (i := 6) sc.nd rfl (by first | exact .inl rfl | exact .inr rfl))) (ess_cons (es_if (ps_if (et2 (vo_cmpI _) (pt_cmpR op_gt (ev_var (pv 6)) (ev_int pe_int) (nomark _))) (ess_one (es_set (ps_set (i := 5) sc.nd rfl (by first | exact Or.inl rfl | exact Or.inr rfl) (ev2 vo_add (pe_op op_addD (ev_var (pv 5)) (ev_str pe_str)))))) ess_nil))
    (ess_one (es_for (ps_for po rfl (ei_rng (pi_range1 (by rfl) (T_free_range KX G c) (pa_cons (ev_var (pv 3)) pa_nil))) (eg_nm (pg_name (i := 7) sc.nd rfl (by first | exact .inl rfl | exact .inr rfl))) (ess_one (es_set (ps_set (i := 5) sc.nd rfl (by first | exact Or.inl rfl | exact Or.inr rfl) (ev2 vo_add (pe_op op_addD (ev2 vo_add (pe_op op_addD (ev_var (pv 5)) (ev_str pe_str))) (evc1 vo_str (pe_callTy call_str_int (by rfl) (T_free_str KX G c) (by decide +kernel) (pa_cons (ev2 vo_ix (pe_ix ix_seq (ev2n vo_ix (pe_ix ix_seq (pv 2) (ev_var (pv 6)) (fun _ _ => rfl))) (ev_var (pv 7)) (fun _ _ => rfl))) pa_nil)))))))))))))))
    (esst_cons (PST.of (es_if (ps_if (PW.pt (et_or (pw_or (et2 vo_ne (pt_cmpR (op_neD (room_u4 hr)) (evc1 (vo_strO (T_cls_Semigroup KX G c).gC) (pe_callTy (cr_strO (ok_Semigroup___str__ KX G c) (hr.mono (by decide))) (by rfl) (T_free_str KX G c) (by decide +kernel) (pa_cons (ev_var (pv 4)) pa_nil))) (ev_var (pv 5)) (nomark _))) (pw_or1 (et2 vo_isnot (pt_cmpR op_isNotD (ev2 (vo_own (T_cls_Semigroup KX G c).gC) (pe_cmpR (op_ownEq (ok_Semigroup___eq__ KX G c) (hr.mono (by decide)) (T_own_Semigroup KX G c)) (ev_call ((ok_read_semigroup KX G c).pe (hr.mono (by decide)) (by rfl) tk (ea_cons (ev_var (pv 5)) ea_nil'))) (ev_var (pv 4)) (nomark _))) (ev_bl pe_bl) (nomark _))))))) (ess_one (es_ret (ps_ret (ev_bl pe_bl)))) ess_nil)))
    (esst_cons (est_own (i := 8) sc.nd rfl (by first | exact Or.inl rfl | exact Or.inr rfl) (evtN_lst (pet_lst (eat_cons (CwR.PET.of (ev2 vo_add (pe_op op_addD (ev_var (pv 5)) (ev_str pe_str)))) (eat_cons (CwR.PET.of (ev2 vo_add (pe_op op_addD (ev_str pe_str) (ev_var (pv 5))))) (eat_cons (CwR.PET.of (ev2 vo_add (pe_op op_addD (ev_var (pv 5)) (ev_str pe_str)))) (eat_cons (CwR.PET.of (ev2 vo_add (pe_op op_addD (ev_var (pv 5)) (ev_str pe_str)))) (eat_cons (CwR.PET.of (ev2 vo_add (pe_op op_addD (ev_var (pv 5)) (ev_str pe_str)))) (eat_cons (CwR.PET.of (ev_slS (pe_slice sl_str (ev_var (pv 5)) (eo_some (ev_int pe_int)) eo_none))) (eat_cons (CwR.PET.of (ev2 vo_add (pe_op op_addD (ev_str pe_str) (ev_var (pv 5))))) (eat_cons (evt_repl (CwR.pet_replC (ev_var (pv 5)))) (eat_cons (evt_repl (CwR.pet_replC (ev_var (pv 5)))) (eat_cons (CwR.PET.of (ev_slS (pe_slice sl_str (ev_var (pv 5)) eo_none (eo_some (ev1 vo_neg (pe_un un_neg (ev_int pe_int))))))) (eat_cons (CwR.PET.of (ev2 vo_add (pe_op op_addD (ev_slS (pe_slice sl_str (ev_var (pv 5)) eo_none (eo_some (ev1 vo_neg (pe_un un_neg (ev_int pe_int)))))) (ev_str pe_str)))) eat_nil))))))))))))))
    (esst_cons (est_own (i := 8) sc.nd rfl (by first | exact Or.inl rfl | exact Or.inr rfl) (evtN2 vn_add (CwR.pet_op op_addD (CwR.PET.of (ev_var (pv 8))) (evt_frz (evtN_lst (pet_lst (eat_cons (CwR.PET.of (ev2 vo_add (pe_op op_addD (ev_slS (pe_slice sl_str (ev_var (pv 5)) eo_none (eo_some (ev1 vo_neg (pe_un un_neg (ev_int pe_int)))))) (evc1n vo_str (pe_callTy call_str_int (by rfl) (T_free_str KX G c) (by decide +kernel) (pa_cons (pv 3) pa_nil)))))) (eat_cons (evt_repl (CwR.pet_replC (ev_var (pv 5)))) (eat_cons (evt_repl (CwR.pet_replC (ev_var (pv 5)))) (eat_cons (CwR.PET.of (ev_str pe_str)) (eat_cons (CwR.PET.of (ev_str pe_str)) (eat_cons (CwR.PET.of (ev_str pe_str)) (eat_cons (CwR.PET.of (ev_str pe_str)) (eat_cons (CwR.PET.of (ev_str pe_str)) (eat_cons (CwR.PET.of (ev_str pe_str)) (eat_cons (CwR.PET.of (ev_str pe_str)) (eat_cons (CwR.PET.of (ev_str pe_str)) (eat_cons (CwR.PET.of (ev_str pe_str)) (eat_cons (CwR.PET.of (ev_str pe_str)) (eat_cons (CwR.PET.of (ev_non pe_non)) (eat_cons (CwR.PET.of (ev_int pe_int)) (eat_cons (CwR.PET.of (ev_var (pv 4))) (eat_cons (CwR.PET.of (ev_tup (pe_tupN (ea_cons (ev_str pe_str) ea_nil')))) eat_nil)))))))))))))))))))))))
    (esst_one (es_ret (ps_ret (ev2 vo_eq (pe_cmpR (op_eqD (room_u4 hr)) (evc1 vo_len (pe_callB call_lenD (by rfl) (T_free_len KX G c) (by decide +kernel) (pa_cons (ev_frz (ev_comp (pe_lc (own := [("_law_value", 9)]) rfl sc.nd (ei_any (pi_any (ev_var (pv 8)))) (blkOk_by (own := [("_law_value", 9)]) (by first | decide +kernel | rfl)) (fun _ _ _ _ _ => (eg_nm (pg_name (i := 9) sc.nd rfl (by first | exact .inl rfl | exact .inr rfl)))) (fun _ _ _ _ _ => (pts_one (et2 vo_ne (pt_cmpR (op_neD (room_u4 hr)) (ev_call ((ok__law_at KX G c).pe (hr.mono (by decide)) (by rfl) takes0 (ea_cons (ev_var (pv 9)) ea_nil'))) (ev_int pe_int) (nomark _))))) (fun _ _ _ _ _ => (ev_var (pv 9)))))) pa_nil))) (ev_int pe_int) (nomark _)))))))))))))))
end
abbrev R : PySem.W.OpenRow := PySem.W.OpenLaw.row PySem.Challenge.rw_reesblocks_k03_texts_of_semigroups
abbrev hk : PySem.W.Hook := hookB 5 fa fn xn ex
def ob (s : PySem.W.SharedT) : AlB := obsBG 5 fa fn xn ex (HandSHeadRun.getT s)
theorem ob_eq (s : PySem.W.SharedT) : ob s = hk.obs s.abs := obsBG_eq (HandSHeadRun.getT_eq s)
theorem run (w : World) : HandSHeadRun.RunEq R (PySem.W.view R.prog [32]) hk ob 4000 ((["_wall", "Fault", "Malformed", "Refused", "NoText", "is_integer", "MOST", "DIGITS", "is_item", "taken_table", "is_associative", "Semigroup", "read_number", "read_semigroup", "_law_state", "_law_take", "_law_order_of", "_law_renamed", "_law_after", "_law_closed", "_law_of_maps", "_law_monogenic", "_law_triples", "_law_blocks", "_law_plain"] : List PySem.Str) ++ (["_law_extended", "_law_semigroup", "_law_at"] : List PySem.Str)) w := by
  intro os
  kernel_rfl
end LAW
namespace LAW
open DL PySem L2
def P__law_state (script : (List Int)) : M (List Int) := M.bind (pfold (fun (x10 : Int) (a11 : (Int × Int)) => M.bind (M.bind (pMul a11.1 1000003) fun c13 => .ok (c13 + (if x10 < 0 then -x10 else x10))) fun c14 => M.bind (M.bind (M.bind (pMul a11.2 48271) fun c15 => .ok (c15 + x10)) fun c17 => pMod c17 2147483647) fun c18 => .ok (c14, c18)) (cutD script none (some 63)) (0, 1)) fun (a19 : (Int × Int)) => .ok [a19.1, a19.2]
theorem S__law_state (script : (List Int)) : DO (d__law_state [D.scr script]) (P__law_state script) eI := fn_O rfl (show RO (sSeq (sSet 1 (dC (.int 0))) (sSeq (sSet 2 (dC (.int 1))) (sSeq (sFor (.nm 3) (dItems (dSln 0 dNoP (dPart (dC (.int 63))))) (sSeq (sSet 1 (dOp2 opAdd (dOp2 opMul (dVar 1) (dC (.int 1000003))) (dOp1n opAbs 3))) (sSet 2 (dOp2 opMod (dOp1 opInt (dOp2 opAdd (dOp2 opMul (dVar 2) (dC (.int 48271))) (dVar 3))) (dC (.int 2147483647)))))) sPass))) (dLst (dCons (dVar 1) (dCons (dVar 2) dNil))) [.sh (D.scr script), .no, .no, .no] (P__law_state script) (List.map eI) from
  (rs_bindP rv_ret (rs_put (st1 := [.sh (D.scr script), .sh (eI 0), .no, .no]) rfl (rs_bindP rv_ret (rs_put (st1 := [.sh (D.scr script), .sh (eI 0), .sh (eI 1), .no]) rfl (rs_bindP (rv_dItems (rv_bind (rv_dSln (rv_bind (rv_rd rfl) (rv_bind rv_ret (rv_bind (rv_dPart (rv_bind rv_ret (rv_lift (y := (some 63)) rfl))) (rv_bind (rv_rd rfl) (rv_lift op_slScr)))))) (rv_lift (y := ((List.map eI) (cutD script none (some 63)))) rfl))) (rs_for0 (e := eI) (xs := (cutD script none (some 63))) (a := (0, 1)) (f := fun (x10 : Int) (a11 : (Int × Int)) => M.bind (M.bind (pMul a11.1 1000003) fun c13 => .ok (c13 + (if x10 < 0 then -x10 else x10))) fun c14 => M.bind (M.bind (M.bind (pMul a11.2 48271) fun c15 => .ok (c15 + x10)) fun c17 => pMod c17 2147483647) fun c18 => .ok (c14, c18)) (fun (a21 : (Int × Int)) (st : DSt) => ∃ (j22 : (Option D)), st = [.sh (D.scr script), .sh (eI a21.1), .sh (eI a21.2), jk j22]) ⟨none, rfl⟩ (fun | x10, a11, _, ⟨j12, rfl⟩ => ⟨[.sh (D.scr script), .sh (eI a11.1), .sh (eI a11.2), .sh (eI x10)], rfl, (rs_bindG (re_dOp2 (re_bindG (re_dOp2 (re_bindP (rv_var rfl) (re_bindP rv_ret (re_lift op_mul)))) fun c13 => (re_bindP (rv_dOp1n (rv_bind (rv_rd rfl) (rv_lift (y := (eI (if x10 < 0 then -x10 else x10))) rfl))) (re_rv (w := eI) (rv_lift (y := (eI (c13 + (if x10 < 0 then -x10 else x10)))) rfl))))) fun c14 => (rs_put (st1 := [.sh (D.scr script), .sh (eI c14), .sh (eI a11.2), .sh (eI x10)]) rfl (rs_last (rs_bindG (re_dOp2 (re_bindG (re_dOp1 (re_tail (w := eI) (re_dOp2 (re_bindG (re_dOp2 (re_bindP (rv_var rfl) (re_bindP rv_ret (re_lift op_mul)))) fun c15 => (re_bindP (rv_var rfl) (re_rv (w := eI) (rv_lift (y := (eI (c15 + x10))) rfl))))) fun c16 => (rv_lift (y := (eI c16)) rfl))) fun c17 => (re_bindP rv_ret (re_lift op_mod)))) fun c18 => (rs_put (st1 := [.sh (D.scr script), .sh (eI c14), .sh (eI c18), .sh (eI x10)]) rfl (rs_end ⟨rfl, (some (eI x10)), rfl⟩))))))⟩) (fun | a19, _, ⟨j20, rfl⟩ => (rs_endO (re_rv (rv_dLst (rv_cons (rv_var rfl) (rv_cons (rv_var rfl) (rv_nil (rv_lift (y := ((List.map eI) [a19.1, a19.2])) (op_lst (by exact Nat.le_of_ble_eq_true rfl) rfl))))))))))))))))
def P__law_take (state_here : (List Int)) (m : Int) : M (Int × (List Int)) := M.bind (M.bind (pAt state_here 0) fun c1 => .ok (decide (c1 > 0))) fun c2 => if c2 = true then M.bind (M.bind (pAt state_here 0) fun c4 => pMod c4 m) fun c5 => M.bind (M.bind (pAt state_here 0) fun c6 => pDiv c6 m) fun c7 => M.bind (pSet state_here 0 c7) fun c8 => .ok (c5, c8) else M.bind (M.bind (M.bind (M.bind (pAt state_here 1) fun c9 => pMul c9 48271) fun c10 => .ok (c10 + 11)) fun c12 => pMod c12 2147483647) fun c13 => M.bind (pSet state_here 1 c13) fun c14 => M.bind (M.bind (M.bind (pAt c14 1) fun c15 => pDiv c15 7) fun c17 => pMod c17 m) fun c18 => .ok (c18, c14)
theorem S__law_take (state_here : (List Int)) (m : Int) : DR (d__law_take (List.map eI state_here) [eI m]) (P__law_take state_here m) eI eI := fn_R rfl (show RS false (sSeq (sIf (dTst (dOp2 opGt (dOp2n opIx 0 (dC (.int 0))) (dC (.int 0)))) (sSeq (sSet 2 (dOp2 opMod (dOp1 opInt (dOp2n opIx 0 (dC (.int 0)))) (dVar 1))) (sSeq (sStore 0 (dC (.int 0)) (dOp2 opDiv (dOp2n opIx 0 (dC (.int 0))) (dVar 1))) (sRet (dVar 2)))) sPass) (sSeq (sStore 0 (dC (.int 1)) (dOp2 opMod (dOp1 opInt (dOp2 opAdd (dOp2 opMul (dOp2n opIx 0 (dC (.int 1))) (dC (.int 48271))) (dC (.int 11)))) (dC (.int 2147483647)))) (sRet (dOp2 opMod (dOp1 opInt (dOp2 opDiv (dOp2n opIx 0 (dC (.int 1))) (dC (.int 7)))) (dVar 1))))) [.rf 0 (List.map eI state_here), .sh (eI m), .no] (P__law_take state_here m) (Kby eI eI) from
  (rs_bindG (re_tst (re_dOp2 (re_bindG (re_dOp2n (re_bindP (rv_rdR rfl) (re_bindP rv_ret (re_bindP (rv_rdR rfl) (re_lift op_atL))))) fun c1 => (re_bindP rv_ret (re_rv (w := eB) (rv_lift (y := (eB (decide (c1 > 0)))) rfl)))))) fun c2 => (rs_ite (fun _ => (rs_seq (rs_bindG (re_dOp2 (re_bindG (re_dOp1 (re_tail (w := eI) (re_dOp2n (re_bindP (rv_rdR rfl) (re_bindP rv_ret (re_bindP (rv_rdR rfl) (re_lift op_atL))))) fun c3 => (rv_lift (y := (eI c3)) rfl))) fun c4 => (re_bindP (rv_var rfl) (re_lift op_mod)))) fun c5 => (rs_put (st1 := [.rf 0 (List.map eI state_here), .sh (eI m), .sh (eI c5)]) rfl (rs_seq (rs_bindG (re_dOp2 (re_bindG (re_dOp2n (re_bindP (rv_rdR rfl) (re_bindP rv_ret (re_bindP (rv_rdR rfl) (re_lift op_atL))))) fun c6 => (re_bindP (rv_var rfl) (re_lift op_div)))) fun c7 => (rs_bindP (rv_rdR rfl) (rs_bindP rv_ret (rs_x (x_setKr (e := eI) (xs := state_here) (k := 0) (v := c7) rfl) fun c8 => rs_st ([.rf 0 (List.map eI c8), .sh (eI m), .sh (eI c5)]) rfl (rs_bindP (rv_var rfl) (rs_ret ⟨.inl rfl, _, rfl⟩))))))))))) (fun _ => (rs_nx (rs_bindG (re_dOp2 (re_bindG (re_dOp1 (re_tail (w := eI) (re_dOp2 (re_bindG (re_dOp2 (re_bindG (re_dOp2n (re_bindP (rv_rdR rfl) (re_bindP rv_ret (re_bindP (rv_rdR rfl) (re_lift op_atL))))) fun c9 => (re_bindP rv_ret (re_lift op_mul)))) fun c10 => (re_bindP rv_ret (re_rv (w := eI) (rv_lift (y := (eI (c10 + 11))) rfl))))) fun c11 => (rv_lift (y := (eI c11)) rfl))) fun c12 => (re_bindP rv_ret (re_lift op_mod)))) fun c13 => (rs_bindP (rv_rdR rfl) (rs_bindP rv_ret (rs_x (x_setKr (e := eI) (xs := state_here) (k := 1) (v := c13) rfl) fun c14 => rs_st ([.rf 0 (List.map eI c14), .sh (eI m), .no]) rfl (rs_last (rs_bindG (re_dOp2 (re_bindG (re_dOp1 (re_tail (w := eI) (re_dOp2 (re_bindG (re_dOp2n (re_bindP (rv_rdR rfl) (re_bindP rv_ret (re_bindP (rv_rdR rfl) (re_lift op_atL))))) fun c15 => (re_bindP rv_ret (re_lift op_div)))) fun c16 => (rv_lift (y := (eI c16)) rfl))) fun c17 => (re_bindP (rv_var rfl) (re_lift op_mod)))) fun c18 => (rs_ret ⟨.inl rfl, _, rfl⟩))))))))))))
def P__law_monogenic (state_here : (List Int)) (most : Int) : M ((List (List Int)) × (List Int)) := M.bind (M.bind (P__law_take state_here most) fun c3 => .ok ((1 + c3.1), c3.2)) fun c4 => M.bind (M.bind (P__law_take c4.2 c4.1) fun c8 => .ok ((1 + c8.1), c8.2)) fun c9 => M.bind (pRng c4.1) fun c11 => M.bind (pfold (fun (x106 : Int) (a107 : (List (List Int))) => M.bind (pRng c4.1) fun c112 => M.bind (pfold (fun (x135 : Int) (a136 : (List Int)) => M.bind (if (decide (((x106 + x135) + 2) > c4.1)) = true then M.bind (M.bind (pMod (((x106 + x135) + 2) - ((c4.1 + 1) - c9.1)) c9.1) fun c141 => .ok (((c4.1 + 1) - c9.1) + c141)) fun c142 => .ok c142 else .ok ((x106 + x135) + 2) : M Int) fun (a143 : Int) => M.bind (pApp a136 (a143 - 1)) fun c144 => .ok c144) c112 []) fun (a146 : (List Int)) => M.bind (pApp a107 a146) fun c149 => .ok c149) c11 []) fun (a153 : (List (List Int))) => .ok (a153, c9.2)
theorem S__law_monogenic (state_here : (List Int)) (most : Int) : DR (d__law_monogenic (List.map eI state_here) [eI most]) (P__law_monogenic state_here most) (eL (eT eI)) eI := fn_R rfl (show RS false (sSeq (sSet 2 (dOp2 opAdd (dC (.int 1)) (dCallR d__law_take 0 (dCons (dVar 1) dNil)))) (sSeq (sSet 3 (dOp2 opAdd (dC (.int 1)) (dCallR d__law_take 0 (dCons (dVar 2) dNil)))) (sSeq (sSet 4 (dOp2 opSub (dOp2 opAdd (dVar 2) (dC (.int 1))) (dVar 3))) (sSeq (sOwn 5 (dLst dNil)) (sSeq (sFor (.nm 6) (dRng (dVar 2)) (sSeq (sOwn 7 (dLst dNil)) (sSeq (sFor (.nm 8) (dRng (dVar 2)) (sSeq (sSet 9 (dOp2 opAdd (dOp2 opAdd (dVar 6) (dVar 8)) (dC (.int 2)))) (sSeq (sIf (dTst (dOp2 opGt (dVar 9) (dVar 2))) (sSet 9 (dOp2 opAdd (dVar 4) (dOp2 opMod (dOp1 opInt (dOp2 opSub (dVar 9) (dVar 4))) (dVar 3)))) sPass) (sExpr (dAppend 7 (dOp2 opSub (dVar 9) (dC (.int 1)))))))) (sExpr (dAppend 5 (dOp1n opTuple 7)))))) (sRet (dVar 5))))))) [.rf 0 (List.map eI state_here), .sh (eI most), .no, .no, .no, .no, .no, .no, .no, .no] (P__law_monogenic state_here most) (Kby (eL (eT eI)) eI) from
  (rs_bindS (fun (r5 : List Int) => [.rf 0 (List.map eI r5), .sh (eI most), .no, .no, .no, .no, .no, .no, .no, .no]) (rt_dOp2 (rt_bindP rv_ret (rt_bindS (rt_dCallR (rt_bindP (rv_owR rfl) (rt_consP (rv_var rfl) (rt_nil (rt_callR (S := fun r2 => [.rf 0 (List.map eI r2), .sh (eI most), .no, .no, .no, .no, .no, .no, .no, .no]) rfl (fun _ => rfl) (S__law_take state_here most)))))) fun c3 => (rt_rv (v := eI) (rv_lift (y := (eI (1 + c3.1))) rfl))))) fun c4 => (rs_put (st1 := [.rf 0 (List.map eI c4.2), .sh (eI most), .sh (eI c4.1), .no, .no, .no, .no, .no, .no, .no]) rfl (rs_bindS (fun (r10 : List Int) => [.rf 0 (List.map eI r10), .sh (eI most), .sh (eI c4.1), .no, .no, .no, .no, .no, .no, .no]) (rt_dOp2 (rt_bindP rv_ret (rt_bindS (rt_dCallR (rt_bindP (rv_owR rfl) (rt_consP (rv_var rfl) (rt_nil (rt_callR (S := fun r7 => [.rf 0 (List.map eI r7), .sh (eI most), .sh (eI c4.1), .no, .no, .no, .no, .no, .no, .no]) rfl (fun _ => rfl) (S__law_take c4.2 c4.1)))))) fun c8 => (rt_rv (v := eI) (rv_lift (y := (eI (1 + c8.1))) rfl))))) fun c9 => (rs_put (st1 := [.rf 0 (List.map eI c9.2), .sh (eI most), .sh (eI c4.1), .sh (eI c9.1), .no, .no, .no, .no, .no, .no]) rfl (rs_bindP (rv_dOp2 (rv_bind (rv_dOp2 (rv_bind (rv_var rfl) (rv_bind rv_ret (rv_lift (y := (eI (c4.1 + 1))) rfl)))) (rv_bind (rv_var rfl) (rv_lift (y := (eI ((c4.1 + 1) - c9.1))) rfl)))) (rs_put (st1 := [.rf 0 (List.map eI c9.2), .sh (eI most), .sh (eI c4.1), .sh (eI c9.1), .sh (eI ((c4.1 + 1) - c9.1)), .no, .no, .no, .no, .no]) rfl (rs_bindP (rv_dLst (rv_nil (rv_lift (y := ((List.map eI) [])) (op_lst (by exact Nat.le_of_ble_eq_true rfl) rfl)))) (rs_put (st1 := [.rf 0 (List.map eI c9.2), .sh (eI most), .sh (eI c4.1), .sh (eI c9.1), .sh (eI ((c4.1 + 1) - c9.1)), .ow (List.map eI []), .no, .no, .no, .no]) rfl (rs_bindG (re_dRng (re_bindP (rv_var rfl) (re_lift op_rng))) fun c11 => (rs_for0 (e := eI) (xs := c11) (a := []) (f := fun (x106 : Int) (a107 : (List (List Int))) => M.bind (pRng c4.1) fun c112 => M.bind (pfold (fun (x135 : Int) (a136 : (List Int)) => M.bind (if (decide (((x106 + x135) + 2) > c4.1)) = true then M.bind (M.bind (pMod (((x106 + x135) + 2) - ((c4.1 + 1) - c9.1)) c9.1) fun c141 => .ok (((c4.1 + 1) - c9.1) + c141)) fun c142 => .ok c142 else .ok ((x106 + x135) + 2) : M Int) fun (a143 : Int) => M.bind (pApp a136 (a143 - 1)) fun c144 => .ok c144) c112 []) fun (a146 : (List Int)) => M.bind (pApp a107 a146) fun c149 => .ok c149) (fun (a158 : (List (List Int))) (st : DSt) => ∃ (j159 : (Option D)), ∃ (j160 : Slot), ∃ (j161 : (Option D)), ∃ (j162 : (Option D)), st = [.rf 0 (List.map eI c9.2), .sh (eI most), .sh (eI c4.1), .sh (eI c9.1), .sh (eI ((c4.1 + 1) - c9.1)), .ow (List.map (eT eI) a158), jk j159, j160, jk j161, jk j162]) ⟨none, (.no), none, none, rfl⟩ (fun | x106, a107, _, ⟨j108, j109, j110, j111, rfl⟩ => ⟨[.rf 0 (List.map eI c9.2), .sh (eI most), .sh (eI c4.1), .sh (eI c9.1), .sh (eI ((c4.1 + 1) - c9.1)), .ow (List.map (eT eI) a107), .sh (eI x106), j109, jk j110, jk j111], rfl, (rs_bindP (rv_dLst (rv_nil (rv_lift (y := ((List.map eI) [])) (op_lst (by exact Nat.le_of_ble_eq_true rfl) rfl)))) (rs_put (st1 := [.rf 0 (List.map eI c9.2), .sh (eI most), .sh (eI c4.1), .sh (eI c9.1), .sh (eI ((c4.1 + 1) - c9.1)), .ow (List.map (eT eI) a107), .sh (eI x106), .ow (List.map eI []), jk j110, jk j111]) rfl (rs_bindG (re_dRng (re_bindP (rv_var rfl) (re_lift op_rng))) fun c112 => (rs_for0 (e := eI) (xs := c112) (a := []) (f := fun (x135 : Int) (a136 : (List Int)) => M.bind (if (decide (((x106 + x135) + 2) > c4.1)) = true then M.bind (M.bind (pMod (((x106 + x135) + 2) - ((c4.1 + 1) - c9.1)) c9.1) fun c141 => .ok (((c4.1 + 1) - c9.1) + c141)) fun c142 => .ok c142 else .ok ((x106 + x135) + 2) : M Int) fun (a143 : Int) => M.bind (pApp a136 (a143 - 1)) fun c144 => .ok c144) (fun (a150 : (List Int)) (st : DSt) => ∃ (j151 : (Option D)), ∃ (j152 : (Option D)), st = [.rf 0 (List.map eI c9.2), .sh (eI most), .sh (eI c4.1), .sh (eI c9.1), .sh (eI ((c4.1 + 1) - c9.1)), .ow (List.map (eT eI) a107), .sh (eI x106), .ow (List.map eI a150), jk j151, jk j152]) ⟨j110, j111, rfl⟩ (fun | x135, a136, _, ⟨j137, j138, rfl⟩ => ⟨[.rf 0 (List.map eI c9.2), .sh (eI most), .sh (eI c4.1), .sh (eI c9.1), .sh (eI ((c4.1 + 1) - c9.1)), .ow (List.map (eT eI) a107), .sh (eI x106), .ow (List.map eI a136), .sh (eI x135), jk j138], rfl, (rs_bindP (rv_dOp2 (rv_bind (rv_dOp2 (rv_bind (rv_var rfl) (rv_bind (rv_var rfl) (rv_lift (y := (eI (x106 + x135))) rfl)))) (rv_bind rv_ret (rv_lift (y := (eI ((x106 + x135) + 2))) rfl)))) (rs_put (st1 := [.rf 0 (List.map eI c9.2), .sh (eI most), .sh (eI c4.1), .sh (eI c9.1), .sh (eI ((c4.1 + 1) - c9.1)), .ow (List.map (eT eI) a107), .sh (eI x106), .ow (List.map eI a136), .sh (eI x135), .sh (eI ((x106 + x135) + 2))]) rfl (rs_bindP (rv_tst (rv_dOp2 (rv_bind (rv_var rfl) (rv_bind (rv_var rfl) (rv_lift (y := (eB (decide (((x106 + x135) + 2) > c4.1)))) rfl))))) (rs_join (I := (fun (a145 : Int) (st : DSt) => st = [.rf 0 (List.map eI c9.2), .sh (eI most), .sh (eI c4.1), .sh (eI c9.1), .sh (eI ((c4.1 + 1) - c9.1)), .ow (List.map (eT eI) a107), .sh (eI x106), .ow (List.map eI a136), .sh (eI x135), .sh (eI a145)])) (rs_iteN (fun _ => (rs_last (rs_bindG (re_dOp2 (re_bindP (rv_var rfl) (re_bindG (re_dOp2 (re_bindP (rv_dOp1 (rv_bind (rv_dOp2 (rv_bind (rv_var rfl) (rv_bind (rv_var rfl) (rv_lift (y := (eI (((x106 + x135) + 2) - ((c4.1 + 1) - c9.1)))) rfl)))) (rv_lift (y := (eI (((x106 + x135) + 2) - ((c4.1 + 1) - c9.1)))) rfl))) (re_bindP (rv_var rfl) (re_lift op_mod)))) fun c141 => (re_rv (w := eI) (rv_lift (y := (eI (((c4.1 + 1) - c9.1) + c141))) rfl))))) fun c142 => (rs_put (st1 := [.rf 0 (List.map eI c9.2), .sh (eI most), .sh (eI c4.1), .sh (eI c9.1), .sh (eI ((c4.1 + 1) - c9.1)), .ow (List.map (eT eI) a107), .sh (eI x106), .ow (List.map eI a136), .sh (eI x135), .sh (eI c142)]) rfl (rs_end ⟨rfl, rfl⟩))))) (fun _ => (rs_end ⟨rfl, rfl⟩))) fun | a143, _, rfl => (rs_last (rs_x (x_appP (e := eI) (xs := a136) rfl (rv_dOp2 (rv_bind (rv_var rfl) (rv_bind rv_ret (rv_lift (y := (eI (a143 - 1))) rfl)))) rfl) fun c144 => rs_st ([.rf 0 (List.map eI c9.2), .sh (eI most), .sh (eI c4.1), .sh (eI c9.1), .sh (eI ((c4.1 + 1) - c9.1)), .ow (List.map (eT eI) a107), .sh (eI x106), .ow (List.map eI c144), .sh (eI x135), .sh (eI a143)]) rfl (rs_end ⟨rfl, (some (eI x135)), (some (eI a143)), rfl⟩)))))))⟩) (fun | a146, _, ⟨j147, j148, rfl⟩ => (rs_last (rs_x (x_appP (e := (eT eI)) (xs := a107) rfl (rv_dOp1n (rv_bind (rv_rdO rfl) (rv_lift (y := ((eT eI) a146)) rfl))) rfl) fun c149 => rs_st ([.rf 0 (List.map eI c9.2), .sh (eI most), .sh (eI c4.1), .sh (eI c9.1), .sh (eI ((c4.1 + 1) - c9.1)), .ow (List.map (eT eI) c149), .sh (eI x106), .ow (List.map eI a146), jk j147, jk j148]) rfl (rs_end ⟨rfl, (some (eI x106)), (.ow (List.map eI a146)), j147, j148, rfl⟩))))))))⟩) (fun | a153, _, ⟨j154, j155, j156, j157, rfl⟩ => (rs_last (rs_bindP (rv_frz rfl) (rs_ret ⟨.inl rfl, _, rfl⟩)))))))))))))))
def P__law_after (f : (List Int)) (g : (List Int)) : M (List Int) := M.bind (pMap (fun (x1 : Int) => pAt g x1) f) fun c3 => .ok c3
theorem S__law_after (f : (List Int)) (g : (List Int)) : DM (d__law_after [(eT eI) f, (eT eI) g]) (P__law_after f g) (eT eI) := fn_F rfl (show RS true (sRet (dOp1 opTuple (dFrz (dComp [2] (.nm 2) (dItems (dVar 0)) dYes (dOp2n opIx 1 (dVar 2)))))) [.sh ((eT eI) f), .sh ((eT eI) g), .no] (P__law_after f g) (Kfn (eT eI)) from
  (rs_last (rs_bindG (re_dOp1 (re_tail (w := (eT eI)) (re_frzN (re_bindP (rv_dItems (rv_bind (rv_var rfl) (rv_lift (y := ((List.map eI) f)) rfl))) (re_compM (e := eI) (f := fun (x1 : Int) => pAt g x1) ([.sh ((eT eI) f), .sh ((eT eI) g), .no]) rfl rfl rfl (fun x1 => ⟨[.sh ((eT eI) f), .sh ((eT eI) g), .sh (eI x1)], [.sh ((eT eI) f), .sh ((eT eI) g), .sh (eI x1)], rfl, (re_dOp2n (re_bindP (rv_rd rfl) (re_bindP (rv_var rfl) (re_bindP (rv_rd rfl) (re_lift op_atT))))), rfl, rfl⟩)))) fun c2 => (rv_lift (y := ((eT eI) c2)) rfl))) fun c3 => (rs_ret (.inl rfl)))))
def P__law_closed (maps : (List (List Int))) : M (List (List Int)) := M.bind (pfold (fun (x9 : (List Int)) (a10 : (List (List Int))) => if (!has x9 a10) = true then M.bind (pApp a10 x9) fun c12 => .ok c12 else .ok a10) maps []) fun (a13 : (List (List Int))) => M.bind (pRng 30) fun c15 => M.bind (pfold (fun (x76 : Int) (a77 : (List (List Int))) => M.bind (pfold (fun (x105 : (List Int)) (a106 : (List (List Int))) => M.bind (pfold (fun (x116 : (List Int)) (a117 : (List (List Int))) => M.bind (P__law_after x105 x116) fun c120 => if ((!has c120 a117) && (decide ((a117.length : Int) < 30))) = true then M.bind (pApp a117 c120) fun c121 => .ok c121 else .ok a117) maps a106) fun (a122 : (List (List Int))) => .ok a122) a77 a77) fun (a128 : (List (List Int))) => .ok a128) c15 a13) fun (a136 : (List (List Int))) => .ok a136
theorem S__law_closed (maps : (List (List Int))) : DM (d__law_closed [(eL (eT eI)) maps]) (P__law_closed maps) (eL (eT eI)) := fn_F rfl (show RS true (sSeq (sOwn 1 (dLst dNil)) (sSeq (sFor (.nm 2) (dItems (dVar 0)) (sIf (dTst (dOp2m opNotIn (dVar 2) 1)) (sExpr (dAppend 1 (dVar 2))) sPass)) (sSeq (sFor (.nm 3) (dRng (dC (.int 30))) (sFor (.nm 2) (dItems (dFrz (dN1n nList 1))) (sFor (.nm 4) (dItems (dVar 0)) (sSeq (sSet 5 (dCall d__law_after (dCons (dVar 2) (dCons (dVar 4) dNil)))) (sIf (dAnd (dTst (dOp2m opNotIn (dVar 5) 1)) (dTst (dOp2 opLt (dOp1n opLen 1) (dC (.int 30))))) (sExpr (dAppend 1 (dVar 5))) sPass))))) (sRet (dVar 1))))) [.sh ((eL (eT eI)) maps), .no, .no, .no, .no, .no] (P__law_closed maps) (Kfn (eL (eT eI))) from
  (rs_bindP (rv_dLst (rv_nil (rv_lift (y := ((List.map eI) [])) (op_lst (by exact Nat.le_of_ble_eq_true rfl) rfl)))) (rs_put (st1 := [.sh ((eL (eT eI)) maps), .ow (List.map eI []), .no, .no, .no, .no]) rfl (rs_bindP (rv_dItems (rv_bind (rv_var rfl) (rv_lift (y := ((List.map (eT eI)) maps)) rfl))) (rs_for0 (e := (eT eI)) (xs := maps) (a := []) (f := fun (x9 : (List Int)) (a10 : (List (List Int))) => if (!has x9 a10) = true then M.bind (pApp a10 x9) fun c12 => .ok c12 else .ok a10) (fun (a146 : (List (List Int))) (st : DSt) => ∃ (j147 : (Option D)), st = [.sh ((eL (eT eI)) maps), .ow (List.map (eT eI) a146), jk j147, .no, .no, .no]) ⟨none, rfl⟩ (fun | x9, a10, _, ⟨j11, rfl⟩ => ⟨[.sh ((eL (eT eI)) maps), .ow (List.map (eT eI) a10), .sh ((eT eI) x9), .no, .no, .no], rfl, (rs_last (rs_bindP (rv_tst (rv_dOp2m (rv_bind (rv_var rfl) (rv_bind (rv_rdO rfl) (rv_lift (ninL_ (in_py (x := x9) (xs := a10) (pyT pyI)).1)))))) (rs_ite (fun _ => (rs_x (x_appP (e := (eT eI)) (xs := a10) rfl (rv_var rfl) rfl) fun c12 => rs_st ([.sh ((eL (eT eI)) maps), .ow (List.map (eT eI) c12), .sh ((eT eI) x9), .no, .no, .no]) rfl (rs_end ⟨rfl, (some ((eT eI) x9)), rfl⟩))) (fun _ => (rs_nx (rs_end ⟨rfl, (some ((eT eI) x9)), rfl⟩))))))⟩) (fun | a13, _, ⟨j14, rfl⟩ => (rs_bindG (re_dRng (re_bindP rv_ret (re_lift op_rng))) fun c15 => (rs_for0 (e := eI) (xs := c15) (a := a13) (f := fun (x76 : Int) (a77 : (List (List Int))) => M.bind (pfold (fun (x105 : (List Int)) (a106 : (List (List Int))) => M.bind (pfold (fun (x116 : (List Int)) (a117 : (List (List Int))) => M.bind (P__law_after x105 x116) fun c120 => if ((!has c120 a117) && (decide ((a117.length : Int) < 30))) = true then M.bind (pApp a117 c120) fun c121 => .ok c121 else .ok a117) maps a106) fun (a122 : (List (List Int))) => .ok a122) a77 a77) fun (a128 : (List (List Int))) => .ok a128) (fun (a141 : (List (List Int))) (st : DSt) => ∃ (j142 : (Option D)), ∃ (j143 : (Option D)), ∃ (j144 : (Option D)), ∃ (j145 : (Option D)), st = [.sh ((eL (eT eI)) maps), .ow (List.map (eT eI) a141), jk j142, jk j143, jk j144, jk j145]) ⟨j14, none, none, none, rfl⟩ (fun | x76, a77, _, ⟨j78, j79, j80, j81, rfl⟩ => ⟨[.sh ((eL (eT eI)) maps), .ow (List.map (eT eI) a77), jk j78, .sh (eI x76), jk j80, jk j81], rfl, (rs_last (rs_bindP (rv_dItems (rv_bind (rv_frzN (d := ((eL (eT eI)) a77)) (rv_dN1n (rv_bind (rv_rdO rfl) (rv_lift (y := ((List.map (eT eI)) a77)) rfl))) rfl) (rv_lift (y := ((List.map (eT eI)) a77)) rfl))) (rs_for0 (e := (eT eI)) (xs := a77) (a := a77) (f := fun (x105 : (List Int)) (a106 : (List (List Int))) => M.bind (pfold (fun (x116 : (List Int)) (a117 : (List (List Int))) => M.bind (P__law_after x105 x116) fun c120 => if ((!has c120 a117) && (decide ((a117.length : Int) < 30))) = true then M.bind (pApp a117 c120) fun c121 => .ok c121 else .ok a117) maps a106) fun (a122 : (List (List Int))) => .ok a122) (fun (a132 : (List (List Int))) (st : DSt) => ∃ (j133 : (Option D)), ∃ (j134 : (Option D)), ∃ (j135 : (Option D)), st = [.sh ((eL (eT eI)) maps), .ow (List.map (eT eI) a132), jk j133, .sh (eI x76), jk j134, jk j135]) ⟨j78, j80, j81, rfl⟩ (fun | x105, a106, _, ⟨j107, j108, j109, rfl⟩ => ⟨[.sh ((eL (eT eI)) maps), .ow (List.map (eT eI) a106), .sh ((eT eI) x105), .sh (eI x76), jk j108, jk j109], rfl, (rs_last (rs_bindP (rv_dItems (rv_bind (rv_var rfl) (rv_lift (y := ((List.map (eT eI)) maps)) rfl))) (rs_for0 (e := (eT eI)) (xs := maps) (a := a106) (f := fun (x116 : (List Int)) (a117 : (List (List Int))) => M.bind (P__law_after x105 x116) fun c120 => if ((!has c120 a117) && (decide ((a117.length : Int) < 30))) = true then M.bind (pApp a117 c120) fun c121 => .ok c121 else .ok a117) (fun (a125 : (List (List Int))) (st : DSt) => ∃ (j126 : (Option D)), ∃ (j127 : (Option D)), st = [.sh ((eL (eT eI)) maps), .ow (List.map (eT eI) a125), .sh ((eT eI) x105), .sh (eI x76), jk j126, jk j127]) ⟨j108, j109, rfl⟩ (fun | x116, a117, _, ⟨j118, j119, rfl⟩ => ⟨[.sh ((eL (eT eI)) maps), .ow (List.map (eT eI) a117), .sh ((eT eI) x105), .sh (eI x76), .sh ((eT eI) x116), jk j119], rfl, (rs_bindG (re_dCall (re_consP (rv_var rfl) (re_consP (rv_var rfl) (re_nil (re_liftM (S__law_after x105 x116)))))) fun c120 => (rs_put (st1 := [.sh ((eL (eT eI)) maps), .ow (List.map (eT eI) a117), .sh ((eT eI) x105), .sh (eI x76), .sh ((eT eI) x116), .sh ((eT eI) c120)]) rfl (rs_last (rs_bindP (rv_dAnd (rv_bind (rv_tst (rv_dOp2m (rv_bind (rv_var rfl) (rv_bind (rv_rdO rfl) (rv_lift (ninL_ (in_py (x := c120) (xs := a117) (pyT pyI)).1)))))) (rv_and fun _ => (rv_tst (rv_dOp2 (rv_bind (rv_dOp1n (rv_bind (rv_rdO rfl) (rv_lift op_lenL))) (rv_bind rv_ret (rv_lift (y := (eB (decide ((a117.length : Int) < 30)))) rfl)))))))) (rs_ite (fun _ => (rs_x (x_appP (e := (eT eI)) (xs := a117) rfl (rv_var rfl) rfl) fun c121 => rs_st ([.sh ((eL (eT eI)) maps), .ow (List.map (eT eI) c121), .sh ((eT eI) x105), .sh (eI x76), .sh ((eT eI) x116), .sh ((eT eI) c120)]) rfl (rs_end ⟨rfl, (some ((eT eI) x116)), (some ((eT eI) c120)), rfl⟩))) (fun _ => (rs_nx (rs_end ⟨rfl, (some ((eT eI) x116)), (some ((eT eI) c120)), rfl⟩))))))))⟩) (fun | a122, _, ⟨j123, j124, rfl⟩ => (rs_end ⟨rfl, (some ((eT eI) x105)), j123, j124, rfl⟩)))))⟩) (fun | a128, _, ⟨j129, j130, j131, rfl⟩ => (rs_end ⟨rfl, j129, (some (eI x76)), j130, j131, rfl⟩)))))⟩) (fun | a136, _, ⟨j137, j138, j139, j140, rfl⟩ => (rs_last (rs_bindP (rv_frz rfl) (rs_ret (.inl rfl)))))))))))))
def P__law_of_maps (state_here : (List Int)) (most : Int) : M ((List (List Int)) × (List Int)) := M.bind (M.bind (P__law_take state_here 2) fun c3 => .ok ((2 + c3.1), c3.2)) fun c4 => M.bind (M.bind (M.bind (P__law_take c4.2 2) fun c8 => .ok ((1 + c8.1), c8.2)) fun c9 => M.bind (pRng c9.1) fun c10 => .ok (c10, c9.2)) fun c11 => M.bind (pfold (fun (x35 : Int) (a36 : ((List Int) × (List (List Int)))) => M.bind (M.bind (pRng c4.1) fun c38 => pMapS (fun (x39 : Int) (r40 : List Int) => P__law_take r40 c4.1) c38 a36.1) fun c43 => M.bind (pApp a36.2 c43.1) fun c44 => .ok (c43.2, c44)) c11.1 (c11.2, [])) fun (a46 : ((List Int) × (List (List Int)))) => M.bind (P__law_closed a46.2) fun c48 => M.bind (if (decide ((c48.length : Int) > most)) = true then M.bind (P__law_closed (cutD a46.2 none (some 1))) fun c50 => .ok c50 else .ok c48 : M (List (List Int))) fun (a51 : (List (List Int))) => M.bind (if (decide ((a51.length : Int) > most)) = true then M.bind (M.bind (M.bind (pRng c4.1) fun c58 => pMap (fun (x59 : Int) => M.bind (pAt a46.2 0) fun c60 => pAt c60 0) c58) fun c62 => .ok [c62]) fun c63 => .ok c63 else .ok a51 : M (List (List Int))) fun (a64 : (List (List Int))) => M.bind (pMap (fun (x66 : (List Int)) => pMap (fun (x67 : (List Int)) => M.bind (P__law_after x66 x67) fun c68 => pIndex a64 c68) a64) a64) fun c70 => .ok (c70, a46.1)
theorem S__law_of_maps (state_here : (List Int)) (most : Int) : DR (d__law_of_maps (List.map eI state_here) [eI most]) (P__law_of_maps state_here most) (eL (eT eI)) eI := fn_R rfl (show RS false (sSeq (sSet 2 (dOp2 opAdd (dC (.int 2)) (dCallR d__law_take 0 (dCons (dC (.int 2)) dNil)))) (sSeq (sOwn 3 (dLst dNil)) (sSeq (sFor (.nm 4) (dRng (dOp2 opAdd (dC (.int 1)) (dCallR d__law_take 0 (dCons (dC (.int 2)) dNil)))) (sExpr (dAppend 3 (dOp1 opTuple (dFrz (dComp [6] (.nm 6) (dRng (dVar 2)) dYes (dCallR d__law_take 0 (dCons (dVar 2) dNil)))))))) (sSeq (sSet 5 (dCall d__law_closed (dCons (dVar 3) dNil))) (sSeq (sIf (dTst (dOp2 opGt (dOp1n opLen 5) (dVar 1))) (sSet 5 (dCall d__law_closed (dCons (dSln 3 dNoP (dPart (dC (.int 1)))) dNil))) sPass) (sSeq (sIf (dTst (dOp2 opGt (dOp1n opLen 5) (dVar 1))) (sOwn 5 (dLst (dCons (dOp1 opTuple (dFrz (dComp [6] (.nm 6) (dRng (dVar 2)) dYes (dOp2 opIx (dOp2n opIx 3 (dC (.int 0))) (dC (.int 0)))))) dNil))) sPass) (sRet (dFrz (dPre 5 (dComp [7] (.nm 7) (dItems (dVar 5)) dYes (dOp1 opTuple (dFrz (dComp [8] (.nm 8) (dItems (dVar 5)) dYes (dIndexN 5 (dCall d__law_after (dCons (dVar 7) (dCons (dVar 8) dNil))))))))))))))))) [.rf 0 (List.map eI state_here), .sh (eI most), .no, .no, .no, .no, .no, .no, .no] (P__law_of_maps state_here most) (Kby (eL (eT eI)) eI) from
  (rs_bindS (fun (r5 : List Int) => [.rf 0 (List.map eI r5), .sh (eI most), .no, .no, .no, .no, .no, .no, .no]) (rt_dOp2 (rt_bindP rv_ret (rt_bindS (rt_dCallR (rt_bindP (rv_owR rfl) (rt_consP rv_ret (rt_nil (rt_callR (S := fun r2 => [.rf 0 (List.map eI r2), .sh (eI most), .no, .no, .no, .no, .no, .no, .no]) rfl (fun _ => rfl) (S__law_take state_here 2)))))) fun c3 => (rt_rv (v := eI) (rv_lift (y := (eI (2 + c3.1))) rfl))))) fun c4 => (rs_put (st1 := [.rf 0 (List.map eI c4.2), .sh (eI most), .sh (eI c4.1), .no, .no, .no, .no, .no, .no]) rfl (rs_bindP (rv_dLst (rv_nil (rv_lift (y := ((List.map eI) [])) (op_lst (by exact Nat.le_of_ble_eq_true rfl) rfl)))) (rs_put (st1 := [.rf 0 (List.map eI c4.2), .sh (eI most), .sh (eI c4.1), .ow (List.map eI []), .no, .no, .no, .no, .no]) rfl (rs_bindS (fun (r12 : List Int) => [.rf 0 (List.map eI r12), .sh (eI most), .sh (eI c4.1), .ow (List.map eI []), .no, .no, .no, .no, .no]) (rt_dRng (rt_bindS (rt_dOp2 (rt_bindP rv_ret (rt_bindS (rt_dCallR (rt_bindP (rv_owR rfl) (rt_consP rv_ret (rt_nil (rt_callR (S := fun r7 => [.rf 0 (List.map eI r7), .sh (eI most), .sh (eI c4.1), .ow (List.map eI []), .no, .no, .no, .no, .no]) rfl (fun _ => rfl) (S__law_take c4.2 2)))))) fun c8 => (rt_rv (v := eI) (rv_lift (y := (eI (1 + c8.1))) rfl))))) fun c9 => (rt_re (re_lift op_rng)))) fun c11 => (rs_for0 (e := eI) (xs := c11.1) (a := (c11.2, [])) (f := fun (x35 : Int) (a36 : ((List Int) × (List (List Int)))) => M.bind (M.bind (pRng c4.1) fun c38 => pMapS (fun (x39 : Int) (r40 : List Int) => P__law_take r40 c4.1) c38 a36.1) fun c43 => M.bind (pApp a36.2 c43.1) fun c44 => .ok (c43.2, c44)) (fun (a74 : ((List Int) × (List (List Int)))) (st : DSt) => ∃ (j75 : (Option D)), st = [.rf 0 (List.map eI a74.1), .sh (eI most), .sh (eI c4.1), .ow (List.map (eT eI) a74.2), jk j75, .no, .no, .no, .no]) ⟨none, rfl⟩ (fun | x35, a36, _, ⟨j37, rfl⟩ => ⟨[.rf 0 (List.map eI a36.1), .sh (eI most), .sh (eI c4.1), .ow (List.map (eT eI) a36.2), .sh (eI x35), .no, .no, .no, .no], rfl, (rs_last (rs_appS (e := (eT eI)) (xs := a36.2) (fun (r45 : List Int) => [.rf 0 (List.map eI r45), .sh (eI most), .sh (eI c4.1), .ow (List.map (eT eI) a36.2), .sh (eI x35), .no, .no, .no, .no]) rfl (rt_dOp1 (rt_tail (w := (eT eI)) (rt_frzN (rt_bindG (re_dRng (re_bindP (rv_var rfl) (re_lift op_rng))) fun c38 => (rt_comp (e := eI) (f := fun (x39 : Int) (r40 : List Int) => P__law_take r40 c4.1) (S := fun (r40 : List Int) => [.rf 0 (List.map eI r40), .sh (eI most), .sh (eI c4.1), .ow (List.map (eT eI) a36.2), .sh (eI x35), .no, .no, .no, .no]) (fun (r40 : List Int) => [.rf 0 (List.map eI r40), .sh (eI most), .sh (eI c4.1), .ow (List.map (eT eI) a36.2), .sh (eI x35), .no, .no, .no, .no]) (fun (x39 : Int) (r40 : List Int) => [.rf 0 (List.map eI r40), .sh (eI most), .sh (eI c4.1), .ow (List.map (eT eI) a36.2), .sh (eI x35), .no, .sh (eI x39), .no, .no]) (fun _ => rfl) rfl (fun _ => rfl) (fun x39 r40 => ⟨rfl, (rt_dCallR (rt_bindP (rv_owR rfl) (rt_consP (rv_var rfl) (rt_nil (rt_callR (S := fun r41 => [.rf 0 (List.map eI r41), .sh (eI most), .sh (eI c4.1), .ow (List.map (eT eI) a36.2), .sh (eI x35), .no, .sh (eI x39), .no, .no]) rfl (fun _ => rfl) (S__law_take r40 c4.1)))))), rfl⟩)))) fun c42 => (rv_lift (y := ((eT eI) c42.1)) rfl))) (fun _ => rfl) fun c43 c44 => (rs_end ⟨rfl, (some (eI x35)), rfl⟩)))⟩) (fun | a46, _, ⟨j47, rfl⟩ => (rs_bindG (re_dCall (re_consP (rv_frz rfl) (re_nil (re_liftM (S__law_closed a46.2))))) fun c48 => (rs_put (st1 := [.rf 0 (List.map eI a46.1), .sh (eI most), .sh (eI c4.1), .sh ((eL (eT eI)) a46.2), jk j47, .sh ((eL (eT eI)) c48), .no, .no, .no]) rfl (rs_bindP (rv_tst (rv_dOp2 (rv_bind (rv_dOp1n (rv_bind (rv_rd rfl) (rv_lift op_lenL))) (rv_bind (rv_var rfl) (rv_lift (y := (eB (decide ((c48.length : Int) > most)))) rfl))))) (rs_join (I := (fun (a73 : (List (List Int))) (st : DSt) => st = [.rf 0 (List.map eI a46.1), .sh (eI most), .sh (eI c4.1), .sh ((eL (eT eI)) a46.2), jk j47, .sh ((eL (eT eI)) a73), .no, .no, .no])) (rs_iteN (fun _ => (rs_last (rs_bindG (re_dCall (re_consP (rv_dSln (rv_bind (rv_rd rfl) (rv_bind rv_ret (rv_bind (rv_dPart (rv_bind rv_ret (rv_lift (y := (some 1)) rfl))) (rv_bind (rv_rd rfl) (rv_lift (op_slL (e := (eT eI)) (xs := a46.2)))))))) (re_nil (re_liftM (S__law_closed (cutD a46.2 none (some 1))))))) fun c50 => (rs_put (st1 := [.rf 0 (List.map eI a46.1), .sh (eI most), .sh (eI c4.1), .sh ((eL (eT eI)) a46.2), jk j47, .sh ((eL (eT eI)) c50), .no, .no, .no]) rfl (rs_end ⟨rfl, rfl⟩))))) (fun _ => (rs_end ⟨rfl, rfl⟩))) fun | a51, _, rfl => (rs_bindP (rv_tst (rv_dOp2 (rv_bind (rv_dOp1n (rv_bind (rv_rd rfl) (rv_lift op_lenL))) (rv_bind (rv_var rfl) (rv_lift (y := (eB (decide ((a51.length : Int) > most)))) rfl))))) (rs_join (I := (fun (a71 : (List (List Int))) (st : DSt) => ∃ (z72 : Bool), st = [.rf 0 (List.map eI a46.1), .sh (eI most), .sh (eI c4.1), .sh ((eL (eT eI)) a46.2), jk j47, fz z72 (List.map (eT eI) a71), .no, .no, .no])) (rs_iteN (fun _ => (rs_last (rs_bindG (re_dLst (re_consG (re_dOp1 (re_tail (w := (eT eI)) (re_frzN (re_bindG (re_dRng (re_bindP (rv_var rfl) (re_lift op_rng))) fun c58 => (re_compM (e := eI) (f := fun (x59 : Int) => M.bind (pAt a46.2 0) fun c60 => pAt c60 0) ([.rf 0 (List.map eI a46.1), .sh (eI most), .sh (eI c4.1), .sh ((eL (eT eI)) a46.2), jk j47, .sh ((eL (eT eI)) a51), .no, .no, .no]) rfl rfl rfl (fun x59 => ⟨[.rf 0 (List.map eI a46.1), .sh (eI most), .sh (eI c4.1), .sh ((eL (eT eI)) a46.2), jk j47, .sh ((eL (eT eI)) a51), .sh (eI x59), .no, .no], [.rf 0 (List.map eI a46.1), .sh (eI most), .sh (eI c4.1), .sh ((eL (eT eI)) a46.2), jk j47, .sh ((eL (eT eI)) a51), .sh (eI x59), .no, .no], rfl, (re_dOp2 (re_bindG (re_dOp2n (re_bindP (rv_rd rfl) (re_bindP rv_ret (re_bindP (rv_rd rfl) (re_lift op_atL))))) fun c60 => (re_bindP rv_ret (re_lift op_atT)))), rfl, rfl⟩)))) fun c61 => (rv_lift (y := ((eT eI) c61)) rfl))) fun c62 => (re_nil (re_rv (w := (List.map (eT eI))) (rv_lift (y := ((List.map (eT eI)) [c62])) (op_lst (by exact Nat.le_of_ble_eq_true rfl) rfl)))))) fun c63 => (rs_put (st1 := [.rf 0 (List.map eI a46.1), .sh (eI most), .sh (eI c4.1), .sh ((eL (eT eI)) a46.2), jk j47, .ow (List.map (eT eI) c63), .no, .no, .no]) rfl (rs_end ⟨rfl, true, rfl⟩))))) (fun _ => (rs_end ⟨rfl, false, rfl⟩))) fun | a64, _, ⟨z65, rfl⟩ => (rs_last (rs_bindG (re_frzN (re_pre (st1 := [.rf 0 (List.map eI a46.1), .sh (eI most), .sh (eI c4.1), .sh ((eL (eT eI)) a46.2), jk j47, .sh ((eL (eT eI)) a64), .no, .no, .no]) (pre_fz rfl) (re_bindP (rv_dItems (rv_bind (rv_var rfl) (rv_lift (y := ((List.map (eT eI)) a64)) rfl))) (re_compM (e := (eT eI)) (f := fun (x66 : (List Int)) => pMap (fun (x67 : (List Int)) => M.bind (P__law_after x66 x67) fun c68 => pIndex a64 c68) a64) ([.rf 0 (List.map eI a46.1), .sh (eI most), .sh (eI c4.1), .sh ((eL (eT eI)) a46.2), jk j47, .sh ((eL (eT eI)) a64), .no, .no, .no]) rfl rfl rfl (fun x66 => ⟨[.rf 0 (List.map eI a46.1), .sh (eI most), .sh (eI c4.1), .sh ((eL (eT eI)) a46.2), jk j47, .sh ((eL (eT eI)) a64), .no, .sh ((eT eI) x66), .no], [.rf 0 (List.map eI a46.1), .sh (eI most), .sh (eI c4.1), .sh ((eL (eT eI)) a46.2), jk j47, .sh ((eL (eT eI)) a64), .no, .sh ((eT eI) x66), .no], rfl, (re_dOp1 (re_tail (w := (eT eI)) (re_frzN (re_bindP (rv_dItems (rv_bind (rv_var rfl) (rv_lift (y := ((List.map (eT eI)) a64)) rfl))) (re_compM (e := (eT eI)) (f := fun (x67 : (List Int)) => M.bind (P__law_after x66 x67) fun c68 => pIndex a64 c68) ([.rf 0 (List.map eI a46.1), .sh (eI most), .sh (eI c4.1), .sh ((eL (eT eI)) a46.2), jk j47, .sh ((eL (eT eI)) a64), .no, .sh ((eT eI) x66), .no]) rfl rfl rfl (fun x67 => ⟨[.rf 0 (List.map eI a46.1), .sh (eI most), .sh (eI c4.1), .sh ((eL (eT eI)) a46.2), jk j47, .sh ((eL (eT eI)) a64), .no, .sh ((eT eI) x66), .sh ((eT eI) x67)], [.rf 0 (List.map eI a46.1), .sh (eI most), .sh (eI c4.1), .sh ((eL (eT eI)) a46.2), jk j47, .sh ((eL (eT eI)) a64), .no, .sh ((eT eI) x66), .sh ((eT eI) x67)], rfl, (re_dIndexN (re_bindP (rv_rd rfl) (re_bindP (rv_lift rfl) (re_bindG (re_dCall (re_consP (rv_var rfl) (re_consP (rv_var rfl) (re_nil (re_liftM (S__law_after x66 x67)))))) fun c68 => (re_bindP (rv_rd rfl) (re_lift (index_py (x := c68) (xs := a64) (pyT pyI)))))))), rfl, rfl⟩)))) fun c69 => (rv_lift (y := ((eT eI) c69)) rfl))), rfl, rfl⟩))))) fun c70 => (rs_ret ⟨.inl rfl, _, rfl⟩)))))))))))))))))
def P__law_triples (a : Int) (b : Int) (g : Int) (twist : (List (List Int))) (holes : (List (List Bool))) (zero : Bool) : M (List (List Int)) := M.bind (M.bind (pMul a b) fun c1 => pMul c1 g) fun c2 => M.bind (pRng c2) fun c3 => M.bind (pfold (fun (x228 : Int) (a229 : (List (List Int))) => M.bind (pRng c2) fun c236 => M.bind (pfold (fun (x295 : Int) (a296 : (List Int)) => M.bind (pMod x228 b) fun c301 => M.bind (M.bind (pMul g b) fun c302 => pDiv x295 c302) fun c303 => M.bind (if zero = true then M.bind (pAt holes c301) fun c304 => pAt c304 c303 else .ok false) fun c305 => if c305 = true then M.bind (pApp a296 c2) fun c306 => .ok c306 else M.bind (M.bind (M.bind (M.bind (pDiv x228 b) fun c308 => M.bind (M.bind (pAt twist c301) fun c309 => pAt c309 c303) fun c310 => .ok (c308 + c310)) fun c311 => M.bind (pDiv x295 b) fun c312 => .ok (c311 + c312)) fun c314 => pMod c314 g) fun c315 => M.bind (M.bind (M.bind (M.bind (M.bind (M.bind (M.bind (pMul g b) fun c316 => pDiv x228 c316) fun c317 => pMul c317 g) fun c318 => .ok (c318 + c315)) fun c319 => pMul c319 b) fun c320 => M.bind (pMod x295 b) fun c321 => .ok (c320 + c321)) fun c323 => pApp a296 c323) fun c322 => .ok c322) c236 []) fun (a324 : (List Int)) => M.bind (M.bind (M.bind (M.bind (pRng (if zero = true then (1 : Int) else 0)) fun c329 => pMap (fun (x330 : Int) => .ok c2) c329) fun c331 => pCat a324 c331) fun c334 => pApp a229 c334) fun c333 => .ok c333) c3 []) fun (a340 : (List (List Int))) => if zero = true then M.bind (M.bind (M.bind (pRng (c2 + 1)) fun c347 => pMap (fun (x348 : Int) => .ok c2) c347) fun c351 => pApp a340 c351) fun c350 => .ok c350 else .ok a340
theorem S__law_triples (a : Int) (b : Int) (g : Int) (twist : (List (List Int))) (holes : (List (List Bool))) (zero : Bool) : DM (d__law_triples [eI a, eI b, eI g, (eL (eL eI)) twist, (eL (eL eB)) holes, eB zero]) (P__law_triples a b g twist holes zero) (eL (eT eI)) := fn_F rfl (show RS true (sSeq (sSet 6 (dOp2 opMul (dOp2 opMul (dVar 0) (dVar 1)) (dVar 2))) (sSeq (sOwn 7 (dLst dNil)) (sSeq (sFor (.nm 8) (dRng (dVar 6)) (sSeq (sOwn 9 (dLst dNil)) (sSeq (sFor (.nm 10) (dRng (dVar 6)) (sSeq (sSet 11 (dOp2 opMod (dOp1n opInt 8) (dVar 1))) (sSeq (sSet 12 (dOp2 opDiv (dVar 10) (dOp2 opMul (dVar 2) (dVar 1)))) (sIf (dAnd (dTst (dVar 5)) (dTst (dOp2 opIx (dOp2n opIx 4 (dVar 11)) (dVar 12)))) (sExpr (dAppend 9 (dVar 6))) (sSeq (sSet 13 (dOp2 opMod (dOp1 opInt (dOp2 opAdd (dOp2 opAdd (dOp2 opDiv (dVar 8) (dVar 1)) (dOp2 opIx (dOp2n opIx 3 (dVar 11)) (dVar 12))) (dOp2 opDiv (dVar 10) (dVar 1)))) (dVar 2))) (sExpr (dAppend 9 (dOp2 opAdd (dOp2 opMul (dOp2 opAdd (dOp2 opMul (dOp2 opDiv (dVar 8) (dOp2 opMul (dVar 2) (dVar 1))) (dVar 2)) (dVar 13)) (dVar 1)) (dOp2 opMod (dOp1n opInt 10) (dVar 1)))))))))) (sExpr (dAppend 7 (dOp1 opTuple (dFrz (dN2 nAdd (dVar 9) (dFrz (dComp [14] (.nm 14) (dRng (dOp1n opInt 5)) dYes (dVar 6))))))))))) (sSeq (sIf (dTst (dVar 5)) (sExpr (dAppend 7 (dOp1 opTuple (dFrz (dComp [14] (.nm 14) (dRng (dOp2 opAdd (dVar 6) (dC (.int 1)))) dYes (dVar 6)))))) sPass) (sRet (dVar 7)))))) [.sh (eI a), .sh (eI b), .sh (eI g), .sh ((eL (eL eI)) twist), .sh ((eL (eL eB)) holes), .sh (eB zero), .no, .no, .no, .no, .no, .no, .no, .no, .no] (P__law_triples a b g twist holes zero) (Kfn (eL (eT eI))) from
  (rs_bindG (re_dOp2 (re_bindG (re_dOp2 (re_bindP (rv_var rfl) (re_bindP (rv_var rfl) (re_lift op_mul)))) fun c1 => (re_bindP (rv_var rfl) (re_lift op_mul)))) fun c2 => (rs_put (st1 := [.sh (eI a), .sh (eI b), .sh (eI g), .sh ((eL (eL eI)) twist), .sh ((eL (eL eB)) holes), .sh (eB zero), .sh (eI c2), .no, .no, .no, .no, .no, .no, .no, .no]) rfl (rs_bindP (rv_dLst (rv_nil (rv_lift (y := ((List.map eI) [])) (op_lst (by exact Nat.le_of_ble_eq_true rfl) rfl)))) (rs_put (st1 := [.sh (eI a), .sh (eI b), .sh (eI g), .sh ((eL (eL eI)) twist), .sh ((eL (eL eB)) holes), .sh (eB zero), .sh (eI c2), .ow (List.map eI []), .no, .no, .no, .no, .no, .no, .no]) rfl (rs_bindG (re_dRng (re_bindP (rv_var rfl) (re_lift op_rng))) fun c3 => (rs_for0 (e := eI) (xs := c3) (a := []) (f := fun (x228 : Int) (a229 : (List (List Int))) => M.bind (pRng c2) fun c236 => M.bind (pfold (fun (x295 : Int) (a296 : (List Int)) => M.bind (pMod x228 b) fun c301 => M.bind (M.bind (pMul g b) fun c302 => pDiv x295 c302) fun c303 => M.bind (if zero = true then M.bind (pAt holes c301) fun c304 => pAt c304 c303 else .ok false) fun c305 => if c305 = true then M.bind (pApp a296 c2) fun c306 => .ok c306 else M.bind (M.bind (M.bind (M.bind (pDiv x228 b) fun c308 => M.bind (M.bind (pAt twist c301) fun c309 => pAt c309 c303) fun c310 => .ok (c308 + c310)) fun c311 => M.bind (pDiv x295 b) fun c312 => .ok (c311 + c312)) fun c314 => pMod c314 g) fun c315 => M.bind (M.bind (M.bind (M.bind (M.bind (M.bind (M.bind (pMul g b) fun c316 => pDiv x228 c316) fun c317 => pMul c317 g) fun c318 => .ok (c318 + c315)) fun c319 => pMul c319 b) fun c320 => M.bind (pMod x295 b) fun c321 => .ok (c320 + c321)) fun c323 => pApp a296 c323) fun c322 => .ok c322) c236 []) fun (a324 : (List Int)) => M.bind (M.bind (M.bind (M.bind (pRng (if zero = true then (1 : Int) else 0)) fun c329 => pMap (fun (x330 : Int) => .ok c2) c329) fun c331 => pCat a324 c331) fun c334 => pApp a229 c334) fun c333 => .ok c333) (fun (a352 : (List (List Int))) (st : DSt) => ∃ (j353 : (Option D)), ∃ (j354 : (Option D)), ∃ (j355 : (Option D)), ∃ (j356 : (Option D)), ∃ (j357 : (Option D)), ∃ (j358 : (Option D)), st = [.sh (eI a), .sh (eI b), .sh (eI g), .sh ((eL (eL eI)) twist), .sh ((eL (eL eB)) holes), .sh (eB zero), .sh (eI c2), .ow (List.map (eT eI) a352), jk j353, jk j354, jk j355, jk j356, jk j357, jk j358, .no]) ⟨none, none, none, none, none, none, rfl⟩ (fun | x228, a229, _, ⟨j230, j231, j232, j233, j234, j235, rfl⟩ => ⟨[.sh (eI a), .sh (eI b), .sh (eI g), .sh ((eL (eL eI)) twist), .sh ((eL (eL eB)) holes), .sh (eB zero), .sh (eI c2), .ow (List.map (eT eI) a229), .sh (eI x228), jk j231, jk j232, jk j233, jk j234, jk j235, .no], rfl, (rs_bindP (rv_dLst (rv_nil (rv_lift (y := ((List.map eI) [])) (op_lst (by exact Nat.le_of_ble_eq_true rfl) rfl)))) (rs_put (st1 := [.sh (eI a), .sh (eI b), .sh (eI g), .sh ((eL (eL eI)) twist), .sh ((eL (eL eB)) holes), .sh (eB zero), .sh (eI c2), .ow (List.map (eT eI) a229), .sh (eI x228), .ow (List.map eI []), jk j232, jk j233, jk j234, jk j235, .no]) rfl (rs_bindG (re_dRng (re_bindP (rv_var rfl) (re_lift op_rng))) fun c236 => (rs_for0 (e := eI) (xs := c236) (a := []) (f := fun (x295 : Int) (a296 : (List Int)) => M.bind (pMod x228 b) fun c301 => M.bind (M.bind (pMul g b) fun c302 => pDiv x295 c302) fun c303 => M.bind (if zero = true then M.bind (pAt holes c301) fun c304 => pAt c304 c303 else .ok false) fun c305 => if c305 = true then M.bind (pApp a296 c2) fun c306 => .ok c306 else M.bind (M.bind (M.bind (M.bind (pDiv x228 b) fun c308 => M.bind (M.bind (pAt twist c301) fun c309 => pAt c309 c303) fun c310 => .ok (c308 + c310)) fun c311 => M.bind (pDiv x295 b) fun c312 => .ok (c311 + c312)) fun c314 => pMod c314 g) fun c315 => M.bind (M.bind (M.bind (M.bind (M.bind (M.bind (M.bind (pMul g b) fun c316 => pDiv x228 c316) fun c317 => pMul c317 g) fun c318 => .ok (c318 + c315)) fun c319 => pMul c319 b) fun c320 => M.bind (pMod x295 b) fun c321 => .ok (c320 + c321)) fun c323 => pApp a296 c323) fun c322 => .ok c322) (fun (a335 : (List Int)) (st : DSt) => ∃ (j336 : (Option D)), ∃ (j337 : (Option D)), ∃ (j338 : (Option D)), ∃ (j339 : (Option D)), st = [.sh (eI a), .sh (eI b), .sh (eI g), .sh ((eL (eL eI)) twist), .sh ((eL (eL eB)) holes), .sh (eB zero), .sh (eI c2), .ow (List.map (eT eI) a229), .sh (eI x228), .ow (List.map eI a335), jk j336, jk j337, jk j338, jk j339, .no]) ⟨j232, j233, j234, j235, rfl⟩ (fun | x295, a296, _, ⟨j297, j298, j299, j300, rfl⟩ => ⟨[.sh (eI a), .sh (eI b), .sh (eI g), .sh ((eL (eL eI)) twist), .sh ((eL (eL eB)) holes), .sh (eB zero), .sh (eI c2), .ow (List.map (eT eI) a229), .sh (eI x228), .ow (List.map eI a296), .sh (eI x295), jk j298, jk j299, jk j300, .no], rfl, (rs_bindG (re_dOp2 (re_bindP (rv_dOp1n (rv_bind (rv_rd rfl) (rv_lift (y := (eI x228)) rfl))) (re_bindP (rv_var rfl) (re_lift op_mod)))) fun c301 => (rs_put (st1 := [.sh (eI a), .sh (eI b), .sh (eI g), .sh ((eL (eL eI)) twist), .sh ((eL (eL eB)) holes), .sh (eB zero), .sh (eI c2), .ow (List.map (eT eI) a229), .sh (eI x228), .ow (List.map eI a296), .sh (eI x295), .sh (eI c301), jk j299, jk j300, .no]) rfl (rs_bindG (re_dOp2 (re_bindP (rv_var rfl) (re_bindG (re_dOp2 (re_bindP (rv_var rfl) (re_bindP (rv_var rfl) (re_lift op_mul)))) fun c302 => (re_lift op_div)))) fun c303 => (rs_put (st1 := [.sh (eI a), .sh (eI b), .sh (eI g), .sh ((eL (eL eI)) twist), .sh ((eL (eL eB)) holes), .sh (eB zero), .sh (eI c2), .ow (List.map (eT eI) a229), .sh (eI x228), .ow (List.map eI a296), .sh (eI x295), .sh (eI c301), .sh (eI c303), jk j300, .no]) rfl (rs_last (rs_bindG (re_dAnd (re_bindP (rv_tst (rv_var rfl)) (re_ite (fun _ => (re_tst (re_dOp2 (re_bindG (re_dOp2n (re_bindP (rv_rd rfl) (re_bindP (rv_var rfl) (re_bindP (rv_rd rfl) (re_lift op_atL))))) fun c304 => (re_bindP (rv_var rfl) (re_lift op_atL)))))) (fun _ => re_rv rv_ret)))) fun c305 => (rs_ite (fun _ => (rs_x (x_appP (e := eI) (xs := a296) rfl (rv_var rfl) rfl) fun c306 => rs_st ([.sh (eI a), .sh (eI b), .sh (eI g), .sh ((eL (eL eI)) twist), .sh ((eL (eL eB)) holes), .sh (eB zero), .sh (eI c2), .ow (List.map (eT eI) a229), .sh (eI x228), .ow (List.map eI c306), .sh (eI x295), .sh (eI c301), .sh (eI c303), jk j300, .no]) rfl (rs_end ⟨rfl, (some (eI x295)), (some (eI c301)), (some (eI c303)), j300, rfl⟩))) (fun _ => (rs_seq (rs_bindG (re_dOp2 (re_bindG (re_dOp1 (re_tail (w := eI) (re_dOp2 (re_bindG (re_dOp2 (re_bindG (re_dOp2 (re_bindP (rv_var rfl) (re_bindP (rv_var rfl) (re_lift op_div)))) fun c308 => (re_bindG (re_dOp2 (re_bindG (re_dOp2n (re_bindP (rv_rd rfl) (re_bindP (rv_var rfl) (re_bindP (rv_rd rfl) (re_lift op_atL))))) fun c309 => (re_bindP (rv_var rfl) (re_lift op_atL)))) fun c310 => (re_rv (w := eI) (rv_lift (y := (eI (c308 + c310))) rfl))))) fun c311 => (re_bindG (re_dOp2 (re_bindP (rv_var rfl) (re_bindP (rv_var rfl) (re_lift op_div)))) fun c312 => (re_rv (w := eI) (rv_lift (y := (eI (c311 + c312))) rfl))))) fun c313 => (rv_lift (y := (eI c313)) rfl))) fun c314 => (re_bindP (rv_var rfl) (re_lift op_mod)))) fun c315 => (rs_put (st1 := [.sh (eI a), .sh (eI b), .sh (eI g), .sh ((eL (eL eI)) twist), .sh ((eL (eL eB)) holes), .sh (eB zero), .sh (eI c2), .ow (List.map (eT eI) a229), .sh (eI x228), .ow (List.map eI a296), .sh (eI x295), .sh (eI c301), .sh (eI c303), .sh (eI c315), .no]) rfl (rs_x (x_appG (e := eI) (xs := a296) rfl (re_dOp2 (re_bindG (re_dOp2 (re_bindG (re_dOp2 (re_bindG (re_dOp2 (re_bindG (re_dOp2 (re_bindP (rv_var rfl) (re_bindG (re_dOp2 (re_bindP (rv_var rfl) (re_bindP (rv_var rfl) (re_lift op_mul)))) fun c316 => (re_lift op_div)))) fun c317 => (re_bindP (rv_var rfl) (re_lift op_mul)))) fun c318 => (re_bindP (rv_var rfl) (re_rv (w := eI) (rv_lift (y := (eI (c318 + c315))) rfl))))) fun c319 => (re_bindP (rv_var rfl) (re_lift op_mul)))) fun c320 => (re_bindG (re_dOp2 (re_bindP (rv_dOp1n (rv_bind (rv_rd rfl) (rv_lift (y := (eI x295)) rfl))) (re_bindP (rv_var rfl) (re_lift op_mod)))) fun c321 => (re_rv (w := eI) (rv_lift (y := (eI (c320 + c321))) rfl))))) rfl) fun c322 => rs_st ([.sh (eI a), .sh (eI b), .sh (eI g), .sh ((eL (eL eI)) twist), .sh ((eL (eL eB)) holes), .sh (eB zero), .sh (eI c2), .ow (List.map (eT eI) a229), .sh (eI x228), .ow (List.map eI c322), .sh (eI x295), .sh (eI c301), .sh (eI c303), .sh (eI c315), .no]) rfl (rs_end ⟨rfl, (some (eI x295)), (some (eI c301)), (some (eI c303)), (some (eI c315)), rfl⟩)))))))))))))⟩) (fun | a324, _, ⟨j325, j326, j327, j328, rfl⟩ => (rs_last (rs_x (x_appG (e := (eT eI)) (xs := a229) rfl (re_dOp1 (re_tail (w := (eT eI)) (re_frzN (re_dN2 (re_bindP (rv_frz rfl) (re_bindG (re_frzN (re_bindG (re_dRng (re_bindP (rv_dOp1n (rv_bind (rv_rd rfl) (rv_lift (y := (eI (if zero = true then (1 : Int) else 0))) rfl))) (re_lift op_rng))) fun c329 => (re_compM (e := eI) (f := fun (x330 : Int) => .ok c2) ([.sh (eI a), .sh (eI b), .sh (eI g), .sh ((eL (eL eI)) twist), .sh ((eL (eL eB)) holes), .sh (eB zero), .sh (eI c2), .ow (List.map (eT eI) a229), .sh (eI x228), .sh ((eL eI) a324), jk j325, jk j326, jk j327, jk j328, .no]) rfl rfl rfl (fun x330 => ⟨[.sh (eI a), .sh (eI b), .sh (eI g), .sh ((eL (eL eI)) twist), .sh ((eL (eL eB)) holes), .sh (eB zero), .sh (eI c2), .ow (List.map (eT eI) a229), .sh (eI x228), .sh ((eL eI) a324), jk j325, jk j326, jk j327, jk j328, .sh (eI x330)], [.sh (eI a), .sh (eI b), .sh (eI g), .sh ((eL (eL eI)) twist), .sh ((eL (eL eB)) holes), .sh (eB zero), .sh (eI c2), .ow (List.map (eT eI) a229), .sh (eI x228), .sh ((eL eI) a324), jk j325, jk j326, jk j327, jk j328, .sh (eI x330)], rfl, (re_rv (w := eI) (rv_var rfl)), rfl, rfl⟩)))) fun c331 => (re_lift (op_nCat (e := eI) (xs := a324) (ys := c331))))))) fun c332 => (rv_lift (y := ((eT eI) c332)) rfl))) rfl) fun c333 => rs_st ([.sh (eI a), .sh (eI b), .sh (eI g), .sh ((eL (eL eI)) twist), .sh ((eL (eL eB)) holes), .sh (eB zero), .sh (eI c2), .ow (List.map (eT eI) c333), .sh (eI x228), .sh ((eL eI) a324), jk j325, jk j326, jk j327, jk j328, .no]) rfl (rs_end ⟨rfl, (some (eI x228)), (some ((eL eI) a324)), j325, j326, j327, j328, rfl⟩))))))))⟩) (fun | a340, _, ⟨j341, j342, j343, j344, j345, j346, rfl⟩ => (rs_bindP (rv_tst (rv_var rfl)) (rs_ite (fun _ => (rs_x (x_appG (e := (eT eI)) (xs := a340) rfl (re_dOp1 (re_tail (w := (eT eI)) (re_frzN (re_bindG (re_dRng (re_bindP (rv_dOp2 (rv_bind (rv_var rfl) (rv_bind rv_ret (rv_lift (y := (eI (c2 + 1))) rfl)))) (re_lift op_rng))) fun c347 => (re_compM (e := eI) (f := fun (x348 : Int) => .ok c2) ([.sh (eI a), .sh (eI b), .sh (eI g), .sh ((eL (eL eI)) twist), .sh ((eL (eL eB)) holes), .sh (eB zero), .sh (eI c2), .ow (List.map (eT eI) a340), jk j341, jk j342, jk j343, jk j344, jk j345, jk j346, .no]) rfl rfl rfl (fun x348 => ⟨[.sh (eI a), .sh (eI b), .sh (eI g), .sh ((eL (eL eI)) twist), .sh ((eL (eL eB)) holes), .sh (eB zero), .sh (eI c2), .ow (List.map (eT eI) a340), jk j341, jk j342, jk j343, jk j344, jk j345, jk j346, .sh (eI x348)], [.sh (eI a), .sh (eI b), .sh (eI g), .sh ((eL (eL eI)) twist), .sh ((eL (eL eB)) holes), .sh (eB zero), .sh (eI c2), .ow (List.map (eT eI) a340), jk j341, jk j342, jk j343, jk j344, jk j345, jk j346, .sh (eI x348)], rfl, (re_rv (w := eI) (rv_var rfl)), rfl, rfl⟩)))) fun c349 => (rv_lift (y := ((eT eI) c349)) rfl))) rfl) fun c350 => rs_st ([.sh (eI a), .sh (eI b), .sh (eI g), .sh ((eL (eL eI)) twist), .sh ((eL (eL eB)) holes), .sh (eB zero), .sh (eI c2), .ow (List.map (eT eI) c350), jk j341, jk j342, jk j343, jk j344, jk j345, jk j346, .no]) rfl (rs_last (rs_bindP (rv_frz rfl) (rs_ret (.inl rfl)))))) (fun _ => (rs_nx (rs_last (rs_bindP (rv_frz rfl) (rs_ret (.inl rfl))))))))))))))))
def P__law_blocks (state_here : (List Int)) (most : Int) : M ((List (List Int)) × (List Int)) := M.bind (M.bind (P__law_take state_here 2) fun c3 => .ok ((1 + c3.1), c3.2)) fun c4 => M.bind (M.bind (P__law_take c4.2 2) fun c8 => .ok ((1 + c8.1), c8.2)) fun c9 => M.bind (M.bind (P__law_take c9.2 2) fun c13 => .ok ((1 + c13.1), c13.2)) fun c14 => M.bind (M.bind (M.bind (M.bind (pMul c4.1 c9.1) fun c16 => pMul c16 c14.1) fun c17 => .ok (c17 + 1)) fun c18 => .ok (decide (c18 > most))) fun c19 => M.bind (if c19 = true then .ok (1, 1, (if most < 2 then most else 2)) else .ok (c4.1, c9.1, c14.1) : M (Int × Int × Int)) fun (a20 : (Int × Int × Int)) => M.bind (M.bind (pRng a20.2.1) fun c21 => pMapS (fun (x22 : Int) (r23 : List Int) => M.bind (pRng a20.1) fun c24 => pMapS (fun (x25 : Int) (r26 : List Int) => P__law_take r26 a20.2.2) c24 r23) c21 c14.2) fun c28 => M.bind (M.bind (pRng a20.2.1) fun c30 => pMapS (fun (x31 : Int) (r32 : List Int) => M.bind (pRng a20.1) fun c33 => pMapS (fun (x34 : Int) (r35 : List Int) => M.bind (P__law_take r35 3) fun c37 => .ok ((decide (c37.1 = 0)), c37.2)) c33 r32) c30 c28.2) fun c38 => M.bind (M.bind (M.bind (P__law_take c38.2 2) fun c41 => .ok ((decide (c41.1 = 0)), c41.2)) fun c42 => if c42.1 = true then M.bind (M.bind (M.bind (pMul a20.1 a20.2.1) fun c45 => pMul c45 a20.2.2) fun c46 => .ok (decide (c46 < most))) fun z => .ok (z, c42.2) else .ok (false, c42.2)) fun c47 => M.bind (P__law_triples a20.1 a20.2.1 a20.2.2 c28.1 c38.1 c47.1) fun c49 => .ok (c49, c47.2)
theorem S__law_blocks (state_here : (List Int)) (most : Int) : DR (d__law_blocks (List.map eI state_here) [eI most]) (P__law_blocks state_here most) (eL (eT eI)) eI := fn_R rfl (show RS false (sSeq (sSet 2 (dOp2 opAdd (dC (.int 1)) (dCallR d__law_take 0 (dCons (dC (.int 2)) dNil)))) (sSeq (sSet 3 (dOp2 opAdd (dC (.int 1)) (dCallR d__law_take 0 (dCons (dC (.int 2)) dNil)))) (sSeq (sSet 4 (dOp2 opAdd (dC (.int 1)) (dCallR d__law_take 0 (dCons (dC (.int 2)) dNil)))) (sSeq (sIf (dTst (dOp2 opGt (dOp2 opAdd (dOp2 opMul (dOp2 opMul (dVar 2) (dVar 3)) (dVar 4)) (dC (.int 1))) (dVar 1))) (sAsg (.nms [2, 3, 4]) (dTup (dCons (dC (.int 1)) (dCons (dC (.int 1)) (dCons (dOp2 opMin2 (dC (.int 2)) (dVar 1)) dNil))))) sPass) (sSeq (sOwn 5 (dComp [8] (.nm 8) (dRng (dVar 3)) dYes (dFrz (dComp [9] (.nm 9) (dRng (dVar 2)) dYes (dCallR d__law_take 0 (dCons (dVar 4) dNil)))))) (sSeq (sOwn 6 (dComp [8] (.nm 8) (dRng (dVar 3)) dYes (dFrz (dComp [9] (.nm 9) (dRng (dVar 2)) dYes (dOp2 opEq (dCallR d__law_take 0 (dCons (dC (.int 3)) dNil)) (dC (.int 0))))))) (sSeq (sSet 7 (dIf (dTst (dOp2 opEq (dCallR d__law_take 0 (dCons (dC (.int 2)) dNil)) (dC (.int 0)))) (dOp2 opLt (dOp2 opMul (dOp2 opMul (dVar 2) (dVar 3)) (dVar 4)) (dVar 1)) (dC (.bl false)))) (sRet (dCall d__law_triples (dCons (dVar 2) (dCons (dVar 3) (dCons (dVar 4) (dCons (dVar 5) (dCons (dVar 6) (dCons (dVar 7) dNil))))))))))))))) [.rf 0 (List.map eI state_here), .sh (eI most), .no, .no, .no, .no, .no, .no, .no, .no] (P__law_blocks state_here most) (Kby (eL (eT eI)) eI) from
  (rs_bindS (fun (r5 : List Int) => [.rf 0 (List.map eI r5), .sh (eI most), .no, .no, .no, .no, .no, .no, .no, .no]) (rt_dOp2 (rt_bindP rv_ret (rt_bindS (rt_dCallR (rt_bindP (rv_owR rfl) (rt_consP rv_ret (rt_nil (rt_callR (S := fun r2 => [.rf 0 (List.map eI r2), .sh (eI most), .no, .no, .no, .no, .no, .no, .no, .no]) rfl (fun _ => rfl) (S__law_take state_here 2)))))) fun c3 => (rt_rv (v := eI) (rv_lift (y := (eI (1 + c3.1))) rfl))))) fun c4 => (rs_put (st1 := [.rf 0 (List.map eI c4.2), .sh (eI most), .sh (eI c4.1), .no, .no, .no, .no, .no, .no, .no]) rfl (rs_bindS (fun (r10 : List Int) => [.rf 0 (List.map eI r10), .sh (eI most), .sh (eI c4.1), .no, .no, .no, .no, .no, .no, .no]) (rt_dOp2 (rt_bindP rv_ret (rt_bindS (rt_dCallR (rt_bindP (rv_owR rfl) (rt_consP rv_ret (rt_nil (rt_callR (S := fun r7 => [.rf 0 (List.map eI r7), .sh (eI most), .sh (eI c4.1), .no, .no, .no, .no, .no, .no, .no]) rfl (fun _ => rfl) (S__law_take c4.2 2)))))) fun c8 => (rt_rv (v := eI) (rv_lift (y := (eI (1 + c8.1))) rfl))))) fun c9 => (rs_put (st1 := [.rf 0 (List.map eI c9.2), .sh (eI most), .sh (eI c4.1), .sh (eI c9.1), .no, .no, .no, .no, .no, .no]) rfl (rs_bindS (fun (r15 : List Int) => [.rf 0 (List.map eI r15), .sh (eI most), .sh (eI c4.1), .sh (eI c9.1), .no, .no, .no, .no, .no, .no]) (rt_dOp2 (rt_bindP rv_ret (rt_bindS (rt_dCallR (rt_bindP (rv_owR rfl) (rt_consP rv_ret (rt_nil (rt_callR (S := fun r12 => [.rf 0 (List.map eI r12), .sh (eI most), .sh (eI c4.1), .sh (eI c9.1), .no, .no, .no, .no, .no, .no]) rfl (fun _ => rfl) (S__law_take c9.2 2)))))) fun c13 => (rt_rv (v := eI) (rv_lift (y := (eI (1 + c13.1))) rfl))))) fun c14 => (rs_put (st1 := [.rf 0 (List.map eI c14.2), .sh (eI most), .sh (eI c4.1), .sh (eI c9.1), .sh (eI c14.1), .no, .no, .no, .no, .no]) rfl (rs_bindG (re_tst (re_dOp2 (re_bindG (re_dOp2 (re_bindG (re_dOp2 (re_bindG (re_dOp2 (re_bindP (rv_var rfl) (re_bindP (rv_var rfl) (re_lift op_mul)))) fun c16 => (re_bindP (rv_var rfl) (re_lift op_mul)))) fun c17 => (re_bindP rv_ret (re_rv (w := eI) (rv_lift (y := (eI (c17 + 1))) rfl))))) fun c18 => (re_bindP (rv_var rfl) (re_rv (w := eB) (rv_lift (y := (eB (decide (c18 > most)))) rfl)))))) fun c19 => (rs_join (I := (fun (a50 : (Int × Int × Int)) (st : DSt) => st = [.rf 0 (List.map eI c14.2), .sh (eI most), .sh (eI a50.1), .sh (eI a50.2.1), .sh (eI a50.2.2), .no, .no, .no, .no, .no])) (rs_iteN (fun _ => (rs_last (rs_bindP (rv_dTup (rv_cons rv_ret (rv_cons rv_ret (rv_cons (rv_dOp2 (rv_bind rv_ret (rv_bind (rv_var rfl) (rv_lift (y := (eI (if most < 2 then most else 2))) rfl)))) (rv_nil (rv_lift (y := ((eP3 eI eI eI) (1, 1, (if most < 2 then most else 2)))) (op_tup (by exact Nat.le_of_ble_eq_true rfl) rfl))))))) (rs_exec (st1 := [.rf 0 (List.map eI c14.2), .sh (eI most), .sh (eI 1), .sh (eI 1), .sh (eI (if most < 2 then most else 2)), .no, .no, .no, .no, .no]) rfl (rs_end ⟨rfl, rfl⟩))))) (fun _ => (rs_end ⟨rfl, rfl⟩))) fun | a20, _, rfl => (rs_bindS (fun (r29 : List Int) => [.rf 0 (List.map eI r29), .sh (eI most), .sh (eI a20.1), .sh (eI a20.2.1), .sh (eI a20.2.2), .no, .no, .no, .no, .no]) (rt_bindG (re_dRng (re_bindP (rv_var rfl) (re_lift op_rng))) fun c21 => (rt_comp (e := eI) (f := fun (x22 : Int) (r23 : List Int) => M.bind (pRng a20.1) fun c24 => pMapS (fun (x25 : Int) (r26 : List Int) => P__law_take r26 a20.2.2) c24 r23) (S := fun (r23 : List Int) => [.rf 0 (List.map eI r23), .sh (eI most), .sh (eI a20.1), .sh (eI a20.2.1), .sh (eI a20.2.2), .no, .no, .no, .no, .no]) (fun (r23 : List Int) => [.rf 0 (List.map eI r23), .sh (eI most), .sh (eI a20.1), .sh (eI a20.2.1), .sh (eI a20.2.2), .no, .no, .no, .no, .no]) (fun (x22 : Int) (r23 : List Int) => [.rf 0 (List.map eI r23), .sh (eI most), .sh (eI a20.1), .sh (eI a20.2.1), .sh (eI a20.2.2), .no, .no, .no, .sh (eI x22), .no]) (fun _ => rfl) rfl (fun _ => rfl) (fun x22 r23 => ⟨rfl, (rt_frzN (rt_bindG (re_dRng (re_bindP (rv_var rfl) (re_lift op_rng))) fun c24 => (rt_comp (e := eI) (f := fun (x25 : Int) (r26 : List Int) => P__law_take r26 a20.2.2) (S := fun (r26 : List Int) => [.rf 0 (List.map eI r26), .sh (eI most), .sh (eI a20.1), .sh (eI a20.2.1), .sh (eI a20.2.2), .no, .no, .no, .sh (eI x22), .no]) (fun (r26 : List Int) => [.rf 0 (List.map eI r26), .sh (eI most), .sh (eI a20.1), .sh (eI a20.2.1), .sh (eI a20.2.2), .no, .no, .no, .sh (eI x22), .no]) (fun (x25 : Int) (r26 : List Int) => [.rf 0 (List.map eI r26), .sh (eI most), .sh (eI a20.1), .sh (eI a20.2.1), .sh (eI a20.2.2), .no, .no, .no, .sh (eI x22), .sh (eI x25)]) (fun _ => rfl) rfl (fun _ => rfl) (fun x25 r26 => ⟨rfl, (rt_dCallR (rt_bindP (rv_owR rfl) (rt_consP (rv_var rfl) (rt_nil (rt_callR (S := fun r27 => [.rf 0 (List.map eI r27), .sh (eI most), .sh (eI a20.1), .sh (eI a20.2.1), .sh (eI a20.2.2), .no, .no, .no, .sh (eI x22), .sh (eI x25)]) rfl (fun _ => rfl) (S__law_take r26 a20.2.2)))))), rfl⟩)))), rfl⟩))) fun c28 => (rs_put (st1 := [.rf 0 (List.map eI c28.2), .sh (eI most), .sh (eI a20.1), .sh (eI a20.2.1), .sh (eI a20.2.2), .ow (List.map (eL eI) c28.1), .no, .no, .no, .no]) rfl (rs_bindS (fun (r39 : List Int) => [.rf 0 (List.map eI r39), .sh (eI most), .sh (eI a20.1), .sh (eI a20.2.1), .sh (eI a20.2.2), .ow (List.map (eL eI) c28.1), .no, .no, .no, .no]) (rt_bindG (re_dRng (re_bindP (rv_var rfl) (re_lift op_rng))) fun c30 => (rt_comp (e := eI) (f := fun (x31 : Int) (r32 : List Int) => M.bind (pRng a20.1) fun c33 => pMapS (fun (x34 : Int) (r35 : List Int) => M.bind (P__law_take r35 3) fun c37 => .ok ((decide (c37.1 = 0)), c37.2)) c33 r32) (S := fun (r32 : List Int) => [.rf 0 (List.map eI r32), .sh (eI most), .sh (eI a20.1), .sh (eI a20.2.1), .sh (eI a20.2.2), .ow (List.map (eL eI) c28.1), .no, .no, .no, .no]) (fun (r32 : List Int) => [.rf 0 (List.map eI r32), .sh (eI most), .sh (eI a20.1), .sh (eI a20.2.1), .sh (eI a20.2.2), .ow (List.map (eL eI) c28.1), .no, .no, .no, .no]) (fun (x31 : Int) (r32 : List Int) => [.rf 0 (List.map eI r32), .sh (eI most), .sh (eI a20.1), .sh (eI a20.2.1), .sh (eI a20.2.2), .ow (List.map (eL eI) c28.1), .no, .no, .sh (eI x31), .no]) (fun _ => rfl) rfl (fun _ => rfl) (fun x31 r32 => ⟨rfl, (rt_frzN (rt_bindG (re_dRng (re_bindP (rv_var rfl) (re_lift op_rng))) fun c33 => (rt_comp (e := eI) (f := fun (x34 : Int) (r35 : List Int) => M.bind (P__law_take r35 3) fun c37 => .ok ((decide (c37.1 = 0)), c37.2)) (S := fun (r35 : List Int) => [.rf 0 (List.map eI r35), .sh (eI most), .sh (eI a20.1), .sh (eI a20.2.1), .sh (eI a20.2.2), .ow (List.map (eL eI) c28.1), .no, .no, .sh (eI x31), .no]) (fun (r35 : List Int) => [.rf 0 (List.map eI r35), .sh (eI most), .sh (eI a20.1), .sh (eI a20.2.1), .sh (eI a20.2.2), .ow (List.map (eL eI) c28.1), .no, .no, .sh (eI x31), .no]) (fun (x34 : Int) (r35 : List Int) => [.rf 0 (List.map eI r35), .sh (eI most), .sh (eI a20.1), .sh (eI a20.2.1), .sh (eI a20.2.2), .ow (List.map (eL eI) c28.1), .no, .no, .sh (eI x31), .sh (eI x34)]) (fun _ => rfl) rfl (fun _ => rfl) (fun x34 r35 => ⟨rfl, (rt_dOp2 (rt_bindS (rt_dCallR (rt_bindP (rv_owR rfl) (rt_consP rv_ret (rt_nil (rt_callR (S := fun r36 => [.rf 0 (List.map eI r36), .sh (eI most), .sh (eI a20.1), .sh (eI a20.2.1), .sh (eI a20.2.2), .ow (List.map (eL eI) c28.1), .no, .no, .sh (eI x31), .sh (eI x34)]) rfl (fun _ => rfl) (S__law_take r35 3)))))) fun c37 => (rt_bindP rv_ret (rt_rv (v := eB) (rv_lift (eq_py pyI (x := c37.1) (y := 0))))))), rfl⟩)))), rfl⟩))) fun c38 => (rs_put (st1 := [.rf 0 (List.map eI c38.2), .sh (eI most), .sh (eI a20.1), .sh (eI a20.2.1), .sh (eI a20.2.2), .ow (List.map (eL eI) c28.1), .ow (List.map (eL eB) c38.1), .no, .no, .no]) rfl (rs_bindS (fun (r48 : List Int) => [.rf 0 (List.map eI r48), .sh (eI most), .sh (eI a20.1), .sh (eI a20.2.1), .sh (eI a20.2.2), .ow (List.map (eL eI) c28.1), .ow (List.map (eL eB) c38.1), .no, .no, .no]) (rt_dIf (rt_bindS (rt_tst (rt_dOp2 (rt_bindS (rt_dCallR (rt_bindP (rv_owR rfl) (rt_consP rv_ret (rt_nil (rt_callR (S := fun r40 => [.rf 0 (List.map eI r40), .sh (eI most), .sh (eI a20.1), .sh (eI a20.2.1), .sh (eI a20.2.2), .ow (List.map (eL eI) c28.1), .ow (List.map (eL eB) c38.1), .no, .no, .no]) rfl (fun _ => rfl) (S__law_take c38.2 2)))))) fun c41 => (rt_bindP rv_ret (rt_rv (v := eB) (rv_lift (eq_py pyI (x := c41.1) (y := 0)))))))) fun c42 => (rt_ite (fun _ => (rt_re (re_dOp2 (re_bindG (re_dOp2 (re_bindG (re_dOp2 (re_bindP (rv_var rfl) (re_bindP (rv_var rfl) (re_lift op_mul)))) fun c45 => (re_bindP (rv_var rfl) (re_lift op_mul)))) fun c46 => (re_bindP (rv_var rfl) (re_rv (w := eB) (rv_lift (y := (eB (decide (c46 < most)))) rfl))))))) (fun _ => (rt_rv rv_ret))))) fun c47 => (rs_put (st1 := [.rf 0 (List.map eI c47.2), .sh (eI most), .sh (eI a20.1), .sh (eI a20.2.1), .sh (eI a20.2.2), .ow (List.map (eL eI) c28.1), .ow (List.map (eL eB) c38.1), .sh (eB c47.1), .no, .no]) rfl (rs_last (rs_bindG (re_dCall (re_consP (rv_var rfl) (re_consP (rv_var rfl) (re_consP (rv_var rfl) (re_consP (rv_frz rfl) (re_consP (rv_frz rfl) (re_consP (rv_var rfl) (re_nil (re_liftM (S__law_triples a20.1 a20.2.1 a20.2.2 c28.1 c38.1 c47.1)))))))))) fun c49 => (rs_ret ⟨.inl rfl, _, rfl⟩))))))))))))))))))
def P__law_plain (state_here : (List Int)) (most : Int) : M ((List (List Int)) × (List Int)) := M.bind (P__law_take state_here 8) fun c2 => M.bind (M.bind (P__law_take c2.2 most) fun c6 => .ok ((1 + c6.1), c6.2)) fun c7 => if (decide (c2.1 = 0)) = true then M.bind (M.bind (pRng c7.1) fun c9 => pMap (fun (x10 : Int) => M.bind (pRng c7.1) fun c11 => pMap (fun (x12 : Int) => .ok x10) c11) c9) fun c14 => .ok (c14, c7.2) else if (decide (c2.1 = 1)) = true then M.bind (M.bind (pRng c7.1) fun c15 => pMap (fun (x16 : Int) => M.bind (pRng c7.1) fun c17 => pMap (fun (x18 : Int) => .ok 0) c17) c15) fun c20 => .ok (c20, c7.2) else if (decide (c2.1 = 2)) = true then M.bind (P__law_monogenic c7.2 most) fun c22 => .ok (c22.1, c22.2) else if (decide (c2.1 = 3)) = true then M.bind (M.bind (pRng c7.1) fun c24 => pMap (fun (x25 : Int) => M.bind (pRng c7.1) fun c26 => pMap (fun (x27 : Int) => .ok (if x27 < x25 then x27 else x25)) c26) c24) fun c29 => .ok (c29, c7.2) else if (decide (c2.1 < 6)) = true then M.bind (P__law_of_maps c7.2 most) fun c31 => .ok (c31.1, c31.2) else M.bind (P__law_blocks c7.2 most) fun c34 => .ok (c34.1, c34.2)
theorem S__law_plain (state_here : (List Int)) (most : Int) : DR (d__law_plain (List.map eI state_here) [eI most]) (P__law_plain state_here most) (eL (eT eI)) eI := fn_R rfl (show RS false (sSeq (sSet 2 (dCallR d__law_take 0 (dCons (dC (.int 8)) dNil))) (sSeq (sSet 3 (dOp2 opAdd (dC (.int 1)) (dCallR d__law_take 0 (dCons (dVar 1) dNil)))) (sSeq (sIf (dTst (dOp2 opEq (dVar 2) (dC (.int 0)))) (sRet (dFrz (dComp [4] (.nm 4) (dRng (dVar 3)) dYes (dOp1 opTuple (dFrz (dComp [5] (.nm 5) (dRng (dVar 3)) dYes (dVar 4))))))) sPass) (sSeq (sIf (dTst (dOp2 opEq (dVar 2) (dC (.int 1)))) (sRet (dFrz (dComp [4] (.nm 4) (dRng (dVar 3)) dYes (dOp1 opTuple (dFrz (dComp [5] (.nm 5) (dRng (dVar 3)) dYes (dC (.int 0)))))))) sPass) (sSeq (sIf (dTst (dOp2 opEq (dVar 2) (dC (.int 2)))) (sRet (dCallR d__law_monogenic 0 (dCons (dVar 1) dNil))) sPass) (sSeq (sIf (dTst (dOp2 opEq (dVar 2) (dC (.int 3)))) (sRet (dFrz (dComp [4] (.nm 4) (dRng (dVar 3)) dYes (dOp1 opTuple (dFrz (dComp [5] (.nm 5) (dRng (dVar 3)) dYes (dOp2 opMin2 (dVar 4) (dVar 5)))))))) sPass) (sSeq (sIf (dTst (dOp2 opLt (dVar 2) (dC (.int 6)))) (sRet (dCallR d__law_of_maps 0 (dCons (dVar 1) dNil))) sPass) (sRet (dCallR d__law_blocks 0 (dCons (dVar 1) dNil)))))))))) [.rf 0 (List.map eI state_here), .sh (eI most), .no, .no, .no, .no] (P__law_plain state_here most) (Kby (eL (eT eI)) eI) from
  (rs_bindS (fun (r3 : List Int) => [.rf 0 (List.map eI r3), .sh (eI most), .no, .no, .no, .no]) (rt_dCallR (rt_bindP (rv_owR rfl) (rt_consP rv_ret (rt_nil (rt_callR (S := fun r1 => [.rf 0 (List.map eI r1), .sh (eI most), .no, .no, .no, .no]) rfl (fun _ => rfl) (S__law_take state_here 8)))))) fun c2 => (rs_put (st1 := [.rf 0 (List.map eI c2.2), .sh (eI most), .sh (eI c2.1), .no, .no, .no]) rfl (rs_bindS (fun (r8 : List Int) => [.rf 0 (List.map eI r8), .sh (eI most), .sh (eI c2.1), .no, .no, .no]) (rt_dOp2 (rt_bindP rv_ret (rt_bindS (rt_dCallR (rt_bindP (rv_owR rfl) (rt_consP (rv_var rfl) (rt_nil (rt_callR (S := fun r5 => [.rf 0 (List.map eI r5), .sh (eI most), .sh (eI c2.1), .no, .no, .no]) rfl (fun _ => rfl) (S__law_take c2.2 most)))))) fun c6 => (rt_rv (v := eI) (rv_lift (y := (eI (1 + c6.1))) rfl))))) fun c7 => (rs_put (st1 := [.rf 0 (List.map eI c7.2), .sh (eI most), .sh (eI c2.1), .sh (eI c7.1), .no, .no]) rfl (rs_bindP (rv_tst (rv_dOp2 (rv_bind (rv_var rfl) (rv_bind rv_ret (rv_lift (eq_py pyI (x := c2.1) (y := 0))))))) (rs_ite (fun _ => (rs_bindG (re_frzN (re_bindG (re_dRng (re_bindP (rv_var rfl) (re_lift op_rng))) fun c9 => (re_compM (e := eI) (f := fun (x10 : Int) => M.bind (pRng c7.1) fun c11 => pMap (fun (x12 : Int) => .ok x10) c11) ([.rf 0 (List.map eI c7.2), .sh (eI most), .sh (eI c2.1), .sh (eI c7.1), .no, .no]) rfl rfl rfl (fun x10 => ⟨[.rf 0 (List.map eI c7.2), .sh (eI most), .sh (eI c2.1), .sh (eI c7.1), .sh (eI x10), .no], [.rf 0 (List.map eI c7.2), .sh (eI most), .sh (eI c2.1), .sh (eI c7.1), .sh (eI x10), .no], rfl, (re_dOp1 (re_tail (w := (eT eI)) (re_frzN (re_bindG (re_dRng (re_bindP (rv_var rfl) (re_lift op_rng))) fun c11 => (re_compM (e := eI) (f := fun (x12 : Int) => .ok x10) ([.rf 0 (List.map eI c7.2), .sh (eI most), .sh (eI c2.1), .sh (eI c7.1), .sh (eI x10), .no]) rfl rfl rfl (fun x12 => ⟨[.rf 0 (List.map eI c7.2), .sh (eI most), .sh (eI c2.1), .sh (eI c7.1), .sh (eI x10), .sh (eI x12)], [.rf 0 (List.map eI c7.2), .sh (eI most), .sh (eI c2.1), .sh (eI c7.1), .sh (eI x10), .sh (eI x12)], rfl, (re_rv (w := eI) (rv_var rfl)), rfl, rfl⟩)))) fun c13 => (rv_lift (y := ((eT eI) c13)) rfl))), rfl, rfl⟩)))) fun c14 => (rs_ret ⟨.inl rfl, _, rfl⟩))) (fun _ => (rs_nx (rs_bindP (rv_tst (rv_dOp2 (rv_bind (rv_var rfl) (rv_bind rv_ret (rv_lift (eq_py pyI (x := c2.1) (y := 1))))))) (rs_ite (fun _ => (rs_bindG (re_frzN (re_bindG (re_dRng (re_bindP (rv_var rfl) (re_lift op_rng))) fun c15 => (re_compM (e := eI) (f := fun (x16 : Int) => M.bind (pRng c7.1) fun c17 => pMap (fun (x18 : Int) => .ok 0) c17) ([.rf 0 (List.map eI c7.2), .sh (eI most), .sh (eI c2.1), .sh (eI c7.1), .no, .no]) rfl rfl rfl (fun x16 => ⟨[.rf 0 (List.map eI c7.2), .sh (eI most), .sh (eI c2.1), .sh (eI c7.1), .sh (eI x16), .no], [.rf 0 (List.map eI c7.2), .sh (eI most), .sh (eI c2.1), .sh (eI c7.1), .sh (eI x16), .no], rfl, (re_dOp1 (re_tail (w := (eT eI)) (re_frzN (re_bindG (re_dRng (re_bindP (rv_var rfl) (re_lift op_rng))) fun c17 => (re_compM (e := eI) (f := fun (x18 : Int) => .ok 0) ([.rf 0 (List.map eI c7.2), .sh (eI most), .sh (eI c2.1), .sh (eI c7.1), .sh (eI x16), .no]) rfl rfl rfl (fun x18 => ⟨[.rf 0 (List.map eI c7.2), .sh (eI most), .sh (eI c2.1), .sh (eI c7.1), .sh (eI x16), .sh (eI x18)], [.rf 0 (List.map eI c7.2), .sh (eI most), .sh (eI c2.1), .sh (eI c7.1), .sh (eI x16), .sh (eI x18)], rfl, (re_rv (w := eI) rv_ret), rfl, rfl⟩)))) fun c19 => (rv_lift (y := ((eT eI) c19)) rfl))), rfl, rfl⟩)))) fun c20 => (rs_ret ⟨.inl rfl, _, rfl⟩))) (fun _ => (rs_nx (rs_bindP (rv_tst (rv_dOp2 (rv_bind (rv_var rfl) (rv_bind rv_ret (rv_lift (eq_py pyI (x := c2.1) (y := 2))))))) (rs_ite (fun _ => (rs_bindS (fun (r23 : List Int) => [.rf 0 (List.map eI r23), .sh (eI most), .sh (eI c2.1), .sh (eI c7.1), .no, .no]) (rt_dCallR (rt_bindP (rv_owR rfl) (rt_consP (rv_var rfl) (rt_nil (rt_callR (S := fun r21 => [.rf 0 (List.map eI r21), .sh (eI most), .sh (eI c2.1), .sh (eI c7.1), .no, .no]) rfl (fun _ => rfl) (S__law_monogenic c7.2 most)))))) fun c22 => (rs_ret ⟨.inl rfl, _, rfl⟩))) (fun _ => (rs_nx (rs_bindP (rv_tst (rv_dOp2 (rv_bind (rv_var rfl) (rv_bind rv_ret (rv_lift (eq_py pyI (x := c2.1) (y := 3))))))) (rs_ite (fun _ => (rs_bindG (re_frzN (re_bindG (re_dRng (re_bindP (rv_var rfl) (re_lift op_rng))) fun c24 => (re_compM (e := eI) (f := fun (x25 : Int) => M.bind (pRng c7.1) fun c26 => pMap (fun (x27 : Int) => .ok (if x27 < x25 then x27 else x25)) c26) ([.rf 0 (List.map eI c7.2), .sh (eI most), .sh (eI c2.1), .sh (eI c7.1), .no, .no]) rfl rfl rfl (fun x25 => ⟨[.rf 0 (List.map eI c7.2), .sh (eI most), .sh (eI c2.1), .sh (eI c7.1), .sh (eI x25), .no], [.rf 0 (List.map eI c7.2), .sh (eI most), .sh (eI c2.1), .sh (eI c7.1), .sh (eI x25), .no], rfl, (re_dOp1 (re_tail (w := (eT eI)) (re_frzN (re_bindG (re_dRng (re_bindP (rv_var rfl) (re_lift op_rng))) fun c26 => (re_compM (e := eI) (f := fun (x27 : Int) => .ok (if x27 < x25 then x27 else x25)) ([.rf 0 (List.map eI c7.2), .sh (eI most), .sh (eI c2.1), .sh (eI c7.1), .sh (eI x25), .no]) rfl rfl rfl (fun x27 => ⟨[.rf 0 (List.map eI c7.2), .sh (eI most), .sh (eI c2.1), .sh (eI c7.1), .sh (eI x25), .sh (eI x27)], [.rf 0 (List.map eI c7.2), .sh (eI most), .sh (eI c2.1), .sh (eI c7.1), .sh (eI x25), .sh (eI x27)], rfl, (re_rv (w := eI) (rv_dOp2 (rv_bind (rv_var rfl) (rv_bind (rv_var rfl) (rv_lift (y := (eI (if x27 < x25 then x27 else x25))) rfl))))), rfl, rfl⟩)))) fun c28 => (rv_lift (y := ((eT eI) c28)) rfl))), rfl, rfl⟩)))) fun c29 => (rs_ret ⟨.inl rfl, _, rfl⟩))) (fun _ => (rs_nx (rs_bindP (rv_tst (rv_dOp2 (rv_bind (rv_var rfl) (rv_bind rv_ret (rv_lift (y := (eB (decide (c2.1 < 6)))) rfl))))) (rs_ite (fun _ => (rs_bindS (fun (r32 : List Int) => [.rf 0 (List.map eI r32), .sh (eI most), .sh (eI c2.1), .sh (eI c7.1), .no, .no]) (rt_dCallR (rt_bindP (rv_owR rfl) (rt_consP (rv_var rfl) (rt_nil (rt_callR (S := fun r30 => [.rf 0 (List.map eI r30), .sh (eI most), .sh (eI c2.1), .sh (eI c7.1), .no, .no]) rfl (fun _ => rfl) (S__law_of_maps c7.2 most)))))) fun c31 => (rs_ret ⟨.inl rfl, _, rfl⟩))) (fun _ => (rs_nx (rs_last (rs_bindS (fun (r35 : List Int) => [.rf 0 (List.map eI r35), .sh (eI most), .sh (eI c2.1), .sh (eI c7.1), .no, .no]) (rt_dCallR (rt_bindP (rv_owR rfl) (rt_consP (rv_var rfl) (rt_nil (rt_callR (S := fun r33 => [.rf 0 (List.map eI r33), .sh (eI most), .sh (eI c2.1), .sh (eI c7.1), .no, .no]) rfl (fun _ => rfl) (S__law_blocks c7.2 most)))))) fun c34 => (rs_ret ⟨.inl rfl, _, rfl⟩))))))))))))))))))))))))))))
def P__law_extended (state_here : (List Int)) (table : (List (List Int))) (most : Int) : M ((List (List Int)) × (List Int)) := M.bind (P__law_take state_here 6) fun c2 => if (decide (c2.1 = 0)) = true then M.bind (M.bind (pRng (table.length : Int)) fun c4 => pMap (fun (x5 : Int) => M.bind (pRng (table.length : Int)) fun c6 => pMap (fun (x7 : Int) => M.bind (pAt table x7) fun c8 => pAt c8 x5) c6) c4) fun c10 => .ok (c10, c2.2) else if ((decide (c2.1 = 1)) && (decide ((table.length : Int) < most))) = true then M.bind (M.bind (pMap (fun (x11 : (List Int)) => pCat x11 [(table.length : Int)]) table) fun c12 => M.bind (M.bind (M.bind (pRng ((table.length : Int) + 1)) fun c13 => pMap (fun (x14 : Int) => .ok (table.length : Int)) c13) fun c16 => .ok [c16]) fun c17 => pCat c12 c17) fun c18 => .ok (c18, c2.2) else if ((decide (c2.1 = 2)) && (decide ((table.length : Int) < most))) = true then M.bind (M.bind (M.bind (pRng (table.length : Int)) fun c19 => pMap (fun (x20 : Int) => M.bind (pAt table x20) fun c21 => pCat c21 [x20]) c19) fun c22 => M.bind (M.bind (pRng ((table.length : Int) + 1)) fun c23 => .ok [c23]) fun c24 => pCat c22 c24) fun c25 => .ok (c25, c2.2) else M.bind (if (decide (c2.1 = 3)) = true then M.bind (pMul 2 (table.length : Int)) fun c26 => .ok (decide (c26 ≤ most)) else .ok false) fun c27 => if c27 = true then M.bind (M.bind (P__law_take c2.2 2) fun c29 => .ok ((decide (c29.1 = 0)), c29.2)) fun c30 => M.bind (if c30.1 = true then .ok [(0, 1), (1, 0)] else .ok [(0, 0), (0, 1)] : M (List (Int × Int))) fun (a32 : (List (Int × Int))) => M.bind (M.bind (M.bind (pMul 2 (table.length : Int)) fun c33 => pRng c33) fun c34 => pMap (fun (x35 : Int) => M.bind (M.bind (pMul 2 (table.length : Int)) fun c36 => pRng c36) fun c37 => pMap (fun (x38 : Int) => M.bind (M.bind (M.bind (M.bind (pDiv x35 2) fun c42 => pAt table c42) fun c43 => M.bind (pDiv x38 2) fun c44 => pAt c43 c44) fun c45 => pMul 2 c45) fun c49 => M.bind (M.bind (M.bind (pMod x35 2) fun c50 => pAt a32 c50) fun c51 => M.bind (pMod x38 2) fun c52 => pAt [c51.1, c51.2] c52) fun c53 => .ok (c49 + c53)) c37) c34) fun c55 => .ok (c55, c30.2) else .ok (table, c2.2)
theorem S__law_extended (state_here : (List Int)) (table : (List (List Int))) (most : Int) : DR (d__law_extended (List.map eI state_here) [(eL (eT eI)) table, eI most]) (P__law_extended state_here table most) (eL (eT eI)) eI := fn_R rfl (show RS false (sSeq (sSet 3 (dOp1n opLen 1)) (sSeq (sSet 4 (dCallR d__law_take 0 (dCons (dC (.int 6)) dNil))) (sSeq (sIf (dTst (dOp2 opEq (dVar 4) (dC (.int 0)))) (sRet (dFrz (dComp [6] (.nm 6) (dRng (dVar 3)) dYes (dOp1 opTuple (dFrz (dComp [7] (.nm 7) (dRng (dVar 3)) dYes (dOp2 opIx (dOp2n opIx 1 (dVar 7)) (dVar 6)))))))) sPass) (sSeq (sIf (dAnd (dTst (dOp2 opEq (dVar 4) (dC (.int 1)))) (dTst (dOp2 opLt (dVar 3) (dVar 2)))) (sRet (dFrz (dN2 nAdd (dFrz (dComp [8] (.nm 8) (dItems (dVar 1)) dYes (dOp2 opAdd (dVar 8) (dTup (dCons (dVar 3) dNil))))) (dFrz (dLst (dCons (dOp1 opTuple (dFrz (dComp [7] (.nm 7) (dRng (dOp2 opAdd (dVar 3) (dC (.int 1)))) dYes (dVar 3)))) dNil)))))) sPass) (sSeq (sIf (dAnd (dTst (dOp2 opEq (dVar 4) (dC (.int 2)))) (dTst (dOp2 opLt (dVar 3) (dVar 2)))) (sRet (dFrz (dN2 nAdd (dFrz (dComp [6] (.nm 6) (dRng (dVar 3)) dYes (dOp2 opAdd (dOp2n opIx 1 (dVar 6)) (dTup (dCons (dVar 6) dNil))))) (dFrz (dLst (dCons (dTupRg (dRg1 (dOp2 opAdd (dVar 3) (dC (.int 1))))) dNil)))))) sPass) (sSeq (sIf (dAnd (dTst (dOp2 opEq (dVar 4) (dC (.int 3)))) (dTst (dOp2 opLe (dOp2 opMul (dC (.int 2)) (dVar 3)) (dVar 2)))) (sSeq (sOwn 5 (dLst (dCons (dTup (dCons (dC (.int 0)) (dCons (dC (.int 0)) dNil))) (dCons (dTup (dCons (dC (.int 0)) (dCons (dC (.int 1)) dNil))) dNil)))) (sSeq (sIf (dTst (dOp2 opEq (dCallR d__law_take 0 (dCons (dC (.int 2)) dNil)) (dC (.int 0)))) (sOwn 5 (dLst (dCons (dTup (dCons (dC (.int 0)) (dCons (dC (.int 1)) dNil))) (dCons (dTup (dCons (dC (.int 1)) (dCons (dC (.int 0)) dNil))) dNil)))) sPass) (sRet (dFrz (dComp [6] (.nm 6) (dRng (dOp2 opMul (dC (.int 2)) (dVar 3))) dYes (dOp1 opTuple (dFrz (dComp [7] (.nm 7) (dRng (dOp2 opMul (dC (.int 2)) (dVar 3))) dYes (dOp2 opAdd (dOp2 opMul (dC (.int 2)) (dOp2 opIx (dOp2n opIx 1 (dOp2 opDiv (dVar 6) (dC (.int 2)))) (dOp2 opDiv (dVar 7) (dC (.int 2))))) (dOp2 opIx (dOp2n opIx 5 (dOp2 opMod (dOp1n opInt 6) (dC (.int 2)))) (dOp2 opMod (dOp1n opInt 7) (dC (.int 2))))))))))))) sPass) (sRet (dVar 1)))))))) [.rf 0 (List.map eI state_here), .sh ((eL (eT eI)) table), .sh (eI most), .no, .no, .no, .no, .no, .no] (P__law_extended state_here table most) (Kby (eL (eT eI)) eI) from
  (rs_bindP (rv_dOp1n (rv_bind (rv_rd rfl) (rv_lift op_lenL))) (rs_put (st1 := [.rf 0 (List.map eI state_here), .sh ((eL (eT eI)) table), .sh (eI most), .sh (eI (table.length : Int)), .no, .no, .no, .no, .no]) rfl (rs_bindS (fun (r3 : List Int) => [.rf 0 (List.map eI r3), .sh ((eL (eT eI)) table), .sh (eI most), .sh (eI (table.length : Int)), .no, .no, .no, .no, .no]) (rt_dCallR (rt_bindP (rv_owR rfl) (rt_consP rv_ret (rt_nil (rt_callR (S := fun r1 => [.rf 0 (List.map eI r1), .sh ((eL (eT eI)) table), .sh (eI most), .sh (eI (table.length : Int)), .no, .no, .no, .no, .no]) rfl (fun _ => rfl) (S__law_take state_here 6)))))) fun c2 => (rs_put (st1 := [.rf 0 (List.map eI c2.2), .sh ((eL (eT eI)) table), .sh (eI most), .sh (eI (table.length : Int)), .sh (eI c2.1), .no, .no, .no, .no]) rfl (rs_bindP (rv_tst (rv_dOp2 (rv_bind (rv_var rfl) (rv_bind rv_ret (rv_lift (eq_py pyI (x := c2.1) (y := 0))))))) (rs_ite (fun _ => (rs_bindG (re_frzN (re_bindG (re_dRng (re_bindP (rv_var rfl) (re_lift op_rng))) fun c4 => (re_compM (e := eI) (f := fun (x5 : Int) => M.bind (pRng (table.length : Int)) fun c6 => pMap (fun (x7 : Int) => M.bind (pAt table x7) fun c8 => pAt c8 x5) c6) ([.rf 0 (List.map eI c2.2), .sh ((eL (eT eI)) table), .sh (eI most), .sh (eI (table.length : Int)), .sh (eI c2.1), .no, .no, .no, .no]) rfl rfl rfl (fun x5 => ⟨[.rf 0 (List.map eI c2.2), .sh ((eL (eT eI)) table), .sh (eI most), .sh (eI (table.length : Int)), .sh (eI c2.1), .no, .sh (eI x5), .no, .no], [.rf 0 (List.map eI c2.2), .sh ((eL (eT eI)) table), .sh (eI most), .sh (eI (table.length : Int)), .sh (eI c2.1), .no, .sh (eI x5), .no, .no], rfl, (re_dOp1 (re_tail (w := (eT eI)) (re_frzN (re_bindG (re_dRng (re_bindP (rv_var rfl) (re_lift op_rng))) fun c6 => (re_compM (e := eI) (f := fun (x7 : Int) => M.bind (pAt table x7) fun c8 => pAt c8 x5) ([.rf 0 (List.map eI c2.2), .sh ((eL (eT eI)) table), .sh (eI most), .sh (eI (table.length : Int)), .sh (eI c2.1), .no, .sh (eI x5), .no, .no]) rfl rfl rfl (fun x7 => ⟨[.rf 0 (List.map eI c2.2), .sh ((eL (eT eI)) table), .sh (eI most), .sh (eI (table.length : Int)), .sh (eI c2.1), .no, .sh (eI x5), .sh (eI x7), .no], [.rf 0 (List.map eI c2.2), .sh ((eL (eT eI)) table), .sh (eI most), .sh (eI (table.length : Int)), .sh (eI c2.1), .no, .sh (eI x5), .sh (eI x7), .no], rfl, (re_dOp2 (re_bindG (re_dOp2n (re_bindP (rv_rd rfl) (re_bindP (rv_var rfl) (re_bindP (rv_rd rfl) (re_lift op_atL))))) fun c8 => (re_bindP (rv_var rfl) (re_lift op_atT)))), rfl, rfl⟩)))) fun c9 => (rv_lift (y := ((eT eI) c9)) rfl))), rfl, rfl⟩)))) fun c10 => (rs_ret ⟨.inl rfl, _, rfl⟩))) (fun _ => (rs_nx (rs_bindP (rv_dAnd (rv_bind (rv_tst (rv_dOp2 (rv_bind (rv_var rfl) (rv_bind rv_ret (rv_lift (eq_py pyI (x := c2.1) (y := 1))))))) (rv_and fun _ => (rv_tst (rv_dOp2 (rv_bind (rv_var rfl) (rv_bind (rv_var rfl) (rv_lift (y := (eB (decide ((table.length : Int) < most)))) rfl)))))))) (rs_ite (fun _ => (rs_bindG (re_frzN (re_dN2 (re_bindG (re_frzN (re_bindP (rv_dItems (rv_bind (rv_var rfl) (rv_lift (y := ((List.map (eT eI)) table)) rfl))) (re_compM (e := (eT eI)) (f := fun (x11 : (List Int)) => pCat x11 [(table.length : Int)]) ([.rf 0 (List.map eI c2.2), .sh ((eL (eT eI)) table), .sh (eI most), .sh (eI (table.length : Int)), .sh (eI c2.1), .no, .no, .no, .no]) rfl rfl rfl (fun x11 => ⟨[.rf 0 (List.map eI c2.2), .sh ((eL (eT eI)) table), .sh (eI most), .sh (eI (table.length : Int)), .sh (eI c2.1), .no, .no, .no, .sh ((eT eI) x11)], [.rf 0 (List.map eI c2.2), .sh ((eL (eT eI)) table), .sh (eI most), .sh (eI (table.length : Int)), .sh (eI c2.1), .no, .no, .no, .sh ((eT eI) x11)], rfl, (re_dOp2 (re_bindP (rv_var rfl) (re_bindP (rv_dTup (rv_cons (rv_var rfl) (rv_nil (rv_lift (y := ((eT eI) [(table.length : Int)])) (op_tup (by exact Nat.le_of_ble_eq_true rfl) rfl))))) (re_lift (op_catT (e := eI) (xs := x11) (ys := [(table.length : Int)])))))), rfl, rfl⟩)))) fun c12 => (re_bindG (re_frzN (re_dLst (re_consG (re_dOp1 (re_tail (w := (eT eI)) (re_frzN (re_bindG (re_dRng (re_bindP (rv_dOp2 (rv_bind (rv_var rfl) (rv_bind rv_ret (rv_lift (y := (eI ((table.length : Int) + 1))) rfl)))) (re_lift op_rng))) fun c13 => (re_compM (e := eI) (f := fun (x14 : Int) => .ok (table.length : Int)) ([.rf 0 (List.map eI c2.2), .sh ((eL (eT eI)) table), .sh (eI most), .sh (eI (table.length : Int)), .sh (eI c2.1), .no, .no, .no, .no]) rfl rfl rfl (fun x14 => ⟨[.rf 0 (List.map eI c2.2), .sh ((eL (eT eI)) table), .sh (eI most), .sh (eI (table.length : Int)), .sh (eI c2.1), .no, .no, .sh (eI x14), .no], [.rf 0 (List.map eI c2.2), .sh ((eL (eT eI)) table), .sh (eI most), .sh (eI (table.length : Int)), .sh (eI c2.1), .no, .no, .sh (eI x14), .no], rfl, (re_rv (w := eI) (rv_var rfl)), rfl, rfl⟩)))) fun c15 => (rv_lift (y := ((eT eI) c15)) rfl))) fun c16 => (re_nil (re_rv (w := (List.map (eT eI))) (rv_lift (y := ((List.map (eT eI)) [c16])) (op_lst (by exact Nat.le_of_ble_eq_true rfl) rfl))))))) fun c17 => (re_lift (op_nCat (e := (eT eI)) (xs := c12) (ys := c17))))))) fun c18 => (rs_ret ⟨.inl rfl, _, rfl⟩))) (fun _ => (rs_nx (rs_bindP (rv_dAnd (rv_bind (rv_tst (rv_dOp2 (rv_bind (rv_var rfl) (rv_bind rv_ret (rv_lift (eq_py pyI (x := c2.1) (y := 2))))))) (rv_and fun _ => (rv_tst (rv_dOp2 (rv_bind (rv_var rfl) (rv_bind (rv_var rfl) (rv_lift (y := (eB (decide ((table.length : Int) < most)))) rfl)))))))) (rs_ite (fun _ => (rs_bindG (re_frzN (re_dN2 (re_bindG (re_frzN (re_bindG (re_dRng (re_bindP (rv_var rfl) (re_lift op_rng))) fun c19 => (re_compM (e := eI) (f := fun (x20 : Int) => M.bind (pAt table x20) fun c21 => pCat c21 [x20]) ([.rf 0 (List.map eI c2.2), .sh ((eL (eT eI)) table), .sh (eI most), .sh (eI (table.length : Int)), .sh (eI c2.1), .no, .no, .no, .no]) rfl rfl rfl (fun x20 => ⟨[.rf 0 (List.map eI c2.2), .sh ((eL (eT eI)) table), .sh (eI most), .sh (eI (table.length : Int)), .sh (eI c2.1), .no, .sh (eI x20), .no, .no], [.rf 0 (List.map eI c2.2), .sh ((eL (eT eI)) table), .sh (eI most), .sh (eI (table.length : Int)), .sh (eI c2.1), .no, .sh (eI x20), .no, .no], rfl, (re_dOp2 (re_bindG (re_dOp2n (re_bindP (rv_rd rfl) (re_bindP (rv_var rfl) (re_bindP (rv_rd rfl) (re_lift op_atL))))) fun c21 => (re_bindP (rv_dTup (rv_cons (rv_var rfl) (rv_nil (rv_lift (y := ((eT eI) [x20])) (op_tup (by exact Nat.le_of_ble_eq_true rfl) rfl))))) (re_lift (op_catT (e := eI) (xs := c21) (ys := [x20])))))), rfl, rfl⟩)))) fun c22 => (re_bindG (re_frzN (re_dLst (re_consG (re_trgP (rv_dOp2 (rv_bind (rv_var rfl) (rv_bind rv_ret (rv_lift (y := (eI ((table.length : Int) + 1))) rfl))))) fun c23 => (re_nil (re_rv (w := (List.map (eT eI))) (rv_lift (y := ((List.map (eT eI)) [c23])) (op_lst (by exact Nat.le_of_ble_eq_true rfl) rfl))))))) fun c24 => (re_lift (op_nCat (e := (eT eI)) (xs := c22) (ys := c24))))))) fun c25 => (rs_ret ⟨.inl rfl, _, rfl⟩))) (fun _ => (rs_nx (rs_bindG (re_dAnd (re_bindP (rv_tst (rv_dOp2 (rv_bind (rv_var rfl) (rv_bind rv_ret (rv_lift (eq_py pyI (x := c2.1) (y := 3))))))) (re_ite (fun _ => (re_tst (re_dOp2 (re_bindG (re_dOp2 (re_bindP rv_ret (re_bindP (rv_var rfl) (re_lift op_mul)))) fun c26 => (re_bindP (rv_var rfl) (re_rv (w := eB) (rv_lift (y := (eB (decide (c26 ≤ most)))) rfl))))))) (fun _ => re_rv rv_ret)))) fun c27 => (rs_ite (fun _ => (rs_seq (rs_bindP (rv_dLst (rv_cons (rv_dTup (rv_cons rv_ret (rv_cons rv_ret (rv_nil (rv_lift (y := ((eP2 eI eI) (0, 0))) (op_tup (by exact Nat.le_of_ble_eq_true rfl) rfl)))))) (rv_cons (rv_dTup (rv_cons rv_ret (rv_cons rv_ret (rv_nil (rv_lift (y := ((eP2 eI eI) (0, 1))) (op_tup (by exact Nat.le_of_ble_eq_true rfl) rfl)))))) (rv_nil (rv_lift (y := ((List.map (eP2 eI eI)) [(0, 0), (0, 1)])) (op_lst (by exact Nat.le_of_ble_eq_true rfl) rfl)))))) (rs_put (st1 := [.rf 0 (List.map eI c2.2), .sh ((eL (eT eI)) table), .sh (eI most), .sh (eI (table.length : Int)), .sh (eI c2.1), .ow (List.map (eP2 eI eI) [(0, 0), (0, 1)]), .no, .no, .no]) rfl (rs_seq (rs_bindS (fun (r31 : List Int) => [.rf 0 (List.map eI r31), .sh ((eL (eT eI)) table), .sh (eI most), .sh (eI (table.length : Int)), .sh (eI c2.1), .ow (List.map (eP2 eI eI) [(0, 0), (0, 1)]), .no, .no, .no]) (rt_tst (rt_dOp2 (rt_bindS (rt_dCallR (rt_bindP (rv_owR rfl) (rt_consP rv_ret (rt_nil (rt_callR (S := fun r28 => [.rf 0 (List.map eI r28), .sh ((eL (eT eI)) table), .sh (eI most), .sh (eI (table.length : Int)), .sh (eI c2.1), .ow (List.map (eP2 eI eI) [(0, 0), (0, 1)]), .no, .no, .no]) rfl (fun _ => rfl) (S__law_take c2.2 2)))))) fun c29 => (rt_bindP rv_ret (rt_rv (v := eB) (rv_lift (eq_py pyI (x := c29.1) (y := 0)))))))) fun c30 => (rs_join (I := (fun (a56 : (List (Int × Int))) (st : DSt) => st = [.rf 0 (List.map eI c30.2), .sh ((eL (eT eI)) table), .sh (eI most), .sh (eI (table.length : Int)), .sh (eI c2.1), .ow (List.map (eP2 eI eI) a56), .no, .no, .no])) (rs_iteN (fun _ => (rs_last (rs_bindP (rv_dLst (rv_cons (rv_dTup (rv_cons rv_ret (rv_cons rv_ret (rv_nil (rv_lift (y := ((eP2 eI eI) (0, 1))) (op_tup (by exact Nat.le_of_ble_eq_true rfl) rfl)))))) (rv_cons (rv_dTup (rv_cons rv_ret (rv_cons rv_ret (rv_nil (rv_lift (y := ((eP2 eI eI) (1, 0))) (op_tup (by exact Nat.le_of_ble_eq_true rfl) rfl)))))) (rv_nil (rv_lift (y := ((List.map (eP2 eI eI)) [(0, 1), (1, 0)])) (op_lst (by exact Nat.le_of_ble_eq_true rfl) rfl)))))) (rs_put (st1 := [.rf 0 (List.map eI c30.2), .sh ((eL (eT eI)) table), .sh (eI most), .sh (eI (table.length : Int)), .sh (eI c2.1), .ow (List.map (eP2 eI eI) [(0, 1), (1, 0)]), .no, .no, .no]) rfl (rs_end ⟨rfl, rfl⟩))))) (fun _ => (rs_end ⟨rfl, rfl⟩))) fun | a32, _, rfl => (rs_bindG (re_frzN (re_bindG (re_dRng (re_bindG (re_dOp2 (re_bindP rv_ret (re_bindP (rv_var rfl) (re_lift op_mul)))) fun c33 => (re_lift op_rng))) fun c34 => (re_compM (e := eI) (f := fun (x35 : Int) => M.bind (M.bind (pMul 2 (table.length : Int)) fun c36 => pRng c36) fun c37 => pMap (fun (x38 : Int) => M.bind (M.bind (M.bind (M.bind (pDiv x35 2) fun c42 => pAt table c42) fun c43 => M.bind (pDiv x38 2) fun c44 => pAt c43 c44) fun c45 => pMul 2 c45) fun c49 => M.bind (M.bind (M.bind (pMod x35 2) fun c50 => pAt a32 c50) fun c51 => M.bind (pMod x38 2) fun c52 => pAt [c51.1, c51.2] c52) fun c53 => .ok (c49 + c53)) c37) ([.rf 0 (List.map eI c30.2), .sh ((eL (eT eI)) table), .sh (eI most), .sh (eI (table.length : Int)), .sh (eI c2.1), .ow (List.map (eP2 eI eI) a32), .no, .no, .no]) rfl rfl rfl (fun x35 => ⟨[.rf 0 (List.map eI c30.2), .sh ((eL (eT eI)) table), .sh (eI most), .sh (eI (table.length : Int)), .sh (eI c2.1), .ow (List.map (eP2 eI eI) a32), .sh (eI x35), .no, .no], [.rf 0 (List.map eI c30.2), .sh ((eL (eT eI)) table), .sh (eI most), .sh (eI (table.length : Int)), .sh (eI c2.1), .ow (List.map (eP2 eI eI) a32), .sh (eI x35), .no, .no], rfl, (re_dOp1 (re_tail (w := (eT eI)) (re_frzN (re_bindG (re_dRng (re_bindG (re_dOp2 (re_bindP rv_ret (re_bindP (rv_var rfl) (re_lift op_mul)))) fun c36 => (re_lift op_rng))) fun c37 => (re_compM (e := eI) (f := fun (x38 : Int) => M.bind (M.bind (M.bind (M.bind (pDiv x35 2) fun c42 => pAt table c42) fun c43 => M.bind (pDiv x38 2) fun c44 => pAt c43 c44) fun c45 => pMul 2 c45) fun c49 => M.bind (M.bind (M.bind (pMod x35 2) fun c50 => pAt a32 c50) fun c51 => M.bind (pMod x38 2) fun c52 => pAt [c51.1, c51.2] c52) fun c53 => .ok (c49 + c53)) ([.rf 0 (List.map eI c30.2), .sh ((eL (eT eI)) table), .sh (eI most), .sh (eI (table.length : Int)), .sh (eI c2.1), .ow (List.map (eP2 eI eI) a32), .sh (eI x35), .no, .no]) rfl rfl rfl (fun x38 => ⟨[.rf 0 (List.map eI c30.2), .sh ((eL (eT eI)) table), .sh (eI most), .sh (eI (table.length : Int)), .sh (eI c2.1), .ow (List.map (eP2 eI eI) a32), .sh (eI x35), .sh (eI x38), .no], [.rf 0 (List.map eI c30.2), .sh ((eL (eT eI)) table), .sh (eI most), .sh (eI (table.length : Int)), .sh (eI c2.1), .ow (List.map (eP2 eI eI) a32), .sh (eI x35), .sh (eI x38), .no], rfl, (re_dOp2 (re_bindG (re_dOp2 (re_bindP rv_ret (re_bindG (re_dOp2 (re_bindG (re_dOp2n (re_bindP (rv_rd rfl) (re_bindG (re_dOp2 (re_bindP (rv_var rfl) (re_bindP rv_ret (re_lift op_div)))) fun c42 => (re_bindP (rv_rd rfl) (re_lift op_atL))))) fun c43 => (re_bindG (re_dOp2 (re_bindP (rv_var rfl) (re_bindP rv_ret (re_lift op_div)))) fun c44 => (re_lift op_atT)))) fun c45 => (re_lift op_mul)))) fun c49 => (re_bindG (re_dOp2 (re_bindG (re_dOp2n (re_bindP (rv_rdO rfl) (re_bindG (re_dOp2 (re_bindP (rv_dOp1n (rv_bind (rv_rd rfl) (rv_lift (y := (eI x35)) rfl))) (re_bindP rv_ret (re_lift op_mod)))) fun c50 => (re_bindP (rv_rdO rfl) (re_lift op_atL))))) fun c51 => (re_bindG (re_dOp2 (re_bindP (rv_dOp1n (rv_bind (rv_rd rfl) (rv_lift (y := (eI x38)) rfl))) (re_bindP rv_ret (re_lift op_mod)))) fun c52 => (re_lift (op_atT (e := eI) (xs := [c51.1, c51.2])))))) fun c53 => (re_rv (w := eI) (rv_lift (y := (eI (c49 + c53))) rfl))))), rfl, rfl⟩)))) fun c54 => (rv_lift (y := ((eT eI) c54)) rfl))), rfl, rfl⟩)))) fun c55 => (rs_ret ⟨.inl rfl, _, rfl⟩))))))))) (fun _ => (rs_nx (rs_last (rs_bindP (rv_var rfl) (rs_ret ⟨.inl rfl, _, rfl⟩))))))))))))))))))))))))
def P__law_order_of (state_here : (List Int)) (n : Int) : M ((List Int) × (List Int)) := M.bind (pRng n) fun c1 => M.bind (pRng n) fun c2 => M.bind (pfold (fun (x19 : Int) (a20 : ((List Int) × (List Int) × (List Int))) => M.bind (P__law_take a20.1 (a20.2.1.length : Int)) fun c23 => M.bind (pPopAt a20.2.1 c23.1) fun c24 => M.bind (pApp a20.2.2 c24.1) fun c25 => .ok (c23.2, c24.2, c25)) c2 (state_here, c1, [])) fun (a27 : ((List Int) × (List Int) × (List Int))) => .ok (a27.2.2, a27.1)
theorem S__law_order_of (state_here : (List Int)) (n : Int) : DR (d__law_order_of (List.map eI state_here) [eI n]) (P__law_order_of state_here n) (eL eI) eI := fn_R rfl (show RS false (sSeq (sOwn 2 (dLstRg (dRg1 (dVar 1)))) (sSeq (sOwn 3 (dLst dNil)) (sSeq (sFor (.nm 4) (dRng (dVar 1)) (sExpr (dAppend 3 (dPopAt 2 (dCallR d__law_take 0 (dCons (dOp1n opLen 2) dNil)))))) (sRet (dVar 3))))) [.rf 0 (List.map eI state_here), .sh (eI n), .no, .no, .no] (P__law_order_of state_here n) (Kby (eL eI) eI) from
  (rs_bindG (re_lrgP (rv_var rfl)) fun c1 => (rs_put (st1 := [.rf 0 (List.map eI state_here), .sh (eI n), .ow (List.map eI c1), .no, .no]) rfl (rs_bindP (rv_dLst (rv_nil (rv_lift (y := ((List.map eI) [])) (op_lst (by exact Nat.le_of_ble_eq_true rfl) rfl)))) (rs_put (st1 := [.rf 0 (List.map eI state_here), .sh (eI n), .ow (List.map eI c1), .ow (List.map eI []), .no]) rfl (rs_bindG (re_dRng (re_bindP (rv_var rfl) (re_lift op_rng))) fun c2 => (rs_for0 (e := eI) (xs := c2) (a := (state_here, c1, [])) (f := fun (x19 : Int) (a20 : ((List Int) × (List Int) × (List Int))) => M.bind (P__law_take a20.1 (a20.2.1.length : Int)) fun c23 => M.bind (pPopAt a20.2.1 c23.1) fun c24 => M.bind (pApp a20.2.2 c24.1) fun c25 => .ok (c23.2, c24.2, c25)) (fun (a29 : ((List Int) × (List Int) × (List Int))) (st : DSt) => ∃ (j30 : (Option D)), st = [.rf 0 (List.map eI a29.1), .sh (eI n), .ow (List.map eI a29.2.1), .ow (List.map eI a29.2.2), jk j30]) ⟨none, rfl⟩ (fun | x19, a20, _, ⟨j21, rfl⟩ => ⟨[.rf 0 (List.map eI a20.1), .sh (eI n), .ow (List.map eI a20.2.1), .ow (List.map eI a20.2.2), .sh (eI x19)], rfl, (rs_last (rs_appPop (e := eI) (xs := a20.2.1) (ys := a20.2.2) (fun (r26 : List Int) => [.rf 0 (List.map eI r26), .sh (eI n), .ow (List.map eI a20.2.1), .ow (List.map eI a20.2.2), .sh (eI x19)]) rfl rfl (rt_dCallR (rt_bindP (rv_owR rfl) (rt_consP (rv_dOp1n (rv_bind (rv_rdO rfl) (rv_lift op_lenL))) (rt_nil (rt_callR (S := fun r22 => [.rf 0 (List.map eI r22), .sh (eI n), .ow (List.map eI a20.2.1), .ow (List.map eI a20.2.2), .sh (eI x19)]) rfl (fun _ => rfl) (S__law_take a20.1 (a20.2.1.length : Int))))))) (fun _ => rfl) (fun _ => rfl) (by decide) fun c23 c24 c25 => rs_st ([.rf 0 (List.map eI c23.2), .sh (eI n), .ow (List.map eI c24.2), .ow (List.map eI c25), .sh (eI x19)]) rfl (rs_end ⟨rfl, (some (eI x19)), rfl⟩)))⟩) (fun | a27, _, ⟨j28, rfl⟩ => (rs_last (rs_bindP (rv_frz rfl) (rs_ret ⟨.inl rfl, _, rfl⟩)))))))))))
def P__law_renamed (table : (List (List Int))) (order : (List Int)) : M (List (List Int)) := M.bind (M.bind (pRng (table.length : Int)) fun c1 => pMap (fun (x2 : Int) => M.bind (pRng (table.length : Int)) fun c3 => pMap (fun (x4 : Int) => .ok 0) c3) c1) fun c5 => M.bind (pRng (table.length : Int)) fun c6 => M.bind (pfold (fun (x34 : Int) (a35 : (List (List Int))) => M.bind (pRng (table.length : Int)) fun c38 => M.bind (pfold (fun (x48 : Int) (a49 : (List (List Int))) => M.bind (pNX (M.bind (M.bind (M.bind (pAt table x34) fun c51 => pAt c51 x48) fun c52 => pAt order c52) fun c54 => M.bind (pAt order x34) fun c55 => M.bind (pAt order x48) fun c56 => pSet2 a49 c55 c56 c54)) fun c53 => .ok c53) c38 a35) fun (a57 : (List (List Int))) => .ok a57) c6 c5) fun (a61 : (List (List Int))) => M.bind (pMap (fun (x64 : (List Int)) => .ok x64) a61) fun c65 => .ok c65
theorem S__law_renamed (table : (List (List Int))) (order : (List Int)) : DM (d__law_renamed [(eL (eT eI)) table, (eL eI) order]) (P__law_renamed table order) (eL (eT eI)) := fn_F rfl (show RS true (sSeq (sSet 2 (dOp1n opLen 0)) (sSeq (sOwn2 3 (dComp2 [4] (.nm 4) (dRng (dVar 2)) (dComp [5] (.nm 5) (dRng (dVar 2)) dYes (dC (.int 0))))) (sSeq (sFor (.nm 4) (dRng (dVar 2)) (sFor (.nm 5) (dRng (dVar 2)) (sStore2 3 (dOp2n opIx 1 (dVar 4)) (dOp2n opIx 1 (dVar 5)) (dOp2n opIx 1 (dOp2 opIx (dOp2n opIx 0 (dVar 4)) (dVar 5)))))) (sRet (dFrz (dComp [6] (.nm 6) (dItems (dVar 3)) dYes (dOp1n opTuple 6))))))) [.sh ((eL (eT eI)) table), .sh ((eL eI) order), .no, .no, .no, .no, .no] (P__law_renamed table order) (Kfn (eL (eT eI))) from
  (rs_bindP (rv_dOp1n (rv_bind (rv_rd rfl) (rv_lift op_lenL))) (rs_put (st1 := [.sh ((eL (eT eI)) table), .sh ((eL eI) order), .sh (eI (table.length : Int)), .no, .no, .no, .no]) rfl (rs_bindG (re_bindG (re_dRng (re_bindP (rv_var rfl) (re_lift op_rng))) fun c1 => (re_comp2 (e := eI) (f := fun (x2 : Int) => M.bind (pRng (table.length : Int)) fun c3 => pMap (fun (x4 : Int) => .ok 0) c3) ([.sh ((eL (eT eI)) table), .sh ((eL eI) order), .sh (eI (table.length : Int)), .no, .no, .no, .no]) rfl rfl rfl (fun x2 => ⟨[.sh ((eL (eT eI)) table), .sh ((eL eI) order), .sh (eI (table.length : Int)), .no, .sh (eI x2), .no, .no], [.sh ((eL (eT eI)) table), .sh ((eL eI) order), .sh (eI (table.length : Int)), .no, .sh (eI x2), .no, .no], rfl, (re_bindG (re_dRng (re_bindP (rv_var rfl) (re_lift op_rng))) fun c3 => (re_compM (e := eI) (f := fun (x4 : Int) => .ok 0) ([.sh ((eL (eT eI)) table), .sh ((eL eI) order), .sh (eI (table.length : Int)), .no, .sh (eI x2), .no, .no]) rfl rfl rfl (fun x4 => ⟨[.sh ((eL (eT eI)) table), .sh ((eL eI) order), .sh (eI (table.length : Int)), .no, .sh (eI x2), .sh (eI x4), .no], [.sh ((eL (eT eI)) table), .sh ((eL eI) order), .sh (eI (table.length : Int)), .no, .sh (eI x2), .sh (eI x4), .no], rfl, (re_rv (w := eI) rv_ret), rfl, rfl⟩))), rfl, rfl⟩))) fun c5 => (rs_put2 (st1 := [.sh ((eL (eT eI)) table), .sh ((eL eI) order), .sh (eI (table.length : Int)), .o2 (List.map (List.map eI) c5), .no, .no, .no]) rfl (rs_bindG (re_dRng (re_bindP (rv_var rfl) (re_lift op_rng))) fun c6 => (rs_for0 (e := eI) (xs := c6) (a := c5) (f := fun (x34 : Int) (a35 : (List (List Int))) => M.bind (pRng (table.length : Int)) fun c38 => M.bind (pfold (fun (x48 : Int) (a49 : (List (List Int))) => M.bind (pNX (M.bind (M.bind (M.bind (pAt table x34) fun c51 => pAt c51 x48) fun c52 => pAt order c52) fun c54 => M.bind (pAt order x34) fun c55 => M.bind (pAt order x48) fun c56 => pSet2 a49 c55 c56 c54)) fun c53 => .ok c53) c38 a35) fun (a57 : (List (List Int))) => .ok a57) (fun (a66 : (List (List Int))) (st : DSt) => ∃ (j67 : (Option D)), ∃ (j68 : (Option D)), st = [.sh ((eL (eT eI)) table), .sh ((eL eI) order), .sh (eI (table.length : Int)), .o2 (List.map (List.map eI) a66), jk j67, jk j68, .no]) ⟨none, none, rfl⟩ (fun | x34, a35, _, ⟨j36, j37, rfl⟩ => ⟨[.sh ((eL (eT eI)) table), .sh ((eL eI) order), .sh (eI (table.length : Int)), .o2 (List.map (List.map eI) a35), .sh (eI x34), jk j37, .no], rfl, (rs_last (rs_bindG (re_dRng (re_bindP (rv_var rfl) (re_lift op_rng))) fun c38 => (rs_for0 (e := eI) (xs := c38) (a := a35) (f := fun (x48 : Int) (a49 : (List (List Int))) => M.bind (pNX (M.bind (M.bind (M.bind (pAt table x34) fun c51 => pAt c51 x48) fun c52 => pAt order c52) fun c54 => M.bind (pAt order x34) fun c55 => M.bind (pAt order x48) fun c56 => pSet2 a49 c55 c56 c54)) fun c53 => .ok c53) (fun (a59 : (List (List Int))) (st : DSt) => ∃ (j60 : (Option D)), st = [.sh ((eL (eT eI)) table), .sh ((eL eI) order), .sh (eI (table.length : Int)), .o2 (List.map (List.map eI) a59), .sh (eI x34), jk j60, .no]) ⟨j37, rfl⟩ (fun | x48, a49, _, ⟨j50, rfl⟩ => ⟨[.sh ((eL (eT eI)) table), .sh ((eL eI) order), .sh (eI (table.length : Int)), .o2 (List.map (List.map eI) a49), .sh (eI x34), .sh (eI x48), .no], rfl, (rs_last (rs_x (x_set2G (e := eI) rfl (re_dOp2n (re_bindP (rv_rd rfl) (re_bindG (re_dOp2 (re_bindG (re_dOp2n (re_bindP (rv_rd rfl) (re_bindP (rv_var rfl) (re_bindP (rv_rd rfl) (re_lift op_atL))))) fun c51 => (re_bindP (rv_var rfl) (re_lift op_atT)))) fun c52 => (re_bindP (rv_rd rfl) (re_lift op_atL))))) (re_dOp2n (re_bindP (rv_rd rfl) (re_bindP (rv_var rfl) (re_bindP (rv_rd rfl) (re_lift op_atL))))) (re_dOp2n (re_bindP (rv_rd rfl) (re_bindP (rv_var rfl) (re_bindP (rv_rd rfl) (re_lift op_atL)))))) fun c53 => rs_st ([.sh ((eL (eT eI)) table), .sh ((eL eI) order), .sh (eI (table.length : Int)), .o2 (List.map (List.map eI) c53), .sh (eI x34), .sh (eI x48), .no]) rfl (rs_end ⟨rfl, (some (eI x48)), rfl⟩)))⟩) (fun | a57, _, ⟨j58, rfl⟩ => (rs_end ⟨rfl, (some (eI x34)), j58, rfl⟩)))))⟩) (fun | a61, _, ⟨j62, j63, rfl⟩ => (rs_last (rs_bindG (re_frzN (re_bindP (rv_dItems (rv_bind (rv_frzL (e := eI) (xss := a61) rfl) (rv_lift (y := ((List.map (eL eI)) a61)) rfl))) (re_compM (e := (eL eI)) (f := fun (x64 : (List Int)) => .ok x64) ([.sh ((eL (eT eI)) table), .sh ((eL eI) order), .sh (eI (table.length : Int)), .sh ((eL (eL eI)) a61), jk j62, jk j63, .no]) rfl rfl rfl (fun x64 => ⟨[.sh ((eL (eT eI)) table), .sh ((eL eI) order), .sh (eI (table.length : Int)), .sh ((eL (eL eI)) a61), jk j62, jk j63, .sh ((eL eI) x64)], [.sh ((eL (eT eI)) table), .sh ((eL eI) order), .sh (eI (table.length : Int)), .sh ((eL (eL eI)) a61), jk j62, jk j63, .sh ((eL eI) x64)], rfl, (re_rv (w := (eT eI)) (rv_dOp1n (rv_bind (rv_rd rfl) (rv_lift (y := ((eT eI) x64)) rfl)))), rfl, rfl⟩)))) fun c65 => (rs_ret (.inl rfl))))))))))))
def P__law_semigroup (state_here : (List Int)) (most : Int) : M ((List (List Int)) × (List Int)) := M.bind (M.bind (P__law_plain state_here most) fun c2 => P__law_extended c2.2 c2.1 most) fun c4 => M.bind (M.bind (P__law_order_of c4.2 (c4.1.length : Int)) fun c7 => M.bind (P__law_renamed c4.1 c7.1) fun c8 => .ok (c8, c7.2)) fun c9 => .ok (c9.1, c9.2)
theorem S__law_semigroup (state_here : (List Int)) (most : Int) : DR (d__law_semigroup (List.map eI state_here) [eI most]) (P__law_semigroup state_here most) (eL (eT eI)) eI := fn_R rfl (show RS false (sSeq (sSet 2 (dCallR d__law_extended 0 (dCons (dCallR d__law_plain 0 (dCons (dVar 1) dNil)) (dCons (dVar 1) dNil)))) (sRet (dCall d__law_renamed (dCons (dVar 2) (dCons (dCallR d__law_order_of 0 (dCons (dOp1n opLen 2) dNil)) dNil))))) [.rf 0 (List.map eI state_here), .sh (eI most), .no] (P__law_semigroup state_here most) (Kby (eL (eT eI)) eI) from
  (rs_bindS (fun (r5 : List Int) => [.rf 0 (List.map eI r5), .sh (eI most), .no]) (rt_dCallR (rt_bindP (rv_owR rfl) (rt_consS (rt_dCallR (rt_bindP (rv_owR rfl) (rt_consP (rv_var rfl) (rt_nil (rt_callR (S := fun r1 => [.rf 0 (List.map eI r1), .sh (eI most), .no]) rfl (fun _ => rfl) (S__law_plain state_here most)))))) fun c2 => (rt_consP (rv_var rfl) (rt_nil (rt_callR (S := fun r3 => [.rf 0 (List.map eI r3), .sh (eI most), .no]) rfl (fun _ => rfl) (S__law_extended c2.2 c2.1 most))))))) fun c4 => (rs_put (st1 := [.rf 0 (List.map eI c4.2), .sh (eI most), .sh ((eL (eT eI)) c4.1)]) rfl (rs_last (rs_bindS (fun (r10 : List Int) => [.rf 0 (List.map eI r10), .sh (eI most), .sh ((eL (eT eI)) c4.1)]) (rt_dCall (rt_consP (rv_var rfl) (rt_consS (rt_dCallR (rt_bindP (rv_owR rfl) (rt_consP (rv_dOp1n (rv_bind (rv_rd rfl) (rv_lift op_lenL))) (rt_nil (rt_callR (S := fun r6 => [.rf 0 (List.map eI r6), .sh (eI most), .sh ((eL (eT eI)) c4.1)]) rfl (fun _ => rfl) (S__law_order_of c4.2 (c4.1.length : Int))))))) fun c7 => (rt_nil (rt_re (re_liftM (S__law_renamed c4.1 c7.1))))))) fun c9 => (rs_ret ⟨.inl rfl, _, rfl⟩))))))
def P_is_integer (value : Int) : M Bool := .ok (true && (!false))
theorem S_is_integer (value : Int) : DM (d_is_integer [eI value]) (P_is_integer value) eB := fn_F rfl (show RS true (sRet (dIf (dTst (dOp1 (opIsi "int") (dVar 0))) (dVal (dNot (dTst (dOp1 (opIsi "bool") (dVar 0))))) (dC (.bl false)))) [.sh (eI value)] (P_is_integer value) (Kfn eB) from
  (rs_last (rs_bindP (rv_dIf (rv_bind (rv_tst (rv_dOp1 (rv_bind (rv_var rfl) (rv_lift (y := (eB true)) rfl)))) (rv_andE fun _ => (rv_dVal (rv_bind (rv_dNot (rv_bind (rv_tst (rv_dOp1 (rv_bind (rv_var rfl) (rv_lift (y := (eB false)) rfl)))) rv_ret)) rv_ret))))) (rs_ret (.inl rfl)))))
def P_is_item (value : Int) (n : Int) : M Bool := M.bind (M.bind (P_is_integer value) fun c1 => .ok (c1 && ((decide (0 ≤ value)) && (decide (value < n))))) fun c2 => .ok c2
theorem S_is_item (value : Int) (n : Int) : DM (d_is_item [eI value, eI n]) (P_is_item value n) eB := fn_F rfl (show RS true (sRet (dIf (dTst (dCall d_is_integer (dCons (dVar 0) dNil))) (dChain opLe opLt (dC (.int 0)) (dVar 0) (dVar 1)) (dC (.bl false)))) [.sh (eI value), .sh (eI n)] (P_is_item value n) (Kfn eB) from
  (rs_last (rs_bindG (re_dIf (re_bindG (re_tst (re_dCall (re_consP (rv_var rfl) (re_nil (re_liftM (S_is_integer value)))))) fun c1 => (re_rv (w := eB) (rv_andE fun _ => (rv_dChain (rv_bind rv_ret (rv_bind (rv_var rfl) (rv_chain rfl (rv_var rfl) rfl)))))))) fun c2 => (rs_ret (.inl rfl)))))
def P_taken_table (table : (List (List Int))) : M (List (List Int)) := if ((!true) || (decide ((table.length : Int) = 0))) = true then .exn "Malformed" [] else M.bind (pfold (fun (x39 : (List Int)) (a40 : (List (List Int))) => if ((!true) || (!decide ((x39.length : Int) = (table.length : Int)))) = true then .exn "Malformed" [] else M.bind (pfold (fun (x48 : Int) (a49 : Unit) => M.bind (M.bind (P_is_item x48 (table.length : Int)) fun c51 => .ok (!c51)) fun c52 => if c52 = true then .exn "Malformed" [] else .ok ()) x39 ()) fun (a53 : Unit) => M.bind (pApp a40 x39) fun c55 => .ok c55) table []) fun (a58 : (List (List Int))) => .ok a58
theorem S_taken_table (table : (List (List Int))) : DM (d_taken_table [(eL (eT eI)) table]) (P_taken_table table) (eT (eT eI)) := fn_F rfl (show RS true (sSeq (sIf (dOr (dNot (dTst (dOp1 (opIsi2 "list" "tuple") (dVar 0)))) (dTst (dOp2 opEq (dOp1n opLen 0) (dC (.int 0))))) (sRaise0 "Malformed") sPass) (sSeq (sOwn 1 (dLst dNil)) (sSeq (sFor (.nm 2) (dItems (dVar 0)) (sSeq (sIf (dOr (dNot (dTst (dOp1 (opIsi2 "list" "tuple") (dVar 2)))) (dTst (dOp2 opNe (dOp1n opLen 2) (dOp1n opLen 0)))) (sRaise0 "Malformed") sPass) (sSeq (sFor (.nm 3) (dItems (dVar 2)) (sIf (dNot (dTst (dCall d_is_item (dCons (dVar 3) (dCons (dOp1n opLen 0) dNil))))) (sRaise0 "Malformed") sPass)) (sExpr (dAppend 1 (dOp1n opTuple 2)))))) (sRet (dOp1n opTuple 1))))) [.sh ((eL (eT eI)) table), .no, .no, .no] (P_taken_table table) (Kfn (eT (eT eI))) from
  (rs_bindP (rv_dOr (rv_bind (rv_dNot (rv_bind (rv_tst (rv_dOp1 (rv_bind (rv_var rfl) (rv_lift (y := (eB true)) rfl)))) rv_ret)) (rv_or fun _ => (rv_tst (rv_dOp2 (rv_bind (rv_dOp1n (rv_bind (rv_rd rfl) (rv_lift op_lenL))) (rv_bind rv_ret (rv_lift (eq_py pyI (x := (table.length : Int)) (y := 0)))))))))) (rs_ite (fun _ => rs_raise0) (fun _ => (rs_nx (rs_bindP (rv_dLst (rv_nil (rv_lift (y := ((List.map eI) [])) (op_lst (by exact Nat.le_of_ble_eq_true rfl) rfl)))) (rs_put (st1 := [.sh ((eL (eT eI)) table), .ow (List.map eI []), .no, .no]) rfl (rs_bindP (rv_dItems (rv_bind (rv_var rfl) (rv_lift (y := ((List.map (eT eI)) table)) rfl))) (rs_for0 (e := (eT eI)) (xs := table) (a := []) (f := fun (x39 : (List Int)) (a40 : (List (List Int))) => if ((!true) || (!decide ((x39.length : Int) = (table.length : Int)))) = true then .exn "Malformed" [] else M.bind (pfold (fun (x48 : Int) (a49 : Unit) => M.bind (M.bind (P_is_item x48 (table.length : Int)) fun c51 => .ok (!c51)) fun c52 => if c52 = true then .exn "Malformed" [] else .ok ()) x39 ()) fun (a53 : Unit) => M.bind (pApp a40 x39) fun c55 => .ok c55) (fun (a61 : (List (List Int))) (st : DSt) => ∃ (j62 : (Option D)), ∃ (j63 : (Option D)), st = [.sh ((eL (eT eI)) table), .ow (List.map (eT eI) a61), jk j62, jk j63]) ⟨none, none, rfl⟩ (fun | x39, a40, _, ⟨j41, j42, rfl⟩ => ⟨[.sh ((eL (eT eI)) table), .ow (List.map (eT eI) a40), .sh ((eT eI) x39), jk j42], rfl, (rs_bindP (rv_dOr (rv_bind (rv_dNot (rv_bind (rv_tst (rv_dOp1 (rv_bind (rv_var rfl) (rv_lift (y := (eB true)) rfl)))) rv_ret)) (rv_or fun _ => (rv_tst (rv_dOp2 (rv_bind (rv_dOp1n (rv_bind (rv_rd rfl) (rv_lift op_lenT))) (rv_bind (rv_dOp1n (rv_bind (rv_rd rfl) (rv_lift op_lenL))) (rv_lift (ne_py pyI (x := (x39.length : Int)) (y := (table.length : Int))))))))))) (rs_ite (fun _ => rs_raise0) (fun _ => (rs_nx (rs_bindP (rv_dItems (rv_bind (rv_var rfl) (rv_lift (y := ((List.map eI) x39)) rfl))) (rs_for0 (e := eI) (xs := x39) (a := ()) (f := fun (x48 : Int) (a49 : Unit) => M.bind (M.bind (P_is_item x48 (table.length : Int)) fun c51 => .ok (!c51)) fun c52 => if c52 = true then .exn "Malformed" [] else .ok ()) (fun (a56 : Unit) (st : DSt) => ∃ (j57 : (Option D)), st = [.sh ((eL (eT eI)) table), .ow (List.map (eT eI) a40), .sh ((eT eI) x39), jk j57]) ⟨j42, rfl⟩ (fun | x48, a49, _, ⟨j50, rfl⟩ => ⟨[.sh ((eL (eT eI)) table), .ow (List.map (eT eI) a40), .sh ((eT eI) x39), .sh (eI x48)], rfl, (rs_last (rs_bindG (re_dNot (re_bindG (re_tst (re_dCall (re_consP (rv_var rfl) (re_consP (rv_dOp1n (rv_bind (rv_rd rfl) (rv_lift op_lenL))) (re_nil (re_liftM (S_is_item x48 (table.length : Int)))))))) fun c51 => (re_rv (w := (fun b : Bool => b)) rv_ret))) fun c52 => (rs_ite (fun _ => rs_raise0) (fun _ => (rs_nx (rs_end ⟨rfl, (some (eI x48)), rfl⟩))))))⟩) (fun | a53, _, ⟨j54, rfl⟩ => (rs_last (rs_x (x_appP (e := (eT eI)) (xs := a40) rfl (rv_dOp1n (rv_bind (rv_rd rfl) (rv_lift (y := ((eT eI) x39)) rfl))) rfl) fun c55 => rs_st ([.sh ((eL (eT eI)) table), .ow (List.map (eT eI) c55), .sh ((eT eI) x39), jk j54]) rfl (rs_end ⟨rfl, (some ((eT eI) x39)), j54, rfl⟩))))))))))⟩) (fun | a58, _, ⟨j59, j60, rfl⟩ => (rs_last (rs_bindP (rv_dOp1n (rv_bind (rv_rdO rfl) (rv_lift (y := ((eT (eT eI)) a58)) rfl))) (rs_ret (.inl rfl))))))))))))))
def P_is_associative (table : (List (List Int))) : M Bool := M.bind (pfor (fun (x42 : (List Int)) (a43 : Unit) => M.bind (pRng (table.length : Int)) fun c46 => M.bind (pfor (fun (x63 : Int) (a64 : Unit) => M.bind (M.bind (M.bind (pRng (table.length : Int)) fun c66 => pMap (fun (x67 : Int) => M.bind (M.bind (pAt x42 x63) fun c68 => pAt table c68) fun c69 => pAt c69 x67) c66) fun c73 => M.bind (M.bind (pAt table x63) fun c75 => pMap (fun (x76 : Int) => pAt x42 x76) c75) fun c77 => .ok (!decide (c73 = c77))) fun c78 => if c78 = true then .ok (.ret false) else .ok (.nx ())) c46 ()) fun r => pK r (fun (a79 : Unit) => .ok (.nx ())) F.ret) table ()) fun r => pK r (fun (a83 : Unit) => .ok true) (fun q => q)
theorem S_is_associative (table : (List (List Int))) : DM (d_is_associative [(eT (eT eI)) table]) (P_is_associative table) eB := fn_F rfl (show RS true (sSeq (sFor (.nm 1) (dItems (dVar 0)) (sFor (.nm 2) (dRng (dOp1n opLen 0)) (sIf (dTst (dOp2 opNe (dFrz (dComp [3] (.nm 3) (dRng (dOp1n opLen 0)) dYes (dOp2 opIx (dOp2n opIx 0 (dOp2n opIx 1 (dVar 2))) (dVar 3)))) (dFrz (dComp [4] (.nm 4) (dItems (dOp2n opIx 0 (dVar 2))) dYes (dOp2n opIx 1 (dVar 4)))))) (sRet (dC (.bl false))) sPass))) (sRet (dC (.bl true)))) [.sh ((eT (eT eI)) table), .no, .no, .no, .no] (P_is_associative table) (Kfn eB) from
  (rs_bindP (rv_dItems (rv_bind (rv_var rfl) (rv_lift (y := ((List.map (eT eI)) table)) rfl))) (rs_for1 (e := (eT eI)) (xs := table) (a := ()) (f := fun (x42 : (List Int)) (a43 : Unit) => M.bind (pRng (table.length : Int)) fun c46 => M.bind (pfor (fun (x63 : Int) (a64 : Unit) => M.bind (M.bind (M.bind (pRng (table.length : Int)) fun c66 => pMap (fun (x67 : Int) => M.bind (M.bind (pAt x42 x63) fun c68 => pAt table c68) fun c69 => pAt c69 x67) c66) fun c73 => M.bind (M.bind (pAt table x63) fun c75 => pMap (fun (x76 : Int) => pAt x42 x76) c75) fun c77 => .ok (!decide (c73 = c77))) fun c78 => if c78 = true then .ok (.ret false) else .ok (.nx ())) c46 ()) fun r => pK r (fun (a79 : Unit) => .ok (.nx ())) F.ret) (h := (fun q => q)) (fun (a86 : Unit) (st : DSt) => ∃ (j87 : (Option D)), ∃ (j88 : (Option D)), st = [.sh ((eT (eT eI)) table), jk j87, jk j88, .no, .no]) ⟨none, none, rfl⟩ (fun | x42, a43, _, ⟨j44, j45, rfl⟩ => ⟨[.sh ((eT (eT eI)) table), .sh ((eT eI) x42), jk j45, .no, .no], rfl, (rs_last (rs_bindG (re_dRng (re_bindP (rv_dOp1n (rv_bind (rv_rd rfl) (rv_lift op_lenT))) (re_lift op_rng))) fun c46 => (rs_for1 (e := eI) (xs := c46) (a := ()) (f := fun (x63 : Int) (a64 : Unit) => M.bind (M.bind (M.bind (pRng (table.length : Int)) fun c66 => pMap (fun (x67 : Int) => M.bind (M.bind (pAt x42 x63) fun c68 => pAt table c68) fun c69 => pAt c69 x67) c66) fun c73 => M.bind (M.bind (pAt table x63) fun c75 => pMap (fun (x76 : Int) => pAt x42 x76) c75) fun c77 => .ok (!decide (c73 = c77))) fun c78 => if c78 = true then .ok (.ret false) else .ok (.nx ())) (h := F.ret) (fun (a81 : Unit) (st : DSt) => ∃ (j82 : (Option D)), st = [.sh ((eT (eT eI)) table), .sh ((eT eI) x42), jk j82, .no, .no]) ⟨j45, rfl⟩ (fun | x63, a64, _, ⟨j65, rfl⟩ => ⟨[.sh ((eT (eT eI)) table), .sh ((eT eI) x42), .sh (eI x63), .no, .no], rfl, (rs_last (rs_bindG (re_tst (re_dOp2 (re_bindG (re_frzN (re_bindG (re_dRng (re_bindP (rv_dOp1n (rv_bind (rv_rd rfl) (rv_lift op_lenT))) (re_lift op_rng))) fun c66 => (re_compM (e := eI) (f := fun (x67 : Int) => M.bind (M.bind (pAt x42 x63) fun c68 => pAt table c68) fun c69 => pAt c69 x67) ([.sh ((eT (eT eI)) table), .sh ((eT eI) x42), .sh (eI x63), .no, .no]) rfl rfl rfl (fun x67 => ⟨[.sh ((eT (eT eI)) table), .sh ((eT eI) x42), .sh (eI x63), .sh (eI x67), .no], [.sh ((eT (eT eI)) table), .sh ((eT eI) x42), .sh (eI x63), .sh (eI x67), .no], rfl, (re_dOp2 (re_bindG (re_dOp2n (re_bindP (rv_rd rfl) (re_bindG (re_dOp2n (re_bindP (rv_rd rfl) (re_bindP (rv_var rfl) (re_bindP (rv_rd rfl) (re_lift op_atT))))) fun c68 => (re_bindP (rv_rd rfl) (re_lift op_atT))))) fun c69 => (re_bindP (rv_var rfl) (re_lift op_atT)))), rfl, rfl⟩)))) fun c73 => (re_bindG (re_frzN (re_bindG (re_dItems (re_tail (w := (List.map eI)) (re_dOp2n (re_bindP (rv_rd rfl) (re_bindP (rv_var rfl) (re_bindP (rv_rd rfl) (re_lift op_atT))))) fun c74 => (rv_lift (y := ((List.map eI) c74)) rfl))) fun c75 => (re_compM (e := eI) (f := fun (x76 : Int) => pAt x42 x76) ([.sh ((eT (eT eI)) table), .sh ((eT eI) x42), .sh (eI x63), .no, .no]) rfl rfl rfl (fun x76 => ⟨[.sh ((eT (eT eI)) table), .sh ((eT eI) x42), .sh (eI x63), .no, .sh (eI x76)], [.sh ((eT (eT eI)) table), .sh ((eT eI) x42), .sh (eI x63), .no, .sh (eI x76)], rfl, (re_dOp2n (re_bindP (rv_rd rfl) (re_bindP (rv_var rfl) (re_bindP (rv_rd rfl) (re_lift op_atT))))), rfl, rfl⟩)))) fun c77 => (re_rv (w := eB) (rv_lift (ne_py (pyL pyI) (x := c73) (y := c77)))))))) fun c78 => (rs_ite (fun _ => (rs_bindP rv_ret (rs_ret ⟨⟨_, rfl⟩, ⟨⟨_, rfl⟩, (.inl rfl)⟩⟩))) (fun _ => (rs_nx (rs_end ⟨rfl, (some (eI x63)), rfl⟩))))))⟩) (fun | a79, _, ⟨j80, rfl⟩ => (rs_end ⟨rfl, (some ((eT eI) x42)), j80, rfl⟩)))))⟩) (fun | a83, _, ⟨j84, j85, rfl⟩ => (rs_last (rs_bindP rv_ret (rs_ret (.inl rfl))))))))
def P_Semigroup___init__ (table : (List (List Int))) : M (Int × (List (List Int))) := M.bind (P_taken_table table) fun c1 => if (decide ((c1.length : Int) > 24)) = true then .exn "Refused" [("reason", eS ("large" : Str))] else M.bind (M.bind (P_is_associative c1) fun c2 => .ok (!c2)) fun c3 => if c3 = true then .exn "Refused" [("reason", eS ("associative" : Str))] else .ok ((c1.length : Int), c1)
theorem S_Semigroup___init__ (table : (List (List Int))) : DM (makeM "Semigroup" d_Semigroup___init__ [(eL (eT eI)) table]) (P_Semigroup___init__ table) (eC2 "Semigroup" "n" "table" eI (eT (eT eI))) := fn_I (nd := (fun (r : (Int × (List (List Int)))) => (["n", "table"], [eI r.1, (eT (eT eI)) r.2]))) rfl (show RS true (sSeq (sSet 2 (dCall d_taken_table (dCons (dVar 1) dNil))) (sSeq (sIf (dTst (dOp2 opGt (dOp1n opLen 2) (dC (.int 24)))) (sRaise1 "Refused" "reason" (dC (.str "large"))) sPass) (sSeq (sIf (dNot (dTst (dCall d_is_associative (dCons (dVar 2) dNil)))) (sRaise1 "Refused" "reason" (dC (.str "associative"))) sPass) (sSeq (sSelf 0 "Semigroup" "n" (dOp1n opLen 2)) (sSelf 0 "Semigroup" "table" (dVar 2)))))) [.oi 0 "Semigroup" [] [], .sh ((eL (eT eI)) table), .no] (P_Semigroup___init__ table) (Kini (fun (r : (Int × (List (List Int)))) => (["n", "table"], [eI r.1, (eT (eT eI)) r.2])) "Semigroup") from
  (rs_bindG (re_dCall (re_consP (rv_var rfl) (re_nil (re_liftM (S_taken_table table))))) fun c1 => (rs_put (st1 := [.oi 0 "Semigroup" [] [], .sh ((eL (eT eI)) table), .sh ((eT (eT eI)) c1)]) rfl (rs_bindP (rv_tst (rv_dOp2 (rv_bind (rv_dOp1n (rv_bind (rv_rd rfl) (rv_lift op_lenT))) (rv_bind rv_ret (rv_lift (y := (eB (decide ((c1.length : Int) > 24)))) rfl))))) (rs_ite (fun _ => (rs_bindP rv_ret rs_raise1)) (fun _ => (rs_nx (rs_bindG (re_dNot (re_bindG (re_tst (re_dCall (re_consP (rv_var rfl) (re_nil (re_liftM (S_is_associative c1)))))) fun c2 => (re_rv (w := (fun b : Bool => b)) rv_ret))) fun c3 => (rs_ite (fun _ => (rs_bindP rv_ret rs_raise1)) (fun _ => (rs_nx (rs_bindP (rv_dOp1n (rv_bind (rv_rd rfl) (rv_lift op_lenT))) (rs_exec (st1 := [.oi 0 "Semigroup" ["n"] [eI (c1.length : Int)], .sh ((eL (eT eI)) table), .sh ((eT (eT eI)) c1)]) (by first | rfl | decide | simp) (rs_last (rs_bindP (rv_var rfl) (rs_exec (st1 := [.oi 0 "Semigroup" ["n", "table"] [eI (c1.length : Int), (eT (eT eI)) c1], .sh ((eL (eT eI)) table), .sh ((eT (eT eI)) c1)]) (by first | rfl | decide | simp) (rs_end ⟨rfl, _, rfl⟩)))))))))))))))))
def P_Semigroup___str__ (self : (Int × (List (List Int)))) : M Str := M.bind (M.bind (pMap (fun (x1 : (List Int)) => M.bind (M.bind (pMap (fun (x4 : Int) => pStr x4) x1) fun c5 => pJoin (" " : Str) c5) fun c6 => pCatS (" " : Str) c6) self.2) fun c7 => pJoin (";" : Str) c7) fun c8 => M.bind (M.bind (pStr self.1) fun c9 => pFit (Str.empty ++ c9) (pFit ((Str.empty ++ c9) ++ (":" : Str)) (M.bind (pFmtS c8) fun c10 => pFit (((Str.empty ++ c9) ++ (":" : Str)) ++ c10) (.ok (((Str.empty ++ c9) ++ (":" : Str)) ++ c10))))) fun c11 => .ok c11
theorem S_Semigroup___str__ (self : (Int × (List (List Int)))) : DM (d_Semigroup___str__ [(eC2 "Semigroup" "n" "table" eI (eT (eT eI))) self]) (P_Semigroup___str__ self) eS := fn_F rfl (show RS true (sSeq (sSet 1 (dJoin (dC (.str ";")) (dFrz (dComp [2] (.nm 2) (dItems (dOp1 (opFld "Semigroup" "table") (dVar 0))) dYes (dOp2 opAdd (dC (.str " ")) (dJoin (dC (.str " ")) (dFrz (dComp [3] (.nm 3) (dItems (dVar 2)) dYes (dOp1n opStr 3))))))))) (sRet (dFStr [(dOp1 opFmt (dOp1 (opFld "Semigroup" "n") (dVar 0))), (dC (.str ":")), (dOp1 opFmt (dVar 1))]))) [.sh ((eC2 "Semigroup" "n" "table" eI (eT (eT eI))) self), .no, .no, .no] (P_Semigroup___str__ self) (Kfn eS) from
  (rs_bindG (re_bindP rv_ret (re_bindP (rv_lift rfl) (re_bindG (re_frzN (re_bindP (rv_dItems (rv_bind (rv_dOp1 (rv_bind (rv_var rfl) (rv_lift (by rfl)))) (rv_lift (y := ((List.map (eT eI)) self.2)) rfl))) (re_compM (e := (eT eI)) (f := fun (x1 : (List Int)) => M.bind (M.bind (pMap (fun (x4 : Int) => pStr x4) x1) fun c5 => pJoin (" " : Str) c5) fun c6 => pCatS (" " : Str) c6) ([.sh ((eC2 "Semigroup" "n" "table" eI (eT (eT eI))) self), .no, .no, .no]) rfl rfl rfl (fun x1 => ⟨[.sh ((eC2 "Semigroup" "n" "table" eI (eT (eT eI))) self), .no, .sh ((eT eI) x1), .no], [.sh ((eC2 "Semigroup" "n" "table" eI (eT (eT eI))) self), .no, .sh ((eT eI) x1), .no], rfl, (re_dOp2 (re_bindP rv_ret (re_bindG (re_bindP rv_ret (re_bindP (rv_lift rfl) (re_bindG (re_frzN (re_bindP (rv_dItems (rv_bind (rv_var rfl) (rv_lift (y := ((List.map eI) x1)) rfl))) (re_compM (e := eI) (f := fun (x4 : Int) => pStr x4) ([.sh ((eC2 "Semigroup" "n" "table" eI (eT (eT eI))) self), .no, .sh ((eT eI) x1), .no]) rfl rfl rfl (fun x4 => ⟨[.sh ((eC2 "Semigroup" "n" "table" eI (eT (eT eI))) self), .no, .sh ((eT eI) x1), .sh (eI x4)], [.sh ((eC2 "Semigroup" "n" "table" eI (eT (eT eI))) self), .no, .sh ((eT eI) x1), .sh (eI x4)], rfl, (re_dOp1n (re_bindP (rv_rd rfl) (re_lift op_str))), rfl, rfl⟩)))) fun c5 => (re_lift op_join)))) fun c6 => (re_lift op_catS)))), rfl, rfl⟩)))) fun c7 => (re_lift op_join)))) fun c8 => (rs_put (st1 := [.sh ((eC2 "Semigroup" "n" "table" eI (eT (eT eI))) self), .sh (eS c8), .no, .no]) rfl (rs_last (rs_bindG (re_fstr (re_joinG (re_dOp1 (re_bindP (rv_dOp1 (rv_bind (rv_var rfl) (rv_lift (by rfl)))) (re_lift op_fmtI))) (fun c9 => (re_joinP rv_ret (re_joinG (re_dOp1 (re_bindP (rv_var rfl) (re_lift op_fmtS))) (fun c10 => re_joinN)))))) fun c11 => (rs_ret (.inl rfl)))))))
def P_read_number (text : Str) : M Int := M.bind (M.bind (pEq (eS text) (eS ("" : Str))) fun c1 => if c1 = true then .ok true else M.bind (M.bind (pLenS text) fun c2 => .ok (decide (c2 > 2))) fun c3 => if c3 = true then .ok true else M.bind (M.bind (pLenS text) fun c4 => .ok (decide (c4 = 2))) fun c5 => if c5 = true then M.bind (pAtS text 0) fun c6 => pEq (eS c6) (eS ("0" : Str)) else .ok false) fun c7 => if c7 = true then .exn "NoText" [("at", eI 0)] else M.bind (pfold (fun (x11 : Str) (a12 : Unit) => if (!pInS x11 ("0123456789" : Str)) = true then .exn "NoText" [("at", eI 0)] else .ok ()) (signs text) ()) fun (a14 : Unit) => M.bind (pIntS text) fun c16 => .ok c16
theorem S_read_number (text : Str) : DM (d_read_number [eS text]) (P_read_number text) eI := fn_F rfl (show RS true (sSeq (sIf (dOr (dTst (dOp2 opEq (dVar 0) (dC (.str "")))) (dOr (dTst (dOp2 opGt (dOp1n opLen 0) (dC (.int 2)))) (dAnd (dTst (dOp2 opEq (dOp1n opLen 0) (dC (.int 2)))) (dTst (dOp2 opEq (dOp2n opIx 0 (dC (.int 0))) (dC (.str "0"))))))) (sRaise1 "NoText" "at" (dC (.int 0))) sPass) (sSeq (sFor (.nm 1) (dStrItems (dVar 0)) (sIf (dTst (dOp2 opNotIn (dVar 1) (dC (.str "0123456789")))) (sRaise1 "NoText" "at" (dC (.int 0))) sPass)) (sRet (dOp1 opIntS (dVar 0))))) [.sh (eS text), .no] (P_read_number text) (Kfn eI) from
  (rs_bindG (re_dOr (re_bindG (re_tst (re_dOp2 (re_bindP (rv_var rfl) (re_bindP rv_ret (re_lift op_eqD))))) fun c1 => (re_ite (fun _ => re_rv rv_ret) (fun _ => (re_dOr (re_bindG (re_tst (re_dOp2 (re_bindG (re_dOp1n (re_bindP (rv_rd rfl) (re_lift op_lenS))) fun c2 => (re_bindP rv_ret (re_rv (w := eB) (rv_lift (y := (eB (decide (c2 > 2)))) rfl)))))) fun c3 => (re_ite (fun _ => re_rv rv_ret) (fun _ => (re_dAnd (re_bindG (re_tst (re_dOp2 (re_bindG (re_dOp1n (re_bindP (rv_rd rfl) (re_lift op_lenS))) fun c4 => (re_bindP rv_ret (re_rv (w := eB) (rv_lift (eq_py pyI (x := c4) (y := 2)))))))) fun c5 => (re_ite (fun _ => (re_tst (re_dOp2 (re_bindG (re_dOp2n (re_bindP (rv_rd rfl) (re_bindP rv_ret (re_bindP (rv_rd rfl) (re_lift op_atS))))) fun c6 => (re_bindP rv_ret (re_lift op_eqD)))))) (fun _ => re_rv rv_ret)))))))))))) fun c7 => (rs_ite (fun _ => (rs_bindP rv_ret rs_raise1)) (fun _ => (rs_nx (rs_bindP (rv_dStrItems (rv_bind (rv_var rfl) (rv_lift op_signs))) (rs_for0 (e := eS) (xs := (signs text)) (a := ()) (f := fun (x11 : Str) (a12 : Unit) => if (!pInS x11 ("0123456789" : Str)) = true then .exn "NoText" [("at", eI 0)] else .ok ()) (fun (a17 : Unit) (st : DSt) => ∃ (j18 : (Option D)), st = [.sh (eS text), jk j18]) ⟨none, rfl⟩ (fun | x11, a12, _, ⟨j13, rfl⟩ => ⟨[.sh (eS text), .sh (eS x11)], rfl, (rs_last (rs_bindP (rv_tst (rv_dOp2 (rv_bind (rv_var rfl) (rv_bind rv_ret (rv_lift op_notInS))))) (rs_ite (fun _ => (rs_bindP rv_ret rs_raise1)) (fun _ => (rs_nx (rs_end ⟨rfl, (some (eS x11)), rfl⟩))))))⟩) (fun | a14, _, ⟨j15, rfl⟩ => (rs_last (rs_bindG (re_dOp1 (re_bindP (rv_var rfl) (re_lift op_intS))) fun c16 => (rs_ret (.inl rfl))))))))))))
def P_taken_table_2 (table : (List (List Int))) : M (List (List Int)) := if ((!true) || (decide ((table.length : Int) = 0))) = true then .exn "Malformed" [] else M.bind (pfold (fun (x39 : (List Int)) (a40 : (List (List Int))) => if ((!true) || (!decide ((x39.length : Int) = (table.length : Int)))) = true then .exn "Malformed" [] else M.bind (pfold (fun (x48 : Int) (a49 : Unit) => M.bind (M.bind (P_is_item x48 (table.length : Int)) fun c51 => .ok (!c51)) fun c52 => if c52 = true then .exn "Malformed" [] else .ok ()) x39 ()) fun (a53 : Unit) => M.bind (pApp a40 x39) fun c55 => .ok c55) table []) fun (a58 : (List (List Int))) => .ok a58
theorem S_taken_table_2 (table : (List (List Int))) : DM (d_taken_table [(eL (eL eI)) table]) (P_taken_table_2 table) (eT (eT eI)) := fn_F rfl (show RS true (sSeq (sIf (dOr (dNot (dTst (dOp1 (opIsi2 "list" "tuple") (dVar 0)))) (dTst (dOp2 opEq (dOp1n opLen 0) (dC (.int 0))))) (sRaise0 "Malformed") sPass) (sSeq (sOwn 1 (dLst dNil)) (sSeq (sFor (.nm 2) (dItems (dVar 0)) (sSeq (sIf (dOr (dNot (dTst (dOp1 (opIsi2 "list" "tuple") (dVar 2)))) (dTst (dOp2 opNe (dOp1n opLen 2) (dOp1n opLen 0)))) (sRaise0 "Malformed") sPass) (sSeq (sFor (.nm 3) (dItems (dVar 2)) (sIf (dNot (dTst (dCall d_is_item (dCons (dVar 3) (dCons (dOp1n opLen 0) dNil))))) (sRaise0 "Malformed") sPass)) (sExpr (dAppend 1 (dOp1n opTuple 2)))))) (sRet (dOp1n opTuple 1))))) [.sh ((eL (eL eI)) table), .no, .no, .no] (P_taken_table_2 table) (Kfn (eT (eT eI))) from
  (rs_bindP (rv_dOr (rv_bind (rv_dNot (rv_bind (rv_tst (rv_dOp1 (rv_bind (rv_var rfl) (rv_lift (y := (eB true)) rfl)))) rv_ret)) (rv_or fun _ => (rv_tst (rv_dOp2 (rv_bind (rv_dOp1n (rv_bind (rv_rd rfl) (rv_lift op_lenL))) (rv_bind rv_ret (rv_lift (eq_py pyI (x := (table.length : Int)) (y := 0)))))))))) (rs_ite (fun _ => rs_raise0) (fun _ => (rs_nx (rs_bindP (rv_dLst (rv_nil (rv_lift (y := ((List.map eI) [])) (op_lst (by exact Nat.le_of_ble_eq_true rfl) rfl)))) (rs_put (st1 := [.sh ((eL (eL eI)) table), .ow (List.map eI []), .no, .no]) rfl (rs_bindP (rv_dItems (rv_bind (rv_var rfl) (rv_lift (y := ((List.map (eL eI)) table)) rfl))) (rs_for0 (e := (eL eI)) (xs := table) (a := []) (f := fun (x39 : (List Int)) (a40 : (List (List Int))) => if ((!true) || (!decide ((x39.length : Int) = (table.length : Int)))) = true then .exn "Malformed" [] else M.bind (pfold (fun (x48 : Int) (a49 : Unit) => M.bind (M.bind (P_is_item x48 (table.length : Int)) fun c51 => .ok (!c51)) fun c52 => if c52 = true then .exn "Malformed" [] else .ok ()) x39 ()) fun (a53 : Unit) => M.bind (pApp a40 x39) fun c55 => .ok c55) (fun (a61 : (List (List Int))) (st : DSt) => ∃ (j62 : (Option D)), ∃ (j63 : (Option D)), st = [.sh ((eL (eL eI)) table), .ow (List.map (eT eI) a61), jk j62, jk j63]) ⟨none, none, rfl⟩ (fun | x39, a40, _, ⟨j41, j42, rfl⟩ => ⟨[.sh ((eL (eL eI)) table), .ow (List.map (eT eI) a40), .sh ((eL eI) x39), jk j42], rfl, (rs_bindP (rv_dOr (rv_bind (rv_dNot (rv_bind (rv_tst (rv_dOp1 (rv_bind (rv_var rfl) (rv_lift (y := (eB true)) rfl)))) rv_ret)) (rv_or fun _ => (rv_tst (rv_dOp2 (rv_bind (rv_dOp1n (rv_bind (rv_rd rfl) (rv_lift op_lenL))) (rv_bind (rv_dOp1n (rv_bind (rv_rd rfl) (rv_lift op_lenL))) (rv_lift (ne_py pyI (x := (x39.length : Int)) (y := (table.length : Int))))))))))) (rs_ite (fun _ => rs_raise0) (fun _ => (rs_nx (rs_bindP (rv_dItems (rv_bind (rv_var rfl) (rv_lift (y := ((List.map eI) x39)) rfl))) (rs_for0 (e := eI) (xs := x39) (a := ()) (f := fun (x48 : Int) (a49 : Unit) => M.bind (M.bind (P_is_item x48 (table.length : Int)) fun c51 => .ok (!c51)) fun c52 => if c52 = true then .exn "Malformed" [] else .ok ()) (fun (a56 : Unit) (st : DSt) => ∃ (j57 : (Option D)), st = [.sh ((eL (eL eI)) table), .ow (List.map (eT eI) a40), .sh ((eL eI) x39), jk j57]) ⟨j42, rfl⟩ (fun | x48, a49, _, ⟨j50, rfl⟩ => ⟨[.sh ((eL (eL eI)) table), .ow (List.map (eT eI) a40), .sh ((eL eI) x39), .sh (eI x48)], rfl, (rs_last (rs_bindG (re_dNot (re_bindG (re_tst (re_dCall (re_consP (rv_var rfl) (re_consP (rv_dOp1n (rv_bind (rv_rd rfl) (rv_lift op_lenL))) (re_nil (re_liftM (S_is_item x48 (table.length : Int)))))))) fun c51 => (re_rv (w := (fun b : Bool => b)) rv_ret))) fun c52 => (rs_ite (fun _ => rs_raise0) (fun _ => (rs_nx (rs_end ⟨rfl, (some (eI x48)), rfl⟩))))))⟩) (fun | a53, _, ⟨j54, rfl⟩ => (rs_last (rs_x (x_appP (e := (eT eI)) (xs := a40) rfl (rv_dOp1n (rv_bind (rv_rd rfl) (rv_lift (y := ((eT eI) x39)) rfl))) rfl) fun c55 => rs_st ([.sh ((eL (eL eI)) table), .ow (List.map (eT eI) c55), .sh ((eL eI) x39), jk j54]) rfl (rs_end ⟨rfl, (some ((eL eI) x39)), j54, rfl⟩))))))))))⟩) (fun | a58, _, ⟨j59, j60, rfl⟩ => (rs_last (rs_bindP (rv_dOp1n (rv_bind (rv_rdO rfl) (rv_lift (y := ((eT (eT eI)) a58)) rfl))) (rs_ret (.inl rfl))))))))))))))
def P_Semigroup___init___2 (table : (List (List Int))) : M (Int × (List (List Int))) := M.bind (P_taken_table_2 table) fun c1 => if (decide ((c1.length : Int) > 24)) = true then .exn "Refused" [("reason", eS ("large" : Str))] else M.bind (M.bind (P_is_associative c1) fun c2 => .ok (!c2)) fun c3 => if c3 = true then .exn "Refused" [("reason", eS ("associative" : Str))] else .ok ((c1.length : Int), c1)
theorem S_Semigroup___init___2 (table : (List (List Int))) : DM (makeM "Semigroup" d_Semigroup___init__ [(eL (eL eI)) table]) (P_Semigroup___init___2 table) (eC2 "Semigroup" "n" "table" eI (eT (eT eI))) := fn_I (nd := (fun (r : (Int × (List (List Int)))) => (["n", "table"], [eI r.1, (eT (eT eI)) r.2]))) rfl (show RS true (sSeq (sSet 2 (dCall d_taken_table (dCons (dVar 1) dNil))) (sSeq (sIf (dTst (dOp2 opGt (dOp1n opLen 2) (dC (.int 24)))) (sRaise1 "Refused" "reason" (dC (.str "large"))) sPass) (sSeq (sIf (dNot (dTst (dCall d_is_associative (dCons (dVar 2) dNil)))) (sRaise1 "Refused" "reason" (dC (.str "associative"))) sPass) (sSeq (sSelf 0 "Semigroup" "n" (dOp1n opLen 2)) (sSelf 0 "Semigroup" "table" (dVar 2)))))) [.oi 0 "Semigroup" [] [], .sh ((eL (eL eI)) table), .no] (P_Semigroup___init___2 table) (Kini (fun (r : (Int × (List (List Int)))) => (["n", "table"], [eI r.1, (eT (eT eI)) r.2])) "Semigroup") from
  (rs_bindG (re_dCall (re_consP (rv_var rfl) (re_nil (re_liftM (S_taken_table_2 table))))) fun c1 => (rs_put (st1 := [.oi 0 "Semigroup" [] [], .sh ((eL (eL eI)) table), .sh ((eT (eT eI)) c1)]) rfl (rs_bindP (rv_tst (rv_dOp2 (rv_bind (rv_dOp1n (rv_bind (rv_rd rfl) (rv_lift op_lenT))) (rv_bind rv_ret (rv_lift (y := (eB (decide ((c1.length : Int) > 24)))) rfl))))) (rs_ite (fun _ => (rs_bindP rv_ret rs_raise1)) (fun _ => (rs_nx (rs_bindG (re_dNot (re_bindG (re_tst (re_dCall (re_consP (rv_var rfl) (re_nil (re_liftM (S_is_associative c1)))))) fun c2 => (re_rv (w := (fun b : Bool => b)) rv_ret))) fun c3 => (rs_ite (fun _ => (rs_bindP rv_ret rs_raise1)) (fun _ => (rs_nx (rs_bindP (rv_dOp1n (rv_bind (rv_rd rfl) (rv_lift op_lenT))) (rs_exec (st1 := [.oi 0 "Semigroup" ["n"] [eI (c1.length : Int)], .sh ((eL (eL eI)) table), .sh ((eT (eT eI)) c1)]) (by first | rfl | decide | simp) (rs_last (rs_bindP (rv_var rfl) (rs_exec (st1 := [.oi 0 "Semigroup" ["n", "table"] [eI (c1.length : Int), (eT (eT eI)) c1], .sh ((eL (eL eI)) table), .sh ((eT (eT eI)) c1)]) (by first | rfl | decide | simp) (rs_end ⟨rfl, _, rfl⟩)))))))))))))))))
def P_read_semigroup (text : Str) : M (Int × (List (List Int))) := if (!true) = true then .exn "NoText" [("at", eI 0)] else M.bind (pPart text (":" : Str)) fun c1 => M.bind (P_read_number c1.1) fun c2 => M.bind (pSplit c1.2.2 (";" : Str)) fun c4 => M.bind (pfold (fun (x23 : Str) (a24 : (List (List Int))) => if (!(Txt.startswith x23 (" " : Str))) = true then .exn "NoText" [("at", eI 0)] else M.bind (M.bind (M.bind (M.bind (pSlS x23 (some 1) none) fun c26 => pSplit c26 (" " : Str)) fun c28 => pMapX (fun (x29 : Str) => P_read_number x29) c28) fun c31 => pApp a24 c31) fun c30 => .ok c30) c4 []) fun (a32 : (List (List Int))) => M.bind (M.bind (pEq (eS c1.2.1) (eS ("" : Str))) fun c34 => .ok (c34 || (!decide ((a32.length : Int) = c2)))) fun c35 => if c35 = true then .exn "NoText" [("at", eI 0)] else tryM (P_Semigroup___init___2 a32) (fun c38 => .ok c38) (fun e36 f37 => pMt mt e36 "Fault" (.exn "NoText" [("at", eI 0)]) (.exn e36 f37))
theorem S_read_semigroup (text : Str) : DM (d_read_semigroup [eS text]) (P_read_semigroup text) (eC2 "Semigroup" "n" "table" eI (eT (eT eI))) := fn_F rfl (show RS true (sSeq (sIf (dNot (dTst (dOp1 (opIsS "Semigroup") (dVar 0)))) (sRaise1 "NoText" "at" (dC (.int 0))) sPass) (sSeq (sAsg (.nms [1, 2, 3]) (dPartn (dVar 0) (dC (.str ":")))) (sSeq (sSet 4 (dCall d_read_number (dCons (dVar 1) dNil))) (sSeq (sOwn 5 (dLst dNil)) (sSeq (sFor (.nm 6) (dItems (dFrz (dSplit (dVar 3) (dC (.str ";"))))) (sSeq (sIf (dNot (dTst (dSS fnStarts (dVar 6) (dC (.str " "))))) (sRaise1 "NoText" "at" (dC (.int 0))) sPass) (sExpr (dAppend 5 (dFrz (dCompX [7] (.nm 7) (dItems (dFrz (dSplit (dSlS (dVar 6) (dPart (dC (.int 1))) dNoP) (dC (.str " "))))) (dCall d_read_number (dCons (dVar 7) dNil)))))))) (sSeq (sIf (dOr (dTst (dOp2 opEq (dVar 2) (dC (.str "")))) (dTst (dOp2 opNe (dOp1n opLen 5) (dVar 4)))) (sRaise1 "NoText" "at" (dC (.int 0))) sPass) (sTryX mt (sRet (dCall (makeM "Semigroup" d_Semigroup___init__) (dCons (dVar 5) dNil))) "Fault" (sRaise1 "NoText" "at" (dC (.int 0)))))))))) [.sh (eS text), .no, .no, .no, .no, .no, .no, .no] (P_read_semigroup text) (Kfn (eC2 "Semigroup" "n" "table" eI (eT (eT eI)))) from
  (rs_bindP (rv_dNot (rv_bind (rv_tst (rv_dOp1 (rv_bind (rv_var rfl) (rv_lift (y := (eB true)) rfl)))) rv_ret)) (rs_ite (fun _ => (rs_bindP rv_ret rs_raise1)) (fun _ => (rs_nx (rs_bindG (re_bindP (rv_var rfl) (re_bindP (rv_lift rfl) (re_bindP rv_ret (re_lift op_part)))) fun c1 => (rs_exec (st1 := [.sh (eS text), .sh (eS c1.1), .sh (eS c1.2.1), .sh (eS c1.2.2), .no, .no, .no, .no]) rfl (rs_bindG (re_dCall (re_consP (rv_var rfl) (re_nil (re_liftM (S_read_number c1.1))))) fun c2 => (rs_put (st1 := [.sh (eS text), .sh (eS c1.1), .sh (eS c1.2.1), .sh (eS c1.2.2), .sh (eI c2), .no, .no, .no]) rfl (rs_bindP (rv_dLst (rv_nil (rv_lift (y := ((List.map eI) [])) (op_lst (by exact Nat.le_of_ble_eq_true rfl) rfl)))) (rs_put (st1 := [.sh (eS text), .sh (eS c1.1), .sh (eS c1.2.1), .sh (eS c1.2.2), .sh (eI c2), .ow (List.map eI []), .no, .no]) rfl (rs_bindG (re_dItems (re_tail (w := (List.map eS)) (re_frzN (re_bindP (rv_var rfl) (re_bindP (rv_lift rfl) (re_bindP rv_ret (re_lift op_split))))) fun c3 => (rv_lift (y := ((List.map eS) c3)) rfl))) fun c4 => (rs_for0 (e := eS) (xs := c4) (a := []) (f := fun (x23 : Str) (a24 : (List (List Int))) => if (!(Txt.startswith x23 (" " : Str))) = true then .exn "NoText" [("at", eI 0)] else M.bind (M.bind (M.bind (M.bind (pSlS x23 (some 1) none) fun c26 => pSplit c26 (" " : Str)) fun c28 => pMapX (fun (x29 : Str) => P_read_number x29) c28) fun c31 => pApp a24 c31) fun c30 => .ok c30) (fun (a39 : (List (List Int))) (st : DSt) => ∃ (j40 : (Option D)), st = [.sh (eS text), .sh (eS c1.1), .sh (eS c1.2.1), .sh (eS c1.2.2), .sh (eI c2), .ow (List.map (eL eI) a39), jk j40, .no]) ⟨none, rfl⟩ (fun | x23, a24, _, ⟨j25, rfl⟩ => ⟨[.sh (eS text), .sh (eS c1.1), .sh (eS c1.2.1), .sh (eS c1.2.2), .sh (eI c2), .ow (List.map (eL eI) a24), .sh (eS x23), .no], rfl, (rs_bindP (rv_dNot (rv_bind (rv_tst (rv_bind (rv_var rfl) (rv_bind (rv_lift rfl) (rv_bind rv_ret (rv_lift op_starts))))) rv_ret)) (rs_ite (fun _ => (rs_bindP rv_ret rs_raise1)) (fun _ => (rs_nx (rs_last (rs_x (x_appG (e := (eL eI)) (xs := a24) rfl (re_frzN (re_bindG (re_dItems (re_tail (w := (List.map eS)) (re_frzN (re_bindG (re_dSlS (re_bindP (rv_var rfl) (re_bindP (rv_dPart (rv_bind rv_ret (rv_lift (y := (some 1)) rfl))) (re_bindP rv_ret (re_lift op_slS))))) fun c26 => (re_bindP (rv_lift rfl) (re_bindP rv_ret (re_lift op_split))))) fun c27 => (rv_lift (y := ((List.map eS) c27)) rfl))) fun c28 => (re_compMX (e := eS) (f := fun (x29 : Str) => P_read_number x29) ([.sh (eS text), .sh (eS c1.1), .sh (eS c1.2.1), .sh (eS c1.2.2), .sh (eI c2), .ow (List.map (eL eI) a24), .sh (eS x23), .no]) rfl rfl rfl (fun x29 => ⟨[.sh (eS text), .sh (eS c1.1), .sh (eS c1.2.1), .sh (eS c1.2.2), .sh (eI c2), .ow (List.map (eL eI) a24), .sh (eS x23), .sh (eS x29)], [.sh (eS text), .sh (eS c1.1), .sh (eS c1.2.1), .sh (eS c1.2.2), .sh (eI c2), .ow (List.map (eL eI) a24), .sh (eS x23), .sh (eS x29)], rfl, (re_dCall (re_consP (rv_var rfl) (re_nil (re_liftM (S_read_number x29))))), rfl, rfl⟩)))) rfl) fun c30 => rs_st ([.sh (eS text), .sh (eS c1.1), .sh (eS c1.2.1), .sh (eS c1.2.2), .sh (eI c2), .ow (List.map (eL eI) c30), .sh (eS x23), .no]) rfl (rs_end ⟨rfl, (some (eS x23)), rfl⟩)))))))⟩) (fun | a32, _, ⟨j33, rfl⟩ => (rs_bindG (re_dOr (re_bindG (re_tst (re_dOp2 (re_bindP (rv_var rfl) (re_bindP rv_ret (re_lift op_eqD))))) fun c34 => (re_rv (w := (fun b : Bool => b)) (rv_or fun _ => (rv_tst (rv_dOp2 (rv_bind (rv_dOp1n (rv_bind (rv_rdO rfl) (rv_lift op_lenL))) (rv_bind (rv_var rfl) (rv_lift (ne_py pyI (x := (a32.length : Int)) (y := c2))))))))))) fun c35 => (rs_ite (fun _ => (rs_bindP rv_ret rs_raise1)) (fun _ => (rs_nx (rs_last (rs_tryXR (st1 := [.sh (eS text), .sh (eS c1.1), .sh (eS c1.2.1), .sh (eS c1.2.2), .sh (eI c2), .sh ((eL (eL eI)) a32), jk j33, .no]) (rv_consL (rv_frz rfl) rv_ret) (S_Semigroup___init___2 a32) (fun c38 => (.inl rfl)) (rs_bindP rv_ret rs_raise1)))))))))))))))))))))
def P_read_semigroup_2 (text : D) : M (Int × (List (List Int))) := M.bind (M.bind (pIsS "Semigroup" text) fun c1 => .ok (!c1)) fun c2 => if c2 = true then .exn "NoText" [("at", eI 0)] else M.bind (M.bind (pStrD text) fun c3 => pPart c3 (":" : Str)) fun c4 => M.bind (P_read_number c4.1) fun c5 => M.bind (pSplit c4.2.2 (";" : Str)) fun c7 => M.bind (pfold (fun (x26 : Str) (a27 : (List (List Int))) => if (!(Txt.startswith x26 (" " : Str))) = true then .exn "NoText" [("at", eI 0)] else M.bind (M.bind (M.bind (M.bind (pSlS x26 (some 1) none) fun c29 => pSplit c29 (" " : Str)) fun c31 => pMapX (fun (x32 : Str) => P_read_number x32) c31) fun c34 => pApp a27 c34) fun c33 => .ok c33) c7 []) fun (a35 : (List (List Int))) => M.bind (M.bind (pEq (eS c4.2.1) (eS ("" : Str))) fun c37 => .ok (c37 || (!decide ((a35.length : Int) = c5)))) fun c38 => if c38 = true then .exn "NoText" [("at", eI 0)] else tryM (P_Semigroup___init___2 a35) (fun c41 => .ok c41) (fun e39 f40 => pMt mt e39 "Fault" (.exn "NoText" [("at", eI 0)]) (.exn e39 f40))
theorem S_read_semigroup_2 (text : D) : DM (d_read_semigroup [eD text]) (P_read_semigroup_2 text) (eC2 "Semigroup" "n" "table" eI (eT (eT eI))) := fn_F rfl (show RS true (sSeq (sIf (dNot (dTst (dOp1 (opIsS "Semigroup") (dVar 0)))) (sRaise1 "NoText" "at" (dC (.int 0))) sPass) (sSeq (sAsg (.nms [1, 2, 3]) (dPartn (dVar 0) (dC (.str ":")))) (sSeq (sSet 4 (dCall d_read_number (dCons (dVar 1) dNil))) (sSeq (sOwn 5 (dLst dNil)) (sSeq (sFor (.nm 6) (dItems (dFrz (dSplit (dVar 3) (dC (.str ";"))))) (sSeq (sIf (dNot (dTst (dSS fnStarts (dVar 6) (dC (.str " "))))) (sRaise1 "NoText" "at" (dC (.int 0))) sPass) (sExpr (dAppend 5 (dFrz (dCompX [7] (.nm 7) (dItems (dFrz (dSplit (dSlS (dVar 6) (dPart (dC (.int 1))) dNoP) (dC (.str " "))))) (dCall d_read_number (dCons (dVar 7) dNil)))))))) (sSeq (sIf (dOr (dTst (dOp2 opEq (dVar 2) (dC (.str "")))) (dTst (dOp2 opNe (dOp1n opLen 5) (dVar 4)))) (sRaise1 "NoText" "at" (dC (.int 0))) sPass) (sTryX mt (sRet (dCall (makeM "Semigroup" d_Semigroup___init__) (dCons (dVar 5) dNil))) "Fault" (sRaise1 "NoText" "at" (dC (.int 0)))))))))) [.sh (eD text), .no, .no, .no, .no, .no, .no, .no] (P_read_semigroup_2 text) (Kfn (eC2 "Semigroup" "n" "table" eI (eT (eT eI)))) from
  (rs_bindG (re_dNot (re_bindG (re_tst (re_dOp1 (re_bindP (rv_var rfl) (re_lift op_isSD)))) fun c1 => (re_rv (w := (fun b : Bool => b)) rv_ret))) fun c2 => (rs_ite (fun _ => (rs_bindP rv_ret rs_raise1)) (fun _ => (rs_nx (rs_bindG (re_bindG (re_strD (rv_var rfl)) fun c3 => (re_bindP (rv_lift rfl) (re_bindP rv_ret (re_lift op_part)))) fun c4 => (rs_exec (st1 := [.sh (eD text), .sh (eS c4.1), .sh (eS c4.2.1), .sh (eS c4.2.2), .no, .no, .no, .no]) rfl (rs_bindG (re_dCall (re_consP (rv_var rfl) (re_nil (re_liftM (S_read_number c4.1))))) fun c5 => (rs_put (st1 := [.sh (eD text), .sh (eS c4.1), .sh (eS c4.2.1), .sh (eS c4.2.2), .sh (eI c5), .no, .no, .no]) rfl (rs_bindP (rv_dLst (rv_nil (rv_lift (y := ((List.map eI) [])) (op_lst (by exact Nat.le_of_ble_eq_true rfl) rfl)))) (rs_put (st1 := [.sh (eD text), .sh (eS c4.1), .sh (eS c4.2.1), .sh (eS c4.2.2), .sh (eI c5), .ow (List.map eI []), .no, .no]) rfl (rs_bindG (re_dItems (re_tail (w := (List.map eS)) (re_frzN (re_bindP (rv_var rfl) (re_bindP (rv_lift rfl) (re_bindP rv_ret (re_lift op_split))))) fun c6 => (rv_lift (y := ((List.map eS) c6)) rfl))) fun c7 => (rs_for0 (e := eS) (xs := c7) (a := []) (f := fun (x26 : Str) (a27 : (List (List Int))) => if (!(Txt.startswith x26 (" " : Str))) = true then .exn "NoText" [("at", eI 0)] else M.bind (M.bind (M.bind (M.bind (pSlS x26 (some 1) none) fun c29 => pSplit c29 (" " : Str)) fun c31 => pMapX (fun (x32 : Str) => P_read_number x32) c31) fun c34 => pApp a27 c34) fun c33 => .ok c33) (fun (a42 : (List (List Int))) (st : DSt) => ∃ (j43 : (Option D)), st = [.sh (eD text), .sh (eS c4.1), .sh (eS c4.2.1), .sh (eS c4.2.2), .sh (eI c5), .ow (List.map (eL eI) a42), jk j43, .no]) ⟨none, rfl⟩ (fun | x26, a27, _, ⟨j28, rfl⟩ => ⟨[.sh (eD text), .sh (eS c4.1), .sh (eS c4.2.1), .sh (eS c4.2.2), .sh (eI c5), .ow (List.map (eL eI) a27), .sh (eS x26), .no], rfl, (rs_bindP (rv_dNot (rv_bind (rv_tst (rv_bind (rv_var rfl) (rv_bind (rv_lift rfl) (rv_bind rv_ret (rv_lift op_starts))))) rv_ret)) (rs_ite (fun _ => (rs_bindP rv_ret rs_raise1)) (fun _ => (rs_nx (rs_last (rs_x (x_appG (e := (eL eI)) (xs := a27) rfl (re_frzN (re_bindG (re_dItems (re_tail (w := (List.map eS)) (re_frzN (re_bindG (re_dSlS (re_bindP (rv_var rfl) (re_bindP (rv_dPart (rv_bind rv_ret (rv_lift (y := (some 1)) rfl))) (re_bindP rv_ret (re_lift op_slS))))) fun c29 => (re_bindP (rv_lift rfl) (re_bindP rv_ret (re_lift op_split))))) fun c30 => (rv_lift (y := ((List.map eS) c30)) rfl))) fun c31 => (re_compMX (e := eS) (f := fun (x32 : Str) => P_read_number x32) ([.sh (eD text), .sh (eS c4.1), .sh (eS c4.2.1), .sh (eS c4.2.2), .sh (eI c5), .ow (List.map (eL eI) a27), .sh (eS x26), .no]) rfl rfl rfl (fun x32 => ⟨[.sh (eD text), .sh (eS c4.1), .sh (eS c4.2.1), .sh (eS c4.2.2), .sh (eI c5), .ow (List.map (eL eI) a27), .sh (eS x26), .sh (eS x32)], [.sh (eD text), .sh (eS c4.1), .sh (eS c4.2.1), .sh (eS c4.2.2), .sh (eI c5), .ow (List.map (eL eI) a27), .sh (eS x26), .sh (eS x32)], rfl, (re_dCall (re_consP (rv_var rfl) (re_nil (re_liftM (S_read_number x32))))), rfl, rfl⟩)))) rfl) fun c33 => rs_st ([.sh (eD text), .sh (eS c4.1), .sh (eS c4.2.1), .sh (eS c4.2.2), .sh (eI c5), .ow (List.map (eL eI) c33), .sh (eS x26), .no]) rfl (rs_end ⟨rfl, (some (eS x26)), rfl⟩)))))))⟩) (fun | a35, _, ⟨j36, rfl⟩ => (rs_bindG (re_dOr (re_bindG (re_tst (re_dOp2 (re_bindP (rv_var rfl) (re_bindP rv_ret (re_lift op_eqD))))) fun c37 => (re_rv (w := (fun b : Bool => b)) (rv_or fun _ => (rv_tst (rv_dOp2 (rv_bind (rv_dOp1n (rv_bind (rv_rdO rfl) (rv_lift op_lenL))) (rv_bind (rv_var rfl) (rv_lift (ne_py pyI (x := (a35.length : Int)) (y := c5))))))))))) fun c38 => (rs_ite (fun _ => (rs_bindP rv_ret rs_raise1)) (fun _ => (rs_nx (rs_last (rs_tryXR (st1 := [.sh (eD text), .sh (eS c4.1), .sh (eS c4.2.1), .sh (eS c4.2.2), .sh (eI c5), .sh ((eL (eL eI)) a35), jk j36, .no]) (rv_consL (rv_frz rfl) rv_ret) (S_Semigroup___init___2 a35) (fun c41 => (.inl rfl)) (rs_bindP rv_ret rs_raise1)))))))))))))))))))))
def P__law_at (text : D) : M D := tryM (P_read_semigroup_2 text) (fun c1 => .ok (eU ())) (fun e2 f3 => pMt mt e2 "NoText" (pNX (M.bind (pXf e2 f3 "NoText" "at") fun c4 => .ok c4)) (.exn e2 f3))
theorem S__law_at (text : D) : DM (d__law_at [eD text]) (P__law_at text) eD := fn_F rfl (show RS true (sSeq (sTry mt (sExpr (dCall d_read_semigroup (dCons (dVar 0) dNil))) (⟨"NoText", some 1, (sRet (dXf 1 "NoText" "at"))⟩ :: [])) (sRet (dC .non))) [.sh (eD text), .no] (P__law_at text) (Kfn eD) from
  (rs_tryE (st1 := [.sh (eD text), .no]) (rv_consL (rv_var rfl) rv_ret) (S_read_semigroup_2 text) (fun c1 => (rs_last (rs_bindP (rv_eq rv_ret rfl) (rs_ret (.inl rfl))))) (fun e2 f3 => (rs_runNR rfl (by exact Nat.le_of_ble_eq_true rfl) rfl (re_xf rfl) (fun c4 => (.inl rfl)) rs_runN))))
def P_law (script : (List Int)) : M Bool := M.bind (pNX (P__law_state script)) fun c1 => M.bind (P__law_semigroup c1 6) fun c3 => M.bind (P_Semigroup___init__ c3.1) fun c5 => M.bind (M.bind (pStr (c3.1.length : Int)) fun c6 => pCatS c6 (":" : Str)) fun c7 => M.bind (pRng (c3.1.length : Int)) fun c8 => M.bind (pfold (fun (x42 : Int) (a43 : Str) => M.bind (if (decide (x42 > 0)) = true then M.bind (pCatS a43 (";" : Str)) fun c47 => .ok c47 else .ok a43 : M Str) fun (a48 : Str) => M.bind (pRng (c3.1.length : Int)) fun c49 => M.bind (pfold (fun (x60 : Int) (a61 : Str) => M.bind (M.bind (pCatS a61 (" " : Str)) fun c65 => M.bind (M.bind (M.bind (pAt c3.1 x42) fun c66 => pAt c66 x60) fun c67 => pStr c67) fun c68 => pCatS c65 c68) fun c69 => .ok c69) c49 a48) fun (a70 : Str) => .ok a70) c8 c7) fun (a75 : Str) => M.bind (M.bind (M.bind (pNX (P_Semigroup___str__ c5)) fun c78 => pNe (eS c78) (eS a75)) fun c79 => if c79 = true then .ok true else M.bind (M.bind (P_read_semigroup a75) fun c80 => oM ((opOwn "Semigroup" d_Semigroup___eq__ id) ((eC2 "Semigroup" "n" "table" eI (eT (eT eI))) c80) ((eC2 "Semigroup" "n" "table" eI (eT (eT eI))) c5))) fun c81 => pIsN c81 (eB true)) fun c82 => if c82 = true then .ok false else M.bind (M.bind (pCatS a75 (" " : Str)) fun c83 => M.bind (pCatS (" " : Str) a75) fun c84 => M.bind (pCatS a75 (";" : Str)) fun c85 => M.bind (pCatS a75 (" 0" : Str)) fun c86 => M.bind (pCatS a75 ("; 0" : Str)) fun c87 => M.bind (pSlS a75 (some 1) none) fun c88 => M.bind (pCatS ("0" : Str) a75) fun c89 => M.bind (pRepl a75 ":" "") fun c90 => M.bind (pRepl a75 " " "  ") fun c91 => M.bind (pSlS a75 none (some (-1))) fun c92 => M.bind (M.bind (pSlS a75 none (some (-1))) fun c93 => pCatS c93 ("x" : Str)) fun c94 => .ok [c83, c84, c85, c86, c87, c88, c89, c90, c91, c92, c94]) fun c95 => M.bind (M.bind (M.bind (M.bind (M.bind (pSlS a75 none (some (-1))) fun c101 => M.bind (pStr (c3.1.length : Int)) fun c102 => pCatS c101 c102) fun c103 => .ok (eS c103)) fun c104 => M.bind (M.bind (pRepl a75 ": " ":") fun c105 => .ok (eS c105)) fun c106 => M.bind (M.bind (pRepl a75 ":" ";") fun c107 => .ok (eS c107)) fun c108 => .ok [c104, c106, c108, (eS ("" : Str)), (eS ("1" : Str)), (eS ("1:" : Str)), (eS ("0:" : Str)), (eS ("0: 0" : Str)), (eS ("1: 1" : Str)), (eS ("1: 00" : Str)), (eS ("1: -0" : Str)), (eS ("2: 1 0; 0 0" : Str)), (eS ("2: 0 0;0 0" : Str)), (eU ()), (eI 0), ((eC2 "Semigroup" "n" "table" eI (eT (eT eI))) c5), ((eT eS) [("1: 0" : Str)])]) fun c109 => pCat (List.map (fun q => (eS q)) c95) c109) fun c110 => M.bind (M.bind (M.bind (pFil (fun (x111 : D) => M.bind (P__law_at x111) fun c112 => pNe c112 (eI 0)) (fun (x111 : D) => .ok x111) c110) fun c113 => .ok (c113.length : Int)) fun c114 => .ok (decide (c114 = 0))) fun c115 => .ok c115
theorem S_law (script : (List Int)) : D0 (d_law [D.scr script]) (P_law script) eB := fn_F0 rfl (show RS false (sSeq (sOwn 1 (dCallO d__law_state (dCons (dVar 0) dNil))) (sSeq (sSet 2 (dCallR d__law_semigroup 1 (dCons (dC (.int 6)) dNil))) (sSeq (sSet 3 (dOp1n opLen 2)) (sSeq (sSet 4 (dCall (makeM "Semigroup" d_Semigroup___init__) (dCons (dVar 2) dNil))) (sSeq (sSet 5 (dOp2 opAdd (dOp1n opStr 3) (dC (.str ":")))) (sSeq (sFor (.nm 6) (dRng (dVar 3)) (sSeq (sIf (dTst (dOp2 opGt (dVar 6) (dC (.int 0)))) (sSet 5 (dOp2 opAdd (dVar 5) (dC (.str ";")))) sPass) (sFor (.nm 7) (dRng (dVar 3)) (sSet 5 (dOp2 opAdd (dOp2 opAdd (dVar 5) (dC (.str " "))) (dOp1 opStr (dOp2 opIx (dOp2n opIx 2 (dVar 6)) (dVar 7)))))))) (sSeq (sIf (dOr (dTst (dOp2 opNe (dOp1 (opStrO "Semigroup" d_Semigroup___str__) (dVar 4)) (dVar 5))) (dTst (dOp2 opIsNot (dOp2 (opOwn "Semigroup" d_Semigroup___eq__ id) (dCall d_read_semigroup (dCons (dVar 5) dNil)) (dVar 4)) (dC (.bl true))))) (sRet (dC (.bl false))) sPass) (sSeq (sOwn 8 (dLst (dCons (dOp2 opAdd (dVar 5) (dC (.str " "))) (dCons (dOp2 opAdd (dC (.str " ")) (dVar 5)) (dCons (dOp2 opAdd (dVar 5) (dC (.str ";"))) (dCons (dOp2 opAdd (dVar 5) (dC (.str " 0"))) (dCons (dOp2 opAdd (dVar 5) (dC (.str "; 0"))) (dCons (dSlS (dVar 5) (dPart (dC (.int 1))) dNoP) (dCons (dOp2 opAdd (dC (.str "0")) (dVar 5)) (dCons (dOp1 (opRepl ":" "") (dVar 5)) (dCons (dOp1 (opRepl " " "  ") (dVar 5)) (dCons (dSlS (dVar 5) dNoP (dPart (dOp1 opNeg (dC (.int 1))))) (dCons (dOp2 opAdd (dSlS (dVar 5) dNoP (dPart (dOp1 opNeg (dC (.int 1))))) (dC (.str "x"))) dNil))))))))))))) (sSeq (sOwn 8 (dN2 nAdd (dVar 8) (dFrz (dLst (dCons (dOp2 opAdd (dSlS (dVar 5) dNoP (dPart (dOp1 opNeg (dC (.int 1))))) (dOp1n opStr 3)) (dCons (dOp1 (opRepl ": " ":") (dVar 5)) (dCons (dOp1 (opRepl ":" ";") (dVar 5)) (dCons (dC (.str "")) (dCons (dC (.str "1")) (dCons (dC (.str "1:")) (dCons (dC (.str "0:")) (dCons (dC (.str "0: 0")) (dCons (dC (.str "1: 1")) (dCons (dC (.str "1: 00")) (dCons (dC (.str "1: -0")) (dCons (dC (.str "2: 1 0; 0 0")) (dCons (dC (.str "2: 0 0;0 0")) (dCons (dC .non) (dCons (dC (.int 0)) (dCons (dVar 4) (dCons (dTup (dCons (dC (.str "1: 0")) dNil)) dNil))))))))))))))))))))) (sRet (dOp2 opEq (dOp1 opLen (dFrz (dComp [9] (.nm 9) (dItems (dVar 8)) (dTst (dOp2 opNe (dCall d__law_at (dCons (dVar 9) dNil)) (dC (.int 0)))) (dVar 9)))) (dC (.int 0))))))))))))) [.sh (D.scr script), .no, .no, .no, .no, .no, .no, .no, .no, .no] (P_law script) (Kfn eB) from
  (rs_bindG (re_dCallO (re_consP (rv_var rfl) (re_nil (re_liftO (S__law_state script))))) fun c1 => (rs_put (st1 := [.sh (D.scr script), .ow (List.map eI c1), .no, .no, .no, .no, .no, .no, .no, .no]) rfl (rs_bindS (fun (r4 : List Int) => [.sh (D.scr script), .ow (List.map eI r4), .no, .no, .no, .no, .no, .no, .no, .no]) (rt_dCallR (rt_bindP (rv_ow rfl) (rt_consP rv_ret (rt_nil (rt_callO (S := fun r2 => [.sh (D.scr script), .ow (List.map eI r2), .no, .no, .no, .no, .no, .no, .no, .no]) rfl (fun _ => rfl) (S__law_semigroup c1 6)))))) fun c3 => (rs_put (st1 := [.sh (D.scr script), .ow (List.map eI c3.2), .sh ((eL (eT eI)) c3.1), .no, .no, .no, .no, .no, .no, .no]) rfl (rs_bindP (rv_dOp1n (rv_bind (rv_rd rfl) (rv_lift op_lenL))) (rs_put (st1 := [.sh (D.scr script), .ow (List.map eI c3.2), .sh ((eL (eT eI)) c3.1), .sh (eI (c3.1.length : Int)), .no, .no, .no, .no, .no, .no]) rfl (rs_bindG (re_dCall (re_consP (rv_var rfl) (re_nil (re_liftM (S_Semigroup___init__ c3.1))))) fun c5 => (rs_put (st1 := [.sh (D.scr script), .ow (List.map eI c3.2), .sh ((eL (eT eI)) c3.1), .sh (eI (c3.1.length : Int)), .sh ((eC2 "Semigroup" "n" "table" eI (eT (eT eI))) c5), .no, .no, .no, .no, .no]) rfl (rs_bindG (re_dOp2 (re_bindG (re_dOp1n (re_bindP (rv_rd rfl) (re_lift op_str))) fun c6 => (re_bindP rv_ret (re_lift op_catS)))) fun c7 => (rs_put (st1 := [.sh (D.scr script), .ow (List.map eI c3.2), .sh ((eL (eT eI)) c3.1), .sh (eI (c3.1.length : Int)), .sh ((eC2 "Semigroup" "n" "table" eI (eT (eT eI))) c5), .sh (eS c7), .no, .no, .no, .no]) rfl (rs_bindG (re_dRng (re_bindP (rv_var rfl) (re_lift op_rng))) fun c8 => (rs_for0 (e := eI) (xs := c8) (a := c7) (f := fun (x42 : Int) (a43 : Str) => M.bind (if (decide (x42 > 0)) = true then M.bind (pCatS a43 (";" : Str)) fun c47 => .ok c47 else .ok a43 : M Str) fun (a48 : Str) => M.bind (pRng (c3.1.length : Int)) fun c49 => M.bind (pfold (fun (x60 : Int) (a61 : Str) => M.bind (M.bind (pCatS a61 (" " : Str)) fun c65 => M.bind (M.bind (M.bind (pAt c3.1 x42) fun c66 => pAt c66 x60) fun c67 => pStr c67) fun c68 => pCatS c65 c68) fun c69 => .ok c69) c49 a48) fun (a70 : Str) => .ok a70) (fun (a116 : Str) (st : DSt) => ∃ (j117 : (Option D)), ∃ (j118 : (Option D)), st = [.sh (D.scr script), .ow (List.map eI c3.2), .sh ((eL (eT eI)) c3.1), .sh (eI (c3.1.length : Int)), .sh ((eC2 "Semigroup" "n" "table" eI (eT (eT eI))) c5), .sh (eS a116), jk j117, jk j118, .no, .no]) ⟨none, none, rfl⟩ (fun | x42, a43, _, ⟨j44, j45, rfl⟩ => ⟨[.sh (D.scr script), .ow (List.map eI c3.2), .sh ((eL (eT eI)) c3.1), .sh (eI (c3.1.length : Int)), .sh ((eC2 "Semigroup" "n" "table" eI (eT (eT eI))) c5), .sh (eS a43), .sh (eI x42), jk j45, .no, .no], rfl, (rs_bindP (rv_tst (rv_dOp2 (rv_bind (rv_var rfl) (rv_bind rv_ret (rv_lift (y := (eB (decide (x42 > 0)))) rfl))))) (rs_join (I := (fun (a74 : Str) (st : DSt) => st = [.sh (D.scr script), .ow (List.map eI c3.2), .sh ((eL (eT eI)) c3.1), .sh (eI (c3.1.length : Int)), .sh ((eC2 "Semigroup" "n" "table" eI (eT (eT eI))) c5), .sh (eS a74), .sh (eI x42), jk j45, .no, .no])) (rs_iteN (fun _ => (rs_last (rs_bindG (re_dOp2 (re_bindP (rv_var rfl) (re_bindP rv_ret (re_lift op_catS)))) fun c47 => (rs_put (st1 := [.sh (D.scr script), .ow (List.map eI c3.2), .sh ((eL (eT eI)) c3.1), .sh (eI (c3.1.length : Int)), .sh ((eC2 "Semigroup" "n" "table" eI (eT (eT eI))) c5), .sh (eS c47), .sh (eI x42), jk j45, .no, .no]) rfl (rs_end ⟨rfl, rfl⟩))))) (fun _ => (rs_end ⟨rfl, rfl⟩))) fun | a48, _, rfl => (rs_last (rs_bindG (re_dRng (re_bindP (rv_var rfl) (re_lift op_rng))) fun c49 => (rs_for0 (e := eI) (xs := c49) (a := a48) (f := fun (x60 : Int) (a61 : Str) => M.bind (M.bind (pCatS a61 (" " : Str)) fun c65 => M.bind (M.bind (M.bind (pAt c3.1 x42) fun c66 => pAt c66 x60) fun c67 => pStr c67) fun c68 => pCatS c65 c68) fun c69 => .ok c69) (fun (a72 : Str) (st : DSt) => ∃ (j73 : (Option D)), st = [.sh (D.scr script), .ow (List.map eI c3.2), .sh ((eL (eT eI)) c3.1), .sh (eI (c3.1.length : Int)), .sh ((eC2 "Semigroup" "n" "table" eI (eT (eT eI))) c5), .sh (eS a72), .sh (eI x42), jk j73, .no, .no]) ⟨j45, rfl⟩ (fun | x60, a61, _, ⟨j62, rfl⟩ => ⟨[.sh (D.scr script), .ow (List.map eI c3.2), .sh ((eL (eT eI)) c3.1), .sh (eI (c3.1.length : Int)), .sh ((eC2 "Semigroup" "n" "table" eI (eT (eT eI))) c5), .sh (eS a61), .sh (eI x42), .sh (eI x60), .no, .no], rfl, (rs_last (rs_bindG (re_dOp2 (re_bindG (re_dOp2 (re_bindP (rv_var rfl) (re_bindP rv_ret (re_lift op_catS)))) fun c65 => (re_bindG (re_dOp1 (re_bindG (re_dOp2 (re_bindG (re_dOp2n (re_bindP (rv_rd rfl) (re_bindP (rv_var rfl) (re_bindP (rv_rd rfl) (re_lift op_atL))))) fun c66 => (re_bindP (rv_var rfl) (re_lift op_atT)))) fun c67 => (re_lift op_str))) fun c68 => (re_lift op_catS)))) fun c69 => (rs_put (st1 := [.sh (D.scr script), .ow (List.map eI c3.2), .sh ((eL (eT eI)) c3.1), .sh (eI (c3.1.length : Int)), .sh ((eC2 "Semigroup" "n" "table" eI (eT (eT eI))) c5), .sh (eS c69), .sh (eI x42), .sh (eI x60), .no, .no]) rfl (rs_end ⟨rfl, (some (eI x60)), rfl⟩))))⟩) (fun | a70, _, ⟨j71, rfl⟩ => (rs_end ⟨rfl, (some (eI x42)), j71, rfl⟩)))))))⟩) (fun | a75, _, ⟨j76, j77, rfl⟩ => (rs_bindG (re_dOr (re_bindG (re_tst (re_dOp2 (re_bindG (re_dOp1 (re_bindP (rv_var rfl) (re_lift (op_strO ⟨_, _, rfl⟩ (S_Semigroup___str__ c5))))) fun c78 => (re_bindP (rv_var rfl) (re_lift op_neD))))) fun c79 => (re_ite (fun _ => re_rv rv_ret) (fun _ => (re_tst (re_dOp2 (re_bindG (re_dOp2 (re_bindG (re_dCall (re_consP (rv_var rfl) (re_nil (re_liftM (S_read_semigroup a75))))) fun c80 => (re_bindP (rv_var rfl) (by first | exact re_lift op_D | exact re_lift op_DL)))) fun c81 => (re_bindP rv_ret (re_lift op_isNDD))))))))) fun c82 => (rs_ite (fun _ => (rs_bindP rv_ret (rs_ret (.inl rfl)))) (fun _ => (rs_nx (rs_bindG (re_dLst (re_consG (re_dOp2 (re_bindP (rv_var rfl) (re_bindP rv_ret (re_lift op_catS)))) fun c83 => (re_consG (re_dOp2 (re_bindP rv_ret (re_bindP (rv_var rfl) (re_lift op_catS)))) fun c84 => (re_consG (re_dOp2 (re_bindP (rv_var rfl) (re_bindP rv_ret (re_lift op_catS)))) fun c85 => (re_consG (re_dOp2 (re_bindP (rv_var rfl) (re_bindP rv_ret (re_lift op_catS)))) fun c86 => (re_consG (re_dOp2 (re_bindP (rv_var rfl) (re_bindP rv_ret (re_lift op_catS)))) fun c87 => (re_consG (re_dSlS (re_bindP (rv_var rfl) (re_bindP (rv_dPart (rv_bind rv_ret (rv_lift (y := (some 1)) rfl))) (re_bindP rv_ret (re_lift op_slS))))) fun c88 => (re_consG (re_dOp2 (re_bindP rv_ret (re_bindP (rv_var rfl) (re_lift op_catS)))) fun c89 => (re_consG (re_dOp1 (re_bindP (rv_var rfl) (re_lift op_repl))) fun c90 => (re_consG (re_dOp1 (re_bindP (rv_var rfl) (re_lift op_repl))) fun c91 => (re_consG (re_dSlS (re_bindP (rv_var rfl) (re_bindP rv_ret (re_bindP (rv_dPart (rv_bind (rv_dOp1 (rv_bind rv_ret (rv_lift (y := (eI (-1))) rfl))) (rv_lift (y := (some (-1))) rfl))) (re_lift op_slS))))) fun c92 => (re_consG (re_dOp2 (re_bindG (re_dSlS (re_bindP (rv_var rfl) (re_bindP rv_ret (re_bindP (rv_dPart (rv_bind (rv_dOp1 (rv_bind rv_ret (rv_lift (y := (eI (-1))) rfl))) (rv_lift (y := (some (-1))) rfl))) (re_lift op_slS))))) fun c93 => (re_bindP rv_ret (re_lift op_catS)))) fun c94 => (re_nil (re_rv (w := (List.map eS)) (rv_lift (y := ((List.map eS) [c83, c84, c85, c86, c87, c88, c89, c90, c91, c92, c94])) (op_lst (by exact Nat.le_of_ble_eq_true rfl) rfl)))))))))))))))) fun c95 => (rs_put (st1 := [.sh (D.scr script), .ow (List.map eI c3.2), .sh ((eL (eT eI)) c3.1), .sh (eI (c3.1.length : Int)), .sh ((eC2 "Semigroup" "n" "table" eI (eT (eT eI))) c5), .sh (eS a75), jk j76, jk j77, .ow (List.map eS c95), .no]) rfl (rs_bindG (re_dN2 (re_bindP (rv_frz rfl) (re_bindG (re_frzN (re_dLst (re_consG (re_map (w := eD) (re_dOp2 (re_bindG (re_dSlS (re_bindP (rv_var rfl) (re_bindP rv_ret (re_bindP (rv_dPart (rv_bind (rv_dOp1 (rv_bind rv_ret (rv_lift (y := (eI (-1))) rfl))) (rv_lift (y := (some (-1))) rfl))) (re_lift op_slS))))) fun c101 => (re_bindG (re_dOp1n (re_bindP (rv_rd rfl) (re_lift op_str))) fun c102 => (re_lift op_catS)))) (fun _ => rfl)) fun c104 => (re_consG (re_map (w := eD) (re_dOp1 (re_bindP (rv_var rfl) (re_lift op_repl))) (fun _ => rfl)) fun c106 => (re_consG (re_map (w := eD) (re_dOp1 (re_bindP (rv_var rfl) (re_lift op_repl))) (fun _ => rfl)) fun c108 => (re_consP (rv_eq rv_ret rfl) (re_consP (rv_eq rv_ret rfl) (re_consP (rv_eq rv_ret rfl) (re_consP (rv_eq rv_ret rfl) (re_consP (rv_eq rv_ret rfl) (re_consP (rv_eq rv_ret rfl) (re_consP (rv_eq rv_ret rfl) (re_consP (rv_eq rv_ret rfl) (re_consP (rv_eq rv_ret rfl) (re_consP (rv_eq rv_ret rfl) (re_consP (rv_eq rv_ret rfl) (re_consP (rv_eq rv_ret rfl) (re_consP (rv_eq (rv_var rfl) rfl) (re_consP (rv_eq (rv_dTup (rv_cons rv_ret (rv_nil (rv_lift (y := ((eT eS) [("1: 0" : Str)])) (op_tup (by exact Nat.le_of_ble_eq_true rfl) rfl))))) rfl) (re_nil (re_rv (w := (List.map eD)) (rv_lift (y := ((List.map eD) [c104, c106, c108, (eS ("" : Str)), (eS ("1" : Str)), (eS ("1:" : Str)), (eS ("0:" : Str)), (eS ("0: 0" : Str)), (eS ("1: 1" : Str)), (eS ("1: 00" : Str)), (eS ("1: -0" : Str)), (eS ("2: 1 0; 0 0" : Str)), (eS ("2: 0 0;0 0" : Str)), (eU ()), (eI 0), ((eC2 "Semigroup" "n" "table" eI (eT (eT eI))) c5), ((eT eS) [("1: 0" : Str)])])) (op_lst (by exact Nat.le_of_ble_eq_true rfl) rfl))))))))))))))))))))))) fun c109 => (re_lift (op_nCatD (xs := (List.map (fun q => (eS q)) c95)) (ys := c109) (by first | rfl | simp [eL, eT, List.map_map, Function.comp_def]) (by first | rfl | simp [eL, eT, List.map_map, Function.comp_def])))))) fun c110 => (rs_put (st1 := [.sh (D.scr script), .ow (List.map eI c3.2), .sh ((eL (eT eI)) c3.1), .sh (eI (c3.1.length : Int)), .sh ((eC2 "Semigroup" "n" "table" eI (eT (eT eI))) c5), .sh (eS a75), jk j76, jk j77, .ow (List.map eD c110), .no]) rfl (rs_last (rs_bindG (re_dOp2 (re_bindG (re_dOp1 (re_bindG (re_frzN (re_bindP (rv_dItems (rv_bind (rv_frz rfl) (rv_lift (y := ((List.map eD) c110)) rfl))) (re_compF (e := eD) (p := fun (x111 : D) => M.bind (P__law_at x111) fun c112 => pNe c112 (eI 0)) (f := fun (x111 : D) => .ok x111) ([.sh (D.scr script), .ow (List.map eI c3.2), .sh ((eL (eT eI)) c3.1), .sh (eI (c3.1.length : Int)), .sh ((eC2 "Semigroup" "n" "table" eI (eT (eT eI))) c5), .sh (eS a75), jk j76, jk j77, .sh ((eL eD) c110), .no]) rfl rfl rfl (fun x111 => ⟨[.sh (D.scr script), .ow (List.map eI c3.2), .sh ((eL (eT eI)) c3.1), .sh (eI (c3.1.length : Int)), .sh ((eC2 "Semigroup" "n" "table" eI (eT (eT eI))) c5), .sh (eS a75), jk j76, jk j77, .sh ((eL eD) c110), .sh (eD x111)], [.sh (D.scr script), .ow (List.map eI c3.2), .sh ((eL (eT eI)) c3.1), .sh (eI (c3.1.length : Int)), .sh ((eC2 "Semigroup" "n" "table" eI (eT (eT eI))) c5), .sh (eS a75), jk j76, jk j77, .sh ((eL eD) c110), .sh (eD x111)], [.sh (D.scr script), .ow (List.map eI c3.2), .sh ((eL (eT eI)) c3.1), .sh (eI (c3.1.length : Int)), .sh ((eC2 "Semigroup" "n" "table" eI (eT (eT eI))) c5), .sh (eS a75), jk j76, jk j77, .sh ((eL eD) c110), .sh (eD x111)], rfl, (re_tst (re_dOp2 (re_bindG (re_dCall (re_consP (rv_var rfl) (re_nil (re_liftM (S__law_at x111))))) fun c112 => (re_bindP rv_ret (re_lift op_neD))))), (re_rv (w := eD) (rv_var rfl)), rfl, rfl⟩)))) fun c113 => (re_rv (w := eI) (rv_lift op_lenL)))) fun c114 => (re_bindP rv_ret (re_rv (w := eB) (rv_lift (eq_py pyI (x := c114) (y := 0))))))) fun c115 => (rs_ret (.inl rfl))))))))))))))))))))))))))
end LAW
namespace LAW
open DL PySem L2
theorem take_d {m : Int} (h0 : 0 < m) (h1 : m < 1073741824) : Draw (fun r => P__law_take r m) (fun v => 0 ≤ v ∧ v < m) := by
  rintro _ ⟨s, t, rfl, g⟩
  have e0 : pAt [s, t] 0 = .ok s := rfl
  have e1 : pAt [s, t] 1 = .ok t := rfl
  have e2 : ∀ v, pSet [s, t] 0 v = .ok [v, t] := fun _ => rfl
  have e3 : ∀ v, pSet [s, t] 1 v = .ok [s, v] := fun _ => rfl
  have e4 : ∀ s v : Int, pAt [s, v] 1 = .ok v := fun _ _ => rfl
  by_cases hs : 0 < s
  · refine ⟨(s % m, [s / m, t]), ?_, ⟨Int.emod_nonneg _ (by omega), Int.emod_lt_of_pos _ h0⟩, s / m, t, rfl, ⟨Int.ediv_nonneg g.s0 (by omega), g.t0, g.t1⟩⟩
    simp [P__law_take, e0, e1, e2, hs, pMod_ok h0, pDiv_ok h0 h1]
  · refine ⟨((((t * 48271 + 11) % 2147483647) / 7) % m, [s, (t * 48271 + 11) % 2147483647]), ?_, ⟨Int.emod_nonneg _ (by omega), Int.emod_lt_of_pos _ h0⟩, s, _, rfl, ⟨g.s0, Int.emod_nonneg _ (by decide), Int.emod_lt_of_pos _ (by decide)⟩⟩
    have q1 : pMul t 48271 = .ok (t * 48271) := pMul_ok2 (by decide)
    have q2 : ∀ x, pMod x 2147483647 = .ok (x % 2147483647) := fun x => pMod_ok (by decide)
    have q3 : ∀ x, pDiv x 7 = .ok (x / 7) := fun x => pDiv_ok (by decide) (by decide)
    simp [P__law_take, e0, e1, e2, e3, e4, hs, q1, q2, q3, pMod_ok h0]
theorem state_d (ns : List Int) : Ok (P__law_state ns) StOk := by
  unfold P__law_state
  refine Ok.bind (P := fun a => Good a.1 a.2) (Ok.fold_all _ ⟨by decide, by decide, by decide⟩ fun x _ a g => ?_) fun a g => ⟨_, rfl, _, _, rfl, g⟩
  rw [pMul_ok2 (by decide), pMul_ok2 (by decide)]
  simp only [bind_ok]
  rw [pMod_ok (by decide)]
  refine Ok.pure ⟨?_, Int.emod_nonneg _ (by decide), Int.emod_lt_of_pos _ (by decide)⟩
  have := g.s0
  show 0 ≤ _ + _
  split <;> omega
theorem seqIx {j : Nat} {n : Nat} (h : j < n) : seqIndex? (j : Int) n = some j := by
  unfold seqIndex?
  simp; omega
theorem popAt_ok {α : Type} [Inhabited α] {xs : List α} {k : Int} (h0 : 0 ≤ k) (h : k < xs.length) (hb : xs.length ≤ 16777216) : pPopAt xs k = .ok (ix xs k, xs.eraseIdx k.toNat) := by
  obtain ⟨j, rfl⟩ := Int.eq_ofNat_of_zero_le h0
  have hj : j < xs.length := by omega
  unfold pPopAt
  rw [seqIx hj]
  have hbig : big = 16777216 := rfl
  simp only [List.getElem?_eq_getElem hj]
  rw [if_pos (by omega)]
  simp [ix, hj]
theorem perm_erase {α : Type} [Inhabited α] : ∀ (l : List α) (j : Nat), j < l.length → (ix l j :: l.eraseIdx j).Perm l
  | [], _, h => absurd h (Nat.not_lt_zero _)
  | x :: l, 0, _ => .refl _
  | x :: l, j + 1, h => by
    have e : ix (x :: l) ((j + 1 : Nat) : Int) = ix l (j : Int) := by rw [ix_cons (by omega)]; congr 1; omega
    rw [e]
    exact (List.Perm.swap _ _ _).trans ((perm_erase l j (by simpa using h)).cons x)
theorem order_d {n : Int} (h0 : 0 ≤ n) (hn : n ≤ 1000) : Draw (fun r => P__law_order_of r n) (fun p => p.Perm (rng n)) := by
  intro r hr
  unfold P__law_order_of
  rw [pRng_ok h0 (by omega)]
  simp only [bind_ok]
  refine Ok.bind (Ok.fold_rng (fun k (a : List Int × List Int × List Int) => StOk a.1 ∧ (a.2.1.length : Int) = n - k ∧ (a.2.2.length : Int) = k ∧ (a.2.1 ++ a.2.2).Perm (rng n)) h0 ⟨hr, by simp; omega, rfl, by simp⟩ (fun k a hk hk' hi => ?_) fun b h => h) fun b hb => ?_
  · obtain ⟨r, left, found⟩ := a
    obtain ⟨hr, hl, hf, hp⟩ := hi
    simp only at hr hl hf hp ⊢
    refine (take_d (m := (left.length : Int)) (by omega) (by omega) r hr).bind fun c hc => ?_
    obtain ⟨⟨h3, h4⟩, hr'⟩ := hc
    rw [popAt_ok h3 h4 (by omega), bind_ok, pApp_ok (by omega), bind_ok]
    refine Ok.pure ⟨hr', ?_, ?_, ?_⟩
    · simp only [List.length_eraseIdx]
      rw [if_pos (by omega)]
      omega
    · simp; omega
    · simp only
      refine List.Perm.trans ?_ hp
      rw [← List.append_assoc]
      refine List.perm_append_comm.trans ?_
      have := perm_erase left c.1.toNat (by omega)
      rw [Int.toNat_of_nonneg h3] at this
      exact this.append_right found
  · obtain ⟨hr, hl, hf, hp⟩ := hb
    refine Ok.pure ⟨?_, hr⟩
    have : b.2.1 = [] := List.length_eq_zero_iff.mp (by omega)
    rw [this] at hp
    simpa using hp
/-- p is one to one on the numbers below n -/
structure Ord (n : Int) (p : List Int) : Prop where
  len : (p.length : Int) = n
  lt : ∀ x ∈ p, 0 ≤ x ∧ x < n
  inj : ∀ a b, 0 ≤ a → a < n → 0 ≤ b → b < n → ix p a = ix p b → a = b
  sur : ∀ y, 0 ≤ y → y < n → ∃ x, 0 ≤ x ∧ x < n ∧ ix p x = y
theorem Ord.at_ {n : Int} {p : List Int} (o : Ord n p) {x : Int} (h0 : 0 ≤ x) (h1 : x < n) : 0 ≤ ix p x ∧ ix p x < n := o.lt _ (ix_mem h0 (by rw [o.len]; exact h1))
theorem ord_of {n : Int} {p : List Int} (hn : 0 ≤ n) (h : p.Perm (rng n)) : Ord n p := by
  have hl : (p.length : Int) = n := by have := h.length_eq; simp at this; omega
  refine ⟨hl, fun x hx => by simpa using h.mem_iff.mp hx, fun a b ha ha' hb hb' e => ?_, fun y h0 h1 => ?_⟩
  · have nd : p.Nodup := h.nodup_iff.mpr rng_nodup
    unfold ix at e
    rw [List.getD_eq_getElem?_getD, List.getD_eq_getElem?_getD, List.getElem?_eq_getElem (by omega), List.getElem?_eq_getElem (by omega)] at e
    simp only [Option.getD_some] at e
    have := (List.getElem_inj nd).mp e
    omega
  · obtain ⟨i, h2, h3, h4⟩ := mem_ix (h.mem_iff.mpr (mem_rng.mpr ⟨h0, h1⟩))
    exact ⟨i, h2, by omega, h4⟩
end LAW
namespace LAW
open DL PySem L2
structure Sq (n : Int) (M : List (List Int)) : Prop where
  len : (M.length : Int) = n
  row : ∀ r ∈ M, (r.length : Int) = n
def set2 (M : List (List Int)) (k l v : Int) : List (List Int) := M.set k.toNat ((ix M k).set l.toNat v)
section
variable {n : Int} {M : List (List Int)} {k l v i j : Int}
theorem Sq.rlen (V : Sq n M) (h0 : 0 ≤ i) (h1 : i < n) : ((ix M i).length : Int) = n := V.row _ (ix_mem h0 (by rw [V.len]; exact h1))
theorem pSet2_ok (V : Sq n M) (h0 : 0 ≤ k) (h1 : k < n) (h2 : 0 ≤ l) (h3 : l < n) : pSet2 M k l v = .ok (set2 M k l v) := by
  unfold pSet2 set2
  rw [pAt_ok h0 (by rw [V.len]; exact h1), bind_ok, pSet_ok h2 (by rw [V.rlen h0 h1]; exact h3), bind_ok, pSet_ok h0 (by rw [V.len]; exact h1)]
theorem Sq.set (V : Sq n M) (h0 : 0 ≤ k) (h1 : k < n) : Sq n (set2 M k l v) := by
  refine ⟨by unfold set2; rw [List.length_set]; exact V.len, fun r hr => ?_⟩
  rcases List.mem_or_eq_of_mem_set hr with hr | rfl
  · exact V.row r hr
  · rw [List.length_set]; exact V.rlen h0 h1
theorem mul_set2 (V : Sq n M) (h0 : 0 ≤ k) (h1 : k < n) (h2 : 0 ≤ l) (h3 : l < n) (hi : 0 ≤ i) (hj : 0 ≤ j) : mul (set2 M k l v) i j = if i = k ∧ j = l then v else mul M i j := by
  unfold mul set2
  rw [ix_set h0 (by rw [V.len]; exact h1) hi]
  by_cases e : i = k
  · subst e
    rw [if_pos rfl, ix_set h2 (by rw [V.rlen h0 h1]; exact h3) hj]
    simp
  · rw [if_neg e, if_neg (fun q => e q.1)]
theorem VT_sq {T : List (List Int)} (V : VT n T) : Sq n T := ⟨V.len, V.row⟩
end
theorem renamed_d {n : Int} {T : List (List Int)} {p : List Int} (hn : n ≤ 1000) (V : VT n T) (o : Ord n p) :
    Ok (P__law_renamed T p) (fun S => VT n S ∧ ∀ x y, 0 ≤ x → x < n → 0 ≤ y → y < n → mul S (ix p x) (ix p y) = ix p (mul T x y)) := by
  have n0 := V.n0
  unfold P__law_renamed
  rw [V.len]
  simp only [pRng_ok n0 (show n ≤ 16777216 by omega), bind_ok, bind_pure]
  rw [pMap_tab (f := fun _ _ => 0) n0 (by omega) (fun _ _ _ _ _ _ => rfl), bind_ok]
  refine Ok.bind (Ok.fold_rng (fun k M => Sq n M ∧ ∀ x y, 0 ≤ x → x < n → 0 ≤ y → y < n → x < k → mul M (ix p x) (ix p y) = ix p (mul T x y)) n0 ⟨VT_sq (VT_tab (f := fun _ _ => 0) n0 (fun _ _ _ _ _ _ => ⟨by omega, by omega⟩)), fun x y _ _ _ _ h => by omega⟩ (fun k M hk hk' hM => ?_) fun _ h => h) fun M hM => ?_
  · obtain ⟨sq, hM⟩ := hM
    refine Ok.fold_rng (fun l M => Sq n M ∧ ∀ x y, 0 ≤ x → x < n → 0 ≤ y → y < n → (x < k ∨ (x = k ∧ y < l)) → mul M (ix p x) (ix p y) = ix p (mul T x y)) n0 ⟨sq, fun x y h1 h2 h3 h4 h5 => hM x y h1 h2 h3 h4 (by omega)⟩ (fun l M hl hl' hM => ?_) fun M hM => ⟨hM.1, fun x y h1 h2 h3 h4 h5 => hM.2 x y h1 h2 h3 h4 (by omega)⟩
    obtain ⟨sq, hM⟩ := hM
    have m1 := V.lt hk hk' hl hl'
    have a1 := o.at_ hk hk'
    have a2 := o.at_ hl hl'
    rw [V.at1 hk hk', bind_ok, V.at2 hk hk' hl hl', bind_ok, pAt_ok m1.1 (by rw [o.len]; exact m1.2), bind_ok, pAt_ok hk (by rw [o.len]; exact hk'), bind_ok, pAt_ok hl (by rw [o.len]; exact hl'), bind_ok,
      pSet2_ok sq a1.1 a1.2 a2.1 a2.2, pNX_ok]
    refine Ok.pure ⟨sq.set a1.1 a1.2, fun x y h1 h2 h3 h4 h5 => ?_⟩
    have b1 := o.at_ h1 h2
    have b2 := o.at_ h3 h4
    rw [mul_set2 sq a1.1 a1.2 a2.1 a2.2 b1.1 b2.1]
    by_cases e : x = k ∧ y = l
    · obtain ⟨rfl, rfl⟩ := e
      rw [if_pos ⟨rfl, rfl⟩]
    · rw [if_neg fun q => e ⟨o.inj x k h1 h2 hk hk' q.1, o.inj y l h3 h4 hl hl' q.2⟩]
      exact hM x y h1 h2 h3 h4 (by omega)
  · obtain ⟨sq, hM⟩ := hM
    have hb : big = 16777216 := rfl
    have hl := sq.len
    rw [pMap_ok (fun r => r) (by omega) (fun _ _ => rfl)]
    refine Ok.pure ?_
    rw [List.map_id']
    refine ⟨⟨sq.len, sq.row, fun r hr v hv => ?_⟩, fun x y h1 h2 h3 h4 => hM x y h1 h2 h3 h4 h2⟩
    obtain ⟨i, i0, i1, rfl⟩ := mem_ix hr
    obtain ⟨j, j0, j1, rfl⟩ := mem_ix hv
    rw [sq.len] at i1
    rw [sq.rlen i0 i1] at j1
    obtain ⟨x, x0, x1, rfl⟩ := o.sur i i0 i1
    obtain ⟨y, y0, y1, rfl⟩ := o.sur j j0 j1
    show 0 ≤ mul M (ix p x) (ix p y) ∧ mul M (ix p x) (ix p y) < n
    rw [hM x y x0 x1 y0 y1 x1]
    have m1 := V.lt x0 x1 y0 y1
    exact o.at_ m1.1 m1.2
/-- .. keeps what the brackets say -/
theorem renamed_asc {n : Int} {S T : List (List Int)} {p : List Int} (V : VT n T) (o : Ord n p) (h : ∀ x y, 0 ≤ x → x < n → 0 ≤ y → y < n → mul S (ix p x) (ix p y) = ix p (mul T x y)) (a : Asc n (mul T)) : Asc n (mul S) := by
  intro x y z h1 h2 h3 h4 h5 h6
  obtain ⟨x, x0, x1, rfl⟩ := o.sur x h1 h2
  obtain ⟨y, y0, y1, rfl⟩ := o.sur y h3 h4
  obtain ⟨z, z0, z1, rfl⟩ := o.sur z h5 h6
  have m1 := V.lt x0 x1 y0 y1
  have m2 := V.lt y0 y1 z0 z1
  rw [h x y x0 x1 y0 y1, h y z y0 y1 z0 z1, h _ z m1.1 m1.2 z0 z1, h x _ x0 x1 m2.1 m2.2, a x y z x0 x1 y0 y1 z0 z1]
end LAW
namespace LAW
open DL PySem L2
/-- a semigroup's table of at most so many elements -/
def SG (most : Int) (T : List (List Int)) : Prop := ∃ n, 1 ≤ n ∧ n ≤ most ∧ VT n T ∧ Asc n (mul T)
theorem SG_tab {n most : Int} {f : Int → Int → Int} (h1 : 1 ≤ n) (h2 : n ≤ most) (hc : ∀ x y, 0 ≤ x → x < n → 0 ≤ y → y < n → 0 ≤ f x y ∧ f x y < n) (h : Asc n f) : SG most (tab n f) :=
  ⟨n, h1, h2, VT_tab (by omega) hc, Asc_tab h hc⟩
def red (n i p k : Int) : Int := if k > n then i + (k - i) % p else k
theorem red_add {n i p a b : Int} (hp : 0 < p) (hn : n = i + p - 1) (hi : 1 ≤ i) (ha : 1 ≤ a) (hb : 1 ≤ b) : red n i p (red n i p a + b) = red n i p (a + b) := by
  unfold red
  by_cases h : a > n
  · rw [if_pos h]
    have m1 := Int.emod_nonneg (a - i) (show p ≠ 0 by omega)
    have m2 := Int.emod_lt_of_pos (a - i) hp
    rw [if_pos (show a + b > n by omega)]
    have e : (a + b - i) % p = ((a - i) % p + b) % p := by rw [Int.emod_add_emod, show a - i + b = a + b - i by omega]
    by_cases h2 : i + (a - i) % p + b > n
    · rw [if_pos h2, e, show i + (a - i) % p + b - i = (a - i) % p + b by omega]
    · rw [if_neg h2, e, Int.emod_eq_of_lt (a := (a - i) % p + b) (b := p) (by omega) (by omega)]
      omega
  · rw [if_neg h]
theorem red_rng {n i p k : Int} (hp : 0 < p) (hn : n = i + p - 1) (hi : 1 ≤ i) (hk : 1 ≤ k) : 1 ≤ red n i p k ∧ red n i p k ≤ n := by
  unfold red
  have m1 := Int.emod_nonneg (k - i) (show p ≠ 0 by omega)
  have m2 := Int.emod_lt_of_pos (k - i) hp
  split <;> omega
theorem monogenic_d {most : Int} (h0 : 1 ≤ most) (h1 : most ≤ 1000) : Draw (fun r => P__law_monogenic r most) (SG most) := by
  intro r hr
  unfold P__law_monogenic
  refine Ok.bind (Ok.bind (take_d (m := most) (by omega) (by omega) r hr) fun c hc => Ok.pure (a := (1 + c.1, c.2)) (Q := fun p => (1 ≤ p.1 ∧ p.1 ≤ most) ∧ StOk p.2) ⟨⟨by omega, by omega⟩, hc.2⟩) fun c hc => ?_
  obtain ⟨n, r⟩ := c
  obtain ⟨⟨n1, n2⟩, hr⟩ := hc
  simp only at n1 n2 hr ⊢
  refine Ok.bind (Ok.bind (take_d (m := n) (by omega) (by omega) r hr) fun c hc => Ok.pure (a := (1 + c.1, c.2)) (Q := fun p => (1 ≤ p.1 ∧ p.1 ≤ n) ∧ StOk p.2) ⟨⟨by omega, by omega⟩, hc.2⟩) fun c hc => ?_
  obtain ⟨p, r⟩ := c
  obtain ⟨⟨p1, p2⟩, hr⟩ := hc
  simp only at p1 p2 hr ⊢
  simp only [pRng_ok (show 0 ≤ n by omega) (show n ≤ 16777216 by omega), bind_ok, bind_pure]
  have hin : ∀ x, 0 ≤ x → pfold (fun (x133 : Int) (a134 : List Int) => (if decide (x + x133 + 2 > n) = true then (pMod (x + x133 + 2 - (n + 1 - p)) p).bind fun c139 => M.ok (n + 1 - p + c139) else M.ok (x + x133 + 2)).bind fun a141 => pApp a134 (a141 - 1)) (rng n) [] = .ok ((rng n).map fun y => red n (n + 1 - p) p (x + y + 2) - 1) := by
    intro x hx
    rw [pfold_app (fun y => red n (n + 1 - p) p (x + y + 2) - 1) (rng n) [] (by simp; omega) fun y hy a ha => ?_]
    · simp
    · rw [mem_rng] at hy
      unfold red
      by_cases h : x + y + 2 > n
      · simp only [h, decide_true, if_true]
        rw [pMod_ok (by omega)]
        simp only [bind_ok]
        rw [pApp_ok ha]
      · simp only [h, decide_false, if_false]
        simp only [Bool.false_eq_true, if_false, bind_ok]
        rw [pApp_ok ha]
  rw [pfold_app (fun x => (rng n).map fun y => red n (n + 1 - p) p (x + y + 2) - 1) (rng n) [] (by simp; omega) fun x hx a ha => by
    rw [mem_rng] at hx
    rw [hin x hx.1, bind_ok, pApp_ok ha]]
  refine Ok.pure ⟨?_, hr⟩
  refine SG_tab (f := fun x y => red n (n + 1 - p) p (x + y + 2) - 1) n1 n2 (fun x y hx hx' hy hy' => ?_) (fun x y z hx hx' hy hy' hz hz' => ?_)
  · have := red_rng (n := n) (i := n + 1 - p) (p := p) (k := x + y + 2) (by omega) (by omega) (by omega) (by omega)
    omega
  · have a1 := red_add (n := n) (i := n + 1 - p) (p := p) (a := x + y + 2) (b := z + 1) (by omega) (by omega) (by omega) (by omega) (by omega)
    have a2 := red_add (n := n) (i := n + 1 - p) (p := p) (a := y + z + 2) (b := x + 1) (by omega) (by omega) (by omega) (by omega) (by omega)
    show red _ _ _ (red _ _ _ (x + y + 2) - 1 + z + 2) - 1 = red _ _ _ (x + (red _ _ _ (y + z + 2) - 1) + 2) - 1
    rw [show red n (n + 1 - p) p (x + y + 2) - 1 + z + 2 = red n (n + 1 - p) p (x + y + 2) + (z + 1) by omega, a1,
      show x + (red n (n + 1 - p) p (y + z + 2) - 1) + 2 = red n (n + 1 - p) p (y + z + 2) + (x + 1) by omega, a2]
    congr 2; omega
def lists {α : Type} (xs : List α) : Nat → List (List α)
  | 0 => [[]]
  | k + 1 => (lists xs k).flatMap fun l => xs.map fun x => x :: l
theorem mem_lists {α : Type} {xs : List α} : ∀ {l : List α}, (∀ x ∈ l, x ∈ xs) → l ∈ lists xs l.length
  | [], _ => by simp [lists]
  | x :: l, h => by
    simp only [List.length_cons, lists, List.mem_flatMap, List.mem_map]
    exact ⟨l, mem_lists fun y hy => h y (List.mem_cons_of_mem _ hy), x, h x List.mem_cons_self, rfl⟩
def sgB (most : Int) (T : List (List Int)) : Bool :=
  let n : Int := T.length
  decide (1 ≤ n) && (decide (n ≤ most) && (T.all (fun r => decide ((r.length : Int) = n) && r.all fun x => decide (0 ≤ x) && decide (x < n)) && (rng n).all fun x => (rng n).all fun y => (rng n).all fun z => decide (mul T (mul T x y) z = mul T x (mul T y z))))
theorem sgB_ok {most : Int} {T : List (List Int)} (h : sgB most T = true) : SG most T := by
  unfold sgB at h
  simp only [Bool.and_eq_true, decide_eq_true_eq, List.all_eq_true] at h
  obtain ⟨h1, h2, h3, h4⟩ := h
  refine ⟨T.length, h1, h2, ⟨rfl, fun r hr => (h3 r hr).1, fun r hr x hx => (h3 r hr).2 x hx⟩, fun x y z hx hx' hy hy' hz hz' => h4 x (mem_rng.mpr ⟨hx, hx'⟩) y (mem_rng.mpr ⟨hy, hy'⟩) z (mem_rng.mpr ⟨hz, hz'⟩)⟩
def okB (most : Int) (o : M (List (List Int))) : Bool := match o with
  | .ok T => sgB most T
  | _ => false
theorem okB_ok {most : Int} {o : M (List (List Int))} (h : okB most o = true) : Ok o (SG most) := by
  unfold okB at h
  split at h
  · exact Ok.pure (sgB_ok h)
  · cases h
def tripB (a b g : Int) (z : Bool) : Bool := (lists (lists (rng g) a.toNat) b.toNat).all fun tw => (lists (lists [false, true] a.toNat) b.toNat).all fun ho => okB (a * b * g + if z = true then 1 else 0) (P__law_triples a b g tw ho z)
theorem trip_all : ([(1, 1, 1), (1, 1, 2), (1, 2, 1), (2, 1, 1), (1, 2, 2), (2, 1, 2), (2, 2, 1)] : List (Int × Int × Int)).all (fun q => tripB q.1 q.2.1 q.2.2 true && tripB q.1 q.2.1 q.2.2 false) = true := by decide +kernel
end LAW
namespace LAW
open DL PySem L2
theorem mem_lists2 {α : Type} {xs : List α} {k : Nat} {l : List α} (hl : l.length = k) (h : ∀ x ∈ l, x ∈ xs) : l ∈ lists xs k := by subst hl; exact mem_lists h
theorem trip_ok {a b g : Int} {tw : List (List Int)} {ho : List (List Bool)} {z : Bool} (hq : (a, b, g) ∈ ([(1, 1, 1), (1, 1, 2), (1, 2, 1), (2, 1, 1), (1, 2, 2), (2, 1, 2), (2, 2, 1)] : List (Int × Int × Int)))
    (h1 : tw.length = b.toNat ∧ ∀ r ∈ tw, r.length = a.toNat ∧ ∀ x ∈ r, 0 ≤ x ∧ x < g) (h2 : ho.length = b.toNat ∧ ∀ r ∈ ho, r.length = a.toNat) : Ok (P__law_triples a b g tw ho z) (SG (a * b * g + if z = true then 1 else 0)) := by
  have h := List.all_eq_true.mp trip_all _ hq
  simp only [Bool.and_eq_true] at h
  have h : tripB a b g z = true := by cases z <;> simp [h]
  unfold tripB at h
  rw [List.all_eq_true] at h
  have h := h tw (mem_lists2 h1.1 fun r hr => mem_lists2 (h1.2 r hr).1 fun x hx => mem_rng.mpr ((h1.2 r hr).2 x hx))
  rw [List.all_eq_true] at h
  exact okB_ok (h ho (mem_lists2 h2.1 fun r hr => mem_lists2 (h2.2 r hr) fun x _ => by cases x <;> simp))
theorem SG.le {m k : Int} {T : List (List Int)} (h : SG m T) (hk : m ≤ k) : SG k T := by obtain ⟨n, h1, h2, h3⟩ := h; exact ⟨n, h1, by omega, h3⟩
theorem blocks_d {most : Int} (h0 : 1 ≤ most) (h1 : most ≤ 7) : Draw (fun r => P__law_blocks r most) (SG most) := by
  intro r hr
  unfold P__law_blocks
  have two : ∀ r, StOk r → Ok ((P__law_take r 2).bind fun c => M.ok (1 + c.1, c.2)) (fun p => (p.1 = 1 ∨ p.1 = 2) ∧ StOk p.2) := fun r hr =>
    Ok.bind (take_d (m := 2) (by decide) (by decide) r hr) fun c hc => Ok.pure ⟨by have := hc.1; simp only; omega, hc.2⟩
  refine (two r hr).bind fun c hc => ?_
  obtain ⟨a, r⟩ := c
  obtain ⟨ha, hr⟩ := hc
  refine (two r hr).bind fun c hc => ?_
  obtain ⟨b, r⟩ := c
  obtain ⟨hb, hr⟩ := hc
  refine (two r hr).bind fun c hc => ?_
  obtain ⟨g, r⟩ := c
  obtain ⟨hg, hr⟩ := hc
  simp only at ha hb hg hr ⊢
  have e1 : pMul a b = .ok (a * b) := pMul_ok (by rcases ha with rfl | rfl <;> decide)
  have e2 : pMul (a * b) g = .ok (a * b * g) := pMul_ok2 (by rcases hg with rfl | rfl <;> decide)
  simp only [e1, e2, bind_ok]
  refine Ok.bind (P := fun q : Int × Int × Int => q ∈ ([(1, 1, 1), (1, 1, 2), (1, 2, 1), (2, 1, 1), (1, 2, 2), (2, 1, 2), (2, 2, 1)] : List (Int × Int × Int)) ∧ q.1 * q.2.1 * q.2.2 ≤ most) ?_ fun q hq => ?_
  · by_cases hm : a * b * g + 1 > most
    · simp only [hm, decide_true, if_true]
      by_cases h2 : most < 2
      · rw [if_pos h2]
        have : most = 1 := by omega
        subst this
        exact Ok.pure (by decide)
      · rw [if_neg h2]
        exact Ok.pure ⟨by decide, by show (1 : Int) * 1 * 2 ≤ most; omega⟩
    · simp only [hm, decide_false]
      refine Ok.pure ?_
      rcases ha with rfl | rfl <;> rcases hb with rfl | rfl <;> rcases hg with rfl | rfl <;> simp at hm ⊢ <;> omega
  · obtain ⟨a, b, g⟩ := q
    obtain ⟨hq, hle⟩ := hq
    simp only at hle ⊢
    clear ha hb hg two
    have hbd : (1 ≤ a ∧ a ≤ 2) ∧ (1 ≤ b ∧ b ≤ 2) ∧ (1 ≤ g ∧ g ≤ 2) ∧ a * b ≤ 4 := by
      simp at hq
      rcases hq with h | h | h | h | h | h | h <;> obtain ⟨rfl, rfl, rfl⟩ := h <;> decide
    have eab : pMul a b = .ok (a * b) := pMul_ok (by omega)
    have eabg : pMul (a * b) g = .ok (a * b * g) := pMul_ok2 (by omega)
    simp only [pRng_ok (show 0 ≤ a by omega) (show a ≤ 16777216 by omega), pRng_ok (show 0 ≤ b by omega) (show b ≤ 16777216 by omega), bind_ok]
    refine Ok.bind (pMapS_draw (Q := fun row : List Int => row.length = (rng a).length ∧ ∀ x ∈ row, 0 ≤ x ∧ x < g) (by simp; omega) (fun _ _ => pMapS_draw (by simp; omega) fun _ _ => take_d (by omega) (by omega)) r hr) fun tw htw => ?_
    refine Ok.bind (pMapS_draw (Q := fun row : List Bool => row.length = (rng a).length ∧ ∀ x ∈ row, True) (by simp; omega) (fun _ _ => pMapS_draw (by simp; omega) fun _ _ => ?_) tw.2 htw.2) fun ho hho => ?_
    · intro r hr
      exact Ok.bind (take_d (m := 3) (by decide) (by decide) r hr) fun c hc => Ok.pure ⟨trivial, hc.2⟩
    refine Ok.bind (P := fun z : Bool × List Int => (z.1 = true → a * b * g < most) ∧ StOk z.2) ?_ fun z hz => ?_
    · refine Ok.bind (Ok.bind (take_d (m := 2) (by decide) (by decide) ho.2 hho.2) fun c hc => Ok.pure (Q := fun p : Bool × List Int => StOk p.2) hc.2) fun c hc => ?_
      rw [eab, bind_ok, eabg]
      simp only [bind_ok]
      refine Ok.ite (fun _ => Ok.pure ⟨fun h => by simpa using h, hc⟩) (fun _ => Ok.pure ⟨(fun h => by cases h), hc⟩)
    · have ht := htw.1
      have hh := hho.1
      simp only [len_rng] at ht hh
      refine Ok.bind (trip_ok (z := z.1) hq ht ⟨hh.1, fun r hr => (hh.2 r hr).1⟩) fun T hT => Ok.pure ⟨?_, hz.2⟩
      refine hT.le ?_
      have := hz.1
      cases hzz : z.1 with
      | true => have := this hzz; simp; omega
      | false => simp; omega
end LAW
namespace LAW
open DL PySem L2
def after (f g : List Int) : List Int := f.map fun x => ix g x
structure Mp (k : Int) (f : List Int) : Prop where
  len : (f.length : Int) = k
  ent : ∀ x ∈ f, 0 ≤ x ∧ x < k
theorem after_mp {k : Int} {f g : List Int} (a : Mp k f) (b : Mp k g) : Mp k (after f g) := by
  refine ⟨by simp [after, a.len], fun x hx => ?_⟩
  obtain ⟨y, hy, rfl⟩ := List.mem_map.mp hx
  have := a.ent y hy
  exact b.ent _ (ix_mem this.1 (by rw [b.len]; exact this.2))
theorem after_assoc {k : Int} {f g h : List Int} (a : Mp k f) (b : Mp k g) : after (after f g) h = after f (after g h) := by
  unfold after
  rw [List.map_map]
  apply List.map_congr_left
  intro x hx
  have := a.ent x hx
  simp only [Function.comp]
  rw [ix_map this.1 (by rw [b.len]; exact this.2)]
theorem after_ok {k : Int} {f g : List Int} (hk : k ≤ 1000) (a : Mp k f) (b : Mp k g) : P__law_after f g = .ok (after f g) := by
  unfold P__law_after
  have := a.len
  have hb : big = 16777216 := rfl
  simp only [bind_pure]
  exact pMap_ok (fun x => ix g x) (by omega) fun x hx => pAt_ok (a.ent x hx).1 (by rw [b.len]; exact (a.ent x hx).2)
inductive Gen (G : List (List Int)) : List Int → Prop
  | one {g : List Int} : g ∈ G → Gen G g
  | step {f g : List Int} : Gen G f → g ∈ G → Gen G (after f g)
structure Cl (k : Int) (G F : List (List Int)) : Prop where
  ne : F ≠ []
  mp : ∀ f ∈ F, Mp k f
  gen : ∀ f ∈ F, Gen G f
def Closed (G F : List (List Int)) : Prop := ∀ f ∈ F, ∀ g ∈ G, after f g ∈ F
theorem gen_mp {k : Int} {G : List (List Int)} (h : ∀ g ∈ G, Mp k g) {f : List Int} (q : Gen G f) : Mp k f := by
  induction q with
  | one hg => exact h _ hg
  | step _ hg ih => exact after_mp ih (h _ hg)
/-- one turn -/
theorem turn_d {k : Int} {G F : List (List Int)} (hk : k ≤ 1000) (hG : ∀ g ∈ G, Mp k g) (hF : Cl k G F) (hl : F.length ≤ 1000) :
    Ok (pfold (fun (x105 : List Int) (a106 : List (List Int)) => pfold (fun (x116 : List Int) (a117 : List (List Int)) => (P__law_after x105 x116).bind fun c120 => if ((!has c120 a117) && decide ((a117.length : Int) < 30)) = true then pApp a117 c120 else .ok a117) G a106) F F)
      (fun F' => Cl k G F' ∧ (∃ E, F' = F ++ E) ∧ (∀ f ∈ F, ∀ g ∈ G, after f g ∈ F' ∨ 30 ≤ F'.length) ∧ (Closed G F → F' = F) ∧ (F'.length ≤ 30 ∨ F'.length = F.length)) := by
  refine Ok.fold (fun p F' => Cl k G F' ∧ (∃ E, F' = F ++ E) ∧ (∀ f ∈ p, ∀ g ∈ G, after f g ∈ F' ∨ 30 ≤ F'.length) ∧ (Closed G F → F' = F) ∧ (F'.length ≤ 30 ∨ F'.length = F.length)) ⟨hF, ⟨[], by simp⟩, (fun _ h => by cases h), fun _ => rfl, .inr rfl⟩ (fun p f q A e hA => ?_) fun b h => h
  have hf : f ∈ F := by rw [e]; simp
  refine Ok.imp (Ok.fold (fun p2 F' => Cl k G F' ∧ (∃ E, F' = F ++ E) ∧ (∀ f ∈ p, ∀ g ∈ G, after f g ∈ F' ∨ 30 ≤ F'.length) ∧ (Closed G F → F' = F) ∧ (F'.length ≤ 30 ∨ F'.length = F.length) ∧ (∀ g ∈ p2, after f g ∈ F' ∨ 30 ≤ F'.length))
    ⟨hA.1, hA.2.1, hA.2.2.1, hA.2.2.2.1, hA.2.2.2.2, fun _ h => by cases h⟩ (fun p2 g q2 B e2 hB => ?_) fun b h => h) fun F' hF' => ?_
  · obtain ⟨b1, ⟨E, b2⟩, b3, b4, b5, b6⟩ := hB
    have hg : g ∈ G := by rw [e2]; simp
    have mf : Mp k f := hF.mp f hf
    rw [after_ok hk mf (hG g hg), bind_ok]
    by_cases hc : ((!has (after f g) B) && decide ((B.length : Int) < 30)) = true
    · rw [if_pos hc]
      simp only [Bool.and_eq_true, Bool.not_eq_true', has_eq, decide_eq_false_iff_not, decide_eq_true_eq] at hc
      rw [pApp_ok (by omega)]
      refine Ok.pure ⟨⟨by simp, fun x hx => ?_, fun x hx => ?_⟩, ⟨E ++ [after f g], by rw [b2]; simp⟩, fun x hx y hy => ?_, fun h => ?_, ?_, fun y hy => ?_⟩
      · rcases List.mem_append.mp hx with hx | hx
        · exact b1.mp x hx
        · rw [List.mem_singleton.mp hx]; exact after_mp mf (hG g hg)
      · rcases List.mem_append.mp hx with hx | hx
        · exact b1.gen x hx
        · rw [List.mem_singleton.mp hx]; exact .step (hF.gen f hf) hg
      · rcases b3 x hx y hy with h | h
        · exact .inl (List.mem_append_left _ h)
        · exact .inr (by simp; omega)
      · have := h f hf g hg
        rw [b4 h] at hc
        exact absurd this hc.1
      · left; simp; omega
      · rcases List.mem_append.mp hy with hy | hy
        · rcases b6 y hy with h | h
          · exact .inl (List.mem_append_left _ h)
          · exact .inr (by simp; omega)
        · rw [List.mem_singleton.mp hy]; exact .inl (by simp)
    · rw [if_neg hc]
      refine Ok.pure ⟨b1, ⟨E, b2⟩, b3, b4, b5, fun y hy => ?_⟩
      rcases List.mem_append.mp hy with hy | hy
      · exact b6 y hy
      · rw [List.mem_singleton.mp hy]
        by_cases hm : after f g ∈ B
        · exact .inl hm
        · right
          simp only [has_eq, hm, decide_false, Bool.not_false, Bool.true_and, decide_eq_true_eq] at hc
          omega
  · obtain ⟨b1, b2, b3, b4, b5, b6⟩ := hF'
    refine ⟨b1, b2, fun x hx y hy => ?_, b4, b5⟩
    rcases List.mem_append.mp hx with hx | hx
    · exact b3 x hx y hy
    · rw [List.mem_singleton.mp hx]; exact b6 y hy
theorem closed_d {k : Int} {G : List (List Int)} (hk : k ≤ 1000) (hG : ∀ g ∈ G, Mp k g) (hne : G ≠ []) (hl : G.length ≤ 20) : Ok (P__law_closed G) (fun F => Cl k G F ∧ (30 ≤ F.length ∨ Closed G F)) := by
  unfold P__law_closed
  simp only [bind_pure]
  refine Ok.bind (Ok.fold (fun p F => (∀ f ∈ F, f ∈ p) ∧ F.length ≤ p.length ∧ (p ≠ [] → F ≠ [])) ⟨(fun _ h => by cases h), Nat.le_refl _, fun h => absurd rfl h⟩ (fun p x q a e ha => ?_) fun b h => h) fun F hF => ?_
  · have hpl : p.length < 20 := by rw [e] at hl; simp at hl; omega
    by_cases hc : (!has x a) = true
    · rw [if_pos hc, pApp_ok (by omega)]
      refine Ok.pure ⟨fun f hf => ?_, by simp; omega, fun _ => by simp⟩
      rcases List.mem_append.mp hf with hf | hf
      · exact List.mem_append_left _ (ha.1 f hf)
      · exact List.mem_append_right _ hf
    · rw [if_neg hc]
      refine Ok.pure ⟨fun f hf => List.mem_append_left _ (ha.1 f hf), by simp; omega, fun _ h => ?_⟩
      subst h
      simp [has_eq] at hc
  · have c0 : Cl k G F := ⟨hF.2.2 hne, fun f hf => hG f (hF.1 f hf), fun f hf => .one (hF.1 f hf)⟩
    rw [pRng_ok (by decide) (by decide), bind_ok]
    have hne' := c0.ne
    refine Ok.imp (Ok.fold_rng (fun r A => Cl k G A ∧ A.length ≤ 1000 ∧ (30 ≤ A.length ∨ Closed G A ∨ r + 1 ≤ (A.length : Int))) (by decide) ⟨c0, by omega, .inr (.inr (by have := List.length_pos_iff.mpr hne'; omega))⟩ (fun r A hr hr' hA => ?_) fun b h => h) fun A hA => ?_
    · refine Ok.imp (turn_d hk hG hA.1 hA.2.1) fun B hB => ?_
      obtain ⟨b1, ⟨E, b2⟩, b3, b4, b5⟩ := hB
      have hlen : B.length = A.length + E.length := by rw [b2]; simp
      refine ⟨b1, by rcases b5 with h | h <;> omega, ?_⟩
      rcases hA.2.2 with h | h | h
      · left; omega
      · right; left; rw [b4 h]; exact h
      · by_cases hE : E = []
        · subst hE
          have : B = A := by rw [b2]; simp
          subst this
          by_cases h30 : 30 ≤ B.length
          · exact .inl h30
          · right; left
            intro f hf g hg
            rcases b3 f hf g hg with q | q
            · exact q
            · exact absurd q h30
        · have := List.length_pos_iff.mpr hE
          right; right; omega
    · refine ⟨hA.1, ?_⟩
      rcases hA.2.2 with h | h | h
      · exact .inl h
      · exact .inr h
      · left; omega
/-- what is closed holds all products -/
theorem closed_all {k : Int} {G F : List (List Int)} (hG : ∀ g ∈ G, Mp k g) (hF : Cl k G F) (hc : Closed G F) : ∀ f ∈ F, ∀ g ∈ F, after f g ∈ F := by
  intro f hf g hg
  have hq := hF.gen g hg
  clear hg
  induction hq generalizing f with
  | one h => exact hc f hf _ h
  | step q h ih =>
    rename_i g1 g2
    rw [← after_assoc (hF.mp f hf) (gen_mp hG q)]
    exact hc _ (ih f hf) _ h
/-- the table of maps that are closed -/
theorem maps_tab {k most : Int} {F : List (List Int)} (hk : k ≤ 1000) (hm : most ≤ 1000) (hne : F ≠ []) (hl : (F.length : Int) ≤ most) (hF : ∀ f ∈ F, Mp k f) (hc : ∀ f ∈ F, ∀ g ∈ F, after f g ∈ F) :
    Ok (pMap (fun (x69 : List Int) => pMap (fun (x70 : List Int) => (P__law_after x69 x70).bind fun c71 => pIndex F c71) F) F) (SG most) := by
  have hb : big = 16777216 := rfl
  have e : pMap (fun (x69 : List Int) => pMap (fun (x70 : List Int) => (P__law_after x69 x70).bind fun c71 => pIndex F c71) F) F = .ok (tab F.length fun i j => idx F (after (ix F i) (ix F j))) := by
    rw [pMap_ok (fun f => F.map fun g => idx F (after f g)) (by omega) fun f hf => ?_]
    · unfold tab
      rw [map_rng]
      congr 1
      apply List.map_congr_left
      intro i hi
      rw [map_rng]
    · refine pMap_ok (fun g => idx F (after f g)) (by omega) fun g hg => ?_
      rw [after_ok hk (hF f hf) (hF g hg), bind_ok, pIndex_ok (hc f hf g hg)]
  refine Ok.of e ?_
  have hpos := List.length_pos_iff.mpr hne
  have at_ : ∀ i : Int, 0 ≤ i → i < F.length → ix F i ∈ F := fun i h0 h1 => ix_mem h0 h1
  refine SG_tab (by omega) hl (fun x y hx hx' hy hy' => ?_) (fun x y z hx hx' hy hy' hz hz' => ?_)
  · exact idx_lt (hc _ (at_ x hx hx') _ (at_ y hy hy'))
  · rw [ix_idx (hc _ (at_ x hx hx') _ (at_ y hy hy')), ix_idx (hc _ (at_ y hy hy') _ (at_ z hz hz')), after_assoc (hF _ (at_ x hx hx')) (hF _ (at_ y hy hy'))]
theorem of_maps_d {most : Int} (h0 : 1 ≤ most) (h1 : most < 30) : Draw (fun r => P__law_of_maps r most) (SG most) := by
  intro r hr
  unfold P__law_of_maps
  simp only [bind_bind, bind_ok, bind_pure]
  refine (take_d (m := 2) (by decide) (by decide) r hr).bind fun c hc => ?_
  obtain ⟨d, r⟩ := c
  obtain ⟨hd, hr⟩ := hc
  simp only at hd hr ⊢
  obtain ⟨k, rfl⟩ : ∃ k, d = k - 2 := ⟨d + 2, by omega⟩
  simp only [show 2 + (k - 2) = k by omega]
  have hk : 2 ≤ k ∧ k ≤ 3 := by omega
  refine (take_d (m := 2) (by decide) (by decide) r hr).bind fun c hc => ?_
  obtain ⟨d, r⟩ := c
  obtain ⟨hd, hr⟩ := hc
  simp only at hd hr ⊢
  simp only [pRng_ok (show 0 ≤ 1 + d by omega) (show 1 + d ≤ 16777216 by omega), pRng_ok (show 0 ≤ k by omega) (show k ≤ 16777216 by omega), bind_ok]
  refine Ok.bind (Ok.fold_rng (fun i (a : List Int × List (List Int)) => StOk a.1 ∧ (a.2.length : Int) = i ∧ ∀ g ∈ a.2, Mp k g) (by omega) ⟨hr, rfl, fun _ h => by cases h⟩ (fun i a hi hi' ha => ?_) fun b h => h) fun a ha => ?_
  · refine (pMapS_draw (Q := fun x => 0 ≤ x ∧ x < k) (by simp; omega) (fun _ _ => take_d (by omega) (by omega)) a.1 ha.1).bind fun m hm => ?_
    rw [pApp_ok (by have := ha.2.1; omega), bind_ok]
    refine Ok.pure ⟨hm.2, by have := ha.2.1; simp; omega, fun g hg => ?_⟩
    rcases List.mem_append.mp hg with hg | hg
    · exact ha.2.2 g hg
    · rw [List.mem_singleton.mp hg]
      exact ⟨by have := hm.1.1; simp at this; omega, hm.1.2⟩
  · obtain ⟨r, G⟩ := a
    obtain ⟨hr, hl, hG⟩ := ha
    simp only at hr hl hG ⊢
    have hne : G ≠ [] := by intro h; subst h; simp at hl; omega
    refine (closed_d (by omega) hG hne (by omega)).bind fun F hF => ?_
    -- either closed, or one map that takes all to one point
    refine Ok.bind (P := fun F : List (List Int) => F ≠ [] ∧ (∀ f ∈ F, Mp k f) ∧ ((F.length : Int) ≤ most → ∀ f ∈ F, ∀ g ∈ F, after f g ∈ F)) ?_ fun F hF => ?_
    · have fin : ∀ {G F}, (∀ g ∈ G, Mp k g) → Cl k G F → (30 ≤ F.length ∨ Closed G F) → F ≠ [] ∧ (∀ f ∈ F, Mp k f) ∧ ((F.length : Int) ≤ most → ∀ f ∈ F, ∀ g ∈ F, after f g ∈ F) := fun {G F} hG c h => ⟨c.ne, c.mp, fun hle => by
        rcases h with h | h
        · omega
        · exact closed_all hG c h⟩
      refine Ok.ite (fun _ => ?_) (fun _ => Ok.pure (fin hG hF.1 hF.2))
      have hsub : ∀ g ∈ cutD G none (some 1), Mp k g := fun g hg => hG g (by unfold cutD at hg; exact List.mem_of_mem_drop (List.mem_of_mem_take hg))
      have hn2 : cutD G none (some 1) ≠ [] ∧ (cutD G none (some 1)).length ≤ 20 := by
        cases G with
        | nil => exact absurd rfl hne
        | cons g G =>
          have : cutD (g :: G) none (some 1) = [g] := by
            unfold cutD HT.sIx
            simp
          rw [this]; simp
      refine Ok.imp (closed_d (by omega) hsub hn2.1 hn2.2) fun F hF => fin hsub hF.1 hF.2
    · refine Ok.bind (P := fun F : List (List Int) => F ≠ [] ∧ (F.length : Int) ≤ most ∧ (∀ f ∈ F, Mp k f) ∧ ∀ f ∈ F, ∀ g ∈ F, after f g ∈ F) ?_ fun F hF => ?_
      · refine Ok.ite (fun _ => ?_) (fun h => Ok.pure ⟨hF.1, by simpa using h, hF.2.1, hF.2.2 (by simpa using h)⟩)
        have g0 : Mp k (ix G 0) := hG _ (ix_mem (by decide) (by omega))
        have hv := g0.ent _ (ix_mem (xs := ix G 0) (i := 0) (by decide) (by rw [g0.len]; omega))
        have hb : big = 16777216 := rfl
        rw [pMap_ok (fun _ => ix (ix G 0) 0) (by simp; omega) (fun x _ => by rw [pAt_ok (by decide) (by omega), bind_ok, pAt_ok (by decide) (by rw [g0.len]; omega)]), bind_ok]
        have mc : Mp k ((rng k).map fun _ => ix (ix G 0) 0) := ⟨by simp; omega, fun x hx => by obtain ⟨_, _, rfl⟩ := List.mem_map.mp hx; exact hv⟩
        refine Ok.pure ⟨by simp, by simp; omega, fun f hf => ?_, fun f hf g hg => ?_⟩
        · rw [List.mem_singleton.mp hf]; exact mc
        · rw [List.mem_singleton.mp hf, List.mem_singleton.mp hg, List.mem_singleton]
          unfold after
          rw [List.map_map]
          apply List.map_congr_left
          intro x _
          simp only [Function.comp]
          rw [ix_map_rng hv.1 hv.2]
      · exact (maps_tab (by omega) (by omega) hF.1 hF.2.1 hF.2.2.1 hF.2.2.2).bind fun T hT => Ok.pure ⟨hT, hr⟩
end LAW
namespace LAW
open DL PySem L2
theorem plain_d {most : Int} (h0 : 1 ≤ most) (h1 : most ≤ 7) : Draw (fun r => P__law_plain r most) (SG most) := by
  intro r hr
  unfold P__law_plain
  simp only [bind_bind, bind_ok]
  refine (take_d (m := 8) (by decide) (by decide) r hr).bind fun c hc => ?_
  obtain ⟨pick, r⟩ := c
  obtain ⟨-, hr⟩ := hc
  simp only at hr ⊢
  refine (take_d (m := most) (by omega) (by omega) r hr).bind fun c hc => ?_
  obtain ⟨d, r⟩ := c
  obtain ⟨hd, hr⟩ := hc
  simp only at hd hr ⊢
  obtain ⟨n, rfl⟩ : ∃ n, d = n - 1 := ⟨d + 1, by omega⟩
  simp only [show 1 + (n - 1) = n by omega, pRng_ok (show 0 ≤ n by omega) (show n ≤ 16777216 by omega), bind_ok]
  refine Ok.ite (fun _ => ?_) fun _ => Ok.ite (fun _ => ?_) fun _ => Ok.ite (fun _ => ?_) fun _ => Ok.ite (fun _ => ?_) fun _ => Ok.ite (fun _ => ?_) fun _ => ?_
  · rw [pMap_tab (f := fun x _ => x) (by omega) (by omega) fun _ _ _ _ _ _ => rfl, bind_ok]
    exact Ok.pure ⟨SG_tab (by omega) (by omega) (fun x y h1 h2 _ _ => ⟨h1, h2⟩) (fun x y z _ _ _ _ _ _ => rfl), hr⟩
  · rw [pMap_tab (f := fun _ _ => 0) (by omega) (by omega) fun _ _ _ _ _ _ => rfl, bind_ok]
    exact Ok.pure ⟨SG_tab (by omega) (by omega) (fun x y h1 h2 _ _ => ⟨by omega, by omega⟩) (fun x y z _ _ _ _ _ _ => rfl), hr⟩
  · exact (monogenic_d h0 (by omega) r hr).bind fun c hc => Ok.pure hc
  · rw [pMap_tab (f := fun x y => if y < x then y else x) (by omega) (by omega) fun _ _ _ _ _ _ => rfl, bind_ok]
    refine Ok.pure ⟨SG_tab (by omega) (by omega) (fun x y h1 h2 h3 h4 => by split <;> omega) (fun x y z _ _ _ _ _ _ => ?_), hr⟩
    repeat' split
    all_goals omega
  · exact (of_maps_d h0 (by omega) r hr).bind fun c hc => Ok.pure hc
  · exact (blocks_d h0 h1 r hr).bind fun c hc => Ok.pure hc
/-- products where one number more stands -/
theorem rng_split1 {n : Int} (h : 0 ≤ n) {β : Type} (f : Int → β) : (rng (n + 1)).map f = (rng n).map f ++ [f n] := by rw [rng_succ h, List.map_append]; rfl
theorem tab_succ {n : Int} (h : 0 ≤ n) (f : Int → Int → Int) : tab (n + 1) f = ((rng n).map fun x => ((rng n).map (f x)) ++ [f x n]) ++ [(rng (n + 1)).map (f n)] := by
  unfold tab
  rw [rng_split1 h]
  congr 1
  apply List.map_congr_left
  intro x _
  exact rng_split1 h _
theorem extended_d {most : Int} {T : List (List Int)} (h1 : most ≤ 1000) (hT : SG most T) : Draw (fun r => P__law_extended r T most) (SG most) := by
  obtain ⟨n, n1, n2, V, A⟩ := hT
  intro r hr
  unfold P__law_extended
  rw [V.len]
  simp only [bind_bind, bind_ok]
  have hb : big = 16777216 := rfl
  have hlen := V.len
  have hl : (rng n).length ≤ big := by rw [len_rng]; omega
  refine (take_d (m := 6) (by decide) (by decide) r hr).bind fun c hc => ?_
  obtain ⟨pick, r⟩ := c
  obtain ⟨-, hr⟩ := hc
  simp only at hr ⊢
  simp only [pRng_ok (show 0 ≤ n by omega) (show n ≤ 16777216 by omega), pRng_ok (show 0 ≤ n + 1 by omega) (show n + 1 ≤ 16777216 by omega), pMul_ok (show (2 : Int).natAbs < 18446744073709551616 by decide), pRng_ok (show 0 ≤ 2 * n by omega) (show 2 * n ≤ 16777216 by omega), bind_ok]
  refine Ok.ite (fun _ => ?_) fun _ => Ok.ite (fun hq => ?_) fun _ => Ok.ite (fun hq => ?_) fun _ => Ok.bind (P := fun b => b = true → 2 * n ≤ most) (Ok.ite (fun _ => Ok.pure fun h => by simpa using h) fun _ => Ok.pure fun h => by cases h) fun b hb2 => Ok.ite (fun hq => ?_) fun _ => ?_
  · -- turned about
    rw [pMap_tab (f := fun x y => mul T y x) (by omega) (by omega) fun x y h1 h2 h3 h4 => by rw [V.at1 h3 h4, bind_ok, V.at2 h3 h4 h1 h2], bind_ok]
    refine Ok.pure ⟨SG_tab n1 n2 (fun x y h1 h2 h3 h4 => V.lt h3 h4 h1 h2) (fun x y z h1 h2 h3 h4 h5 h6 => ?_), hr⟩
    exact (A z y x h5 h6 h3 h4 h1 h2).symm
  · -- a zero more
    simp only [Bool.and_eq_true, decide_eq_true_eq] at hq
    rw [pMap_ok (fun row => row ++ [n]) (by omega) (fun row hrow => pCat_ok (by have := V.row row hrow; simp; omega)), bind_ok, pMap_ok (fun _ => n) (by rw [len_rng]; omega) (fun _ _ => rfl), bind_ok, pCat_ok (by simp; omega), bind_ok]
    have e : List.map (fun row => row ++ [n]) T ++ [List.map (fun _ => n) (rng (n + 1))] = tab (n + 1) (fun x y => if x = n ∨ y = n then n else mul T x y) := by
      rw [tab_succ (by omega)]
      congr 1
      · rw [map_rng, hlen]
        apply List.map_congr_left
        intro x hx
        rw [mem_rng] at hx
        rw [row_rng V hx.1 hx.2]
        congr 1
        · apply List.map_congr_left
          intro y hy
          rw [mem_rng] at hy
          rw [if_neg (by omega)]
        · simp
      · congr 1
        apply List.map_congr_left
        intro y hy
        simp
    rw [e]
    refine Ok.pure ⟨SG_tab (by omega) (by omega) (fun x y h1 h2 h3 h4 => ?_) (fun x y z h1 h2 h3 h4 h5 h6 => ?_), hr⟩
    · split
      · omega
      · have := V.lt (x := x) (y := y) h1 (by omega) h3 (by omega); omega
    · by_cases hx : x = n
      · subst hx; simp
      · by_cases hy : y = n
        · subst hy; simp
        · by_cases hz : z = n
          · subst hz; simp
          · have m1 := V.lt (x := x) (y := y) h1 (by omega) h3 (by omega)
            have m2 := V.lt (x := y) (y := z) h3 (by omega) h5 (by omega)
            have ne1 : ¬ mul T x y = n := by omega
            have ne2 : ¬ mul T y z = n := by omega
            simp only [hx, hy, hz, ne1, ne2, or_self, if_false]
            exact A x y z h1 (by omega) h3 (by omega) h5 (by omega)
  · -- a unit more
    simp only [Bool.and_eq_true, decide_eq_true_eq] at hq
    rw [pMap_ok (fun x => ix T x ++ [x]) hl (fun x hx => by
      rw [mem_rng] at hx
      rw [V.at1 hx.1 hx.2, bind_ok, pCat_ok (by have := V.rlen hx.1 hx.2; simp; omega)]), bind_ok, pCat_ok (by simp; omega), bind_ok]
    have e : List.map (fun x => ix T x ++ [x]) (rng n) ++ [rng (n + 1)] = tab (n + 1) (fun x y => if x = n then y else if y = n then x else mul T x y) := by
      rw [tab_succ (by omega)]
      congr 1
      · apply List.map_congr_left
        intro x hx
        rw [mem_rng] at hx
        rw [row_rng V hx.1 hx.2]
        congr 1
        · apply List.map_congr_left
          intro y hy
          rw [mem_rng] at hy
          rw [if_neg (by omega), if_neg (by omega)]
        · simp
      · simp
    rw [e]
    refine Ok.pure ⟨SG_tab (by omega) (by omega) (fun x y h1 h2 h3 h4 => ?_) (fun x y z h1 h2 h3 h4 h5 h6 => ?_), hr⟩
    · split
      · omega
      · split
        · omega
        · have := V.lt (x := x) (y := y) h1 (by omega) h3 (by omega); omega
    · by_cases hx : x = n
      · subst hx; simp
      · by_cases hy : y = n
        · subst hy; simp [hx]
        · by_cases hz : z = n
          · subst hz
            have m1 := V.lt (x := x) (y := y) h1 (by omega) h3 (by omega)
            simp only [hx, hy, if_false, if_true]
            rw [if_neg (by omega)]
          · have m1 := V.lt (x := x) (y := y) h1 (by omega) h3 (by omega)
            have m2 := V.lt (x := y) (y := z) h3 (by omega) h5 (by omega)
            simp only [hx, hy, hz, if_false]
            rw [if_neg (by omega), if_neg (by omega)]
            exact A x y z h1 (by omega) h3 (by omega) h5 (by omega)
  · -- doubled
    subst hq
    have h2n := hb2 rfl
    refine (take_d (m := 2) (by decide) (by decide) r hr).bind fun c hc => ?_
    refine Ok.bind (P := fun s : List (Int × Int) => s = [(0, 1), (1, 0)] ∨ s = [(0, 0), (0, 1)]) (Ok.ite (fun _ => Ok.pure (.inl rfl)) fun _ => Ok.pure (.inr rfl)) fun s hs => ?_
    have hs2 : ∀ i j : Int, (0 ≤ i ∧ i < 2) → (0 ≤ j ∧ j < 2) → ∃ q : Int × Int, pAt s i = .ok q ∧ pAt [q.1, q.2] j = .ok (if s = [(0, 1), (1, 0)] then (i + j) % 2 else i * j) := by
      intro i j hi hj
      have hi' : i = 0 ∨ i = 1 := by omega
      have hj' : j = 0 ∨ j = 1 := by omega
      rcases hs with rfl | rfl <;> rcases hi' with rfl | rfl <;> rcases hj' with rfl | rfl <;> exact ⟨_, rfl, rfl⟩
    have m2 : ∀ x : Int, 0 ≤ x % 2 ∧ x % 2 < 2 := fun x => ⟨Int.emod_nonneg _ (by decide), Int.emod_lt_of_pos _ (by decide)⟩
    rw [pMap_tab (n := 2 * n) (f := fun x y => 2 * mul T (x / 2) (y / 2) + (if s = [(0, 1), (1, 0)] then (x % 2 + y % 2) % 2 else (x % 2) * (y % 2))) (by omega) (by omega) fun x y h1 h2 h3 h4 => by
      obtain ⟨q, q1, q2⟩ := hs2 (x % 2) (y % 2) (m2 x) (m2 y)
      rw [pDiv_ok (by decide) (by decide), bind_ok, pDiv_ok (by decide) (by decide), V.at1 (by omega) (by omega), bind_ok, bind_ok, V.at2 (by omega) (by omega) (by omega) (by omega), bind_ok, pMod_ok (by decide), bind_ok, q1, bind_ok, pMod_ok (by decide), bind_ok, q2, bind_ok], bind_ok]
    have key : ∀ x y : Int, 0 ≤ x → x < 2 * n → 0 ≤ y → y < 2 * n → ∃ w : Int, (w = 0 ∨ w = 1) ∧ w = (if s = [(0, 1), (1, 0)] then (x % 2 + y % 2) % 2 else (x % 2) * (y % 2)) := fun x y _ _ _ _ => by
      refine ⟨_, ?_, rfl⟩
      have hx := m2 x
      have hy := m2 y
      have hx' : x % 2 = 0 ∨ x % 2 = 1 := by omega
      have hy' : y % 2 = 0 ∨ y % 2 = 1 := by omega
      split <;> rcases hx' with e | e <;> rcases hy' with e2 | e2 <;> rw [e, e2] <;> decide
    have cl : ∀ x y : Int, 0 ≤ x → x < 2 * n → 0 ≤ y → y < 2 * n → 0 ≤ 2 * mul T (x / 2) (y / 2) + (if s = [(0, 1), (1, 0)] then (x % 2 + y % 2) % 2 else (x % 2) * (y % 2)) ∧ 2 * mul T (x / 2) (y / 2) + (if s = [(0, 1), (1, 0)] then (x % 2 + y % 2) % 2 else (x % 2) * (y % 2)) < 2 * n := fun x y h1 h2 h3 h4 => by
      obtain ⟨w, hw, e⟩ := key x y h1 h2 h3 h4
      have := V.lt (x := x / 2) (y := y / 2) (by omega) (by omega) (by omega) (by omega)
      rw [← e]; omega
    refine Ok.pure ⟨SG_tab (by omega) h2n cl (fun x y z h1 h2 h3 h4 h5 h6 => ?_), hc.2⟩
    have d1 : ∀ x y : Int, 0 ≤ x → x < 2 * n → 0 ≤ y → y < 2 * n → (2 * mul T (x / 2) (y / 2) + (if s = [(0, 1), (1, 0)] then (x % 2 + y % 2) % 2 else (x % 2) * (y % 2))) / 2 = mul T (x / 2) (y / 2) ∧ (2 * mul T (x / 2) (y / 2) + (if s = [(0, 1), (1, 0)] then (x % 2 + y % 2) % 2 else (x % 2) * (y % 2))) % 2 = (if s = [(0, 1), (1, 0)] then (x % 2 + y % 2) % 2 else (x % 2) * (y % 2)) := fun x y h1 h2 h3 h4 => by
      obtain ⟨w, hw, e⟩ := key x y h1 h2 h3 h4
      rw [← e]; omega
    rw [(d1 x y h1 h2 h3 h4).1, (d1 x y h1 h2 h3 h4).2, (d1 y z h3 h4 h5 h6).1, (d1 y z h3 h4 h5 h6).2]
    rw [A (x / 2) (y / 2) (z / 2) (by omega) (by omega) (by omega) (by omega) (by omega) (by omega)]
    congr 1
    split
    · omega
    · exact Int.mul_assoc _ _ _
  · exact Ok.pure ⟨⟨n, n1, n2, V, A⟩, hr⟩
/-- a drawn semigroup -/
theorem semigroup_d {most : Int} (h0 : 1 ≤ most) (h1 : most ≤ 7) : Draw (fun r => P__law_semigroup r most) (SG most) := by
  intro r hr
  unfold P__law_semigroup
  simp only [bind_bind, bind_ok]
  refine (plain_d h0 h1 r hr).bind fun c hc => ?_
  refine (extended_d (by omega) hc.1 c.2 hc.2).bind fun c hc => ?_
  obtain ⟨n, n1, n2, V, A⟩ := hc.1
  rw [V.len]
  refine (order_d (by omega) (by omega) c.2 hc.2).bind fun p hp => ?_
  have o := ord_of (by omega) hp.1
  refine (renamed_d (by omega) V o).bind fun S hS => Ok.pure ⟨⟨n, n1, n2, hS.1, renamed_asc V o hS.2 A⟩, hp.2⟩
end LAW
namespace LAW
open DL PySem L2
def ascRow (n : Int) (T : List (List Int)) (r : List Int) (y : Int) : Bool := decide ((rng n).map (fun z => mul T (ix r y) z) = (ix T y).map (fun i => ix r i))
def ascB (n : Int) (T : List (List Int)) : Bool := T.all fun r => (rng n).all fun y => ascRow n T r y
theorem ascB_iff {n : Int} {T : List (List Int)} (V : VT n T) : ascB n T = true ↔ Asc n (mul T) := by
  unfold ascB ascRow
  simp only [List.all_eq_true, decide_eq_true_eq]
  have row : ∀ x y, 0 ≤ x → x < n → 0 ≤ y → y < n → ((rng n).map (fun z => mul T (ix (ix T x) y) z) = (ix T y).map (fun i => ix (ix T x) i) ↔ ∀ z, 0 ≤ z → z < n → mul T (mul T x y) z = mul T x (mul T y z)) := by
    intro x y hx hx' hy hy'
    conv => lhs; rhs; rw [row_rng V hy hy', List.map_map]
    rw [List.map_inj_left]
    constructor
    · intro h z hz hz'
      exact h z (mem_rng.mpr ⟨hz, hz'⟩)
    · intro h z hz
      rw [mem_rng] at hz
      exact h z hz.1 hz.2
  constructor
  · intro h x y z hx hx' hy hy' hz hz'
    exact (row x y hx hx' hy hy').mp (h _ (V.rowAt hx hx') y (mem_rng.mpr ⟨hy, hy'⟩)) z hz hz'
  · intro h r hr y hy
    rw [mem_rng] at hy
    obtain ⟨x, hx, hx', rfl⟩ := mem_ix hr
    rw [V.len] at hx'
    exact (row x y hx hx' hy.1 hy.2).mpr fun z hz hz' => h x y z hx hx' hy.1 hy.2 hz hz'
theorem isasc_d {n : Int} {T : List (List Int)} (h2 : n ≤ 1000) (V : VT n T) : P_is_associative T = .ok (ascB n T) := by
  have n0 := V.n0
  have hb : big = 16777216 := rfl
  unfold P_is_associative
  rw [V.len]
  simp only [pRng_ok n0 (show n ≤ 16777216 by omega), bind_ok]
  rw [pfor_test (p := fun r => (rng n).all fun y => ascRow n T r y) (r := false) fun r hr => ?_, bind_ok]
  · unfold ascB
    cases T.all fun r => (rng n).all fun y => ascRow n T r y <;> rfl
  · have hrl := V.row r hr
    rw [pfor_test (p := fun y => ascRow n T r y) (r := false) fun y hy => ?_, bind_ok]
    · cases (rng n).all fun y => ascRow n T r y <;> rfl
    · rw [mem_rng] at hy
      have hv := V.ent r hr _ (ix_mem (xs := r) hy.1 (by omega))
      rw [pMap_ok (fun z => mul T (ix r y) z) (by simp; omega) (fun z hz => by
        rw [mem_rng] at hz
        rw [pAt_ok hy.1 (by omega), bind_ok, V.at1 hv.1 hv.2, bind_ok, V.at2 hv.1 hv.2 hz.1 hz.2]), bind_ok, V.at1 hy.1 hy.2, bind_ok,
        pMap_ok (fun i => ix r i) (by have := V.rlen hy.1 hy.2; omega) (fun i hi => by
          have := V.ent _ (V.rowAt hy.1 hy.2) i hi
          exact pAt_ok this.1 (by omega)), bind_ok]
      simp only [bind_ok]
      unfold ascRow
      by_cases h : (rng n).map (fun z => mul T (ix r y) z) = (ix T y).map (fun i => ix r i)
      · simp [h]
      · simp [h]
end LAW
namespace LAW
open DL PySem L2
theorem taken_d {n : Int} {T : List (List Int)} (h1 : 1 ≤ n) (h2 : n ≤ 1000) (V : VT n T) : P_taken_table T = .ok T := by
  have hlen := V.len
  have hne : ¬ ((T.length : Int) = 0) := by omega
  unfold P_taken_table
  simp only [hne, decide_false, Bool.not_true, Bool.or_false, Bool.false_eq_true, if_false, bind_pure]
  rw [pfold_app (fun r => r) T [] (by simp; omega) fun r hr a ha => ?_]
  · simp
  · have hrl := V.row r hr
    have e : ((r.length : Int) = (T.length : Int)) := by omega
    simp only [e, decide_true, Bool.not_true, Bool.or_false, Bool.false_eq_true, if_false]
    rw [pfold_const (a := ()) fun x hx => ?_, bind_ok, pApp_ok ha]
    have := V.ent r hr x hx
    have e1 : decide (0 ≤ x) = true := by simpa using this.1
    have e2 : decide (x < (T.length : Int)) = true := by simp; omega
    simp [P_is_item, P_is_integer, e1, e2]
theorem sg_d {n : Int} {T : List (List Int)} (h1 : 1 ≤ n) (h2 : n ≤ 24) (V : VT n T) (A : Asc n (mul T)) : P_Semigroup___init__ T = .ok (n, T) := by
  unfold P_Semigroup___init__
  rw [taken_d h1 (by omega) V, bind_ok, V.len, isasc_d (by omega) V, (ascB_iff V).mpr A]
  have : ¬ (n > 24) := by omega
  simp [this]
end LAW
namespace LAW
open DL PySem L2
abbrev sI : Int × List (List Int) → D := eC2 "Semigroup" "n" "table" eI (eT (eT eI))
theorem ne_tn : ¬ Str.ofString "table" = Str.ofString "n" := by decide
theorem eqd_ins (A B : Int × List (List Int)) : d_Semigroup___eq__ [sI A, sI B] = .ok (.bl (decide (A.2 = B.2))) := by
  have h : eqD ((eT (eT eI)) A.2) ((eT (eT eI)) B.2) = some (decide (A.2 = B.2)) := by
    have := eq_py (pyT (pyT pyI)) (x := A.2) (y := B.2)
    simp only [opEq] at this
    cases h : eqD ((eT (eT eI)) A.2) ((eT (eT eI)) B.2) with
    | none => rw [h] at this; cases this
    | some z => rw [h] at this; simp only [Option.some.injEq, D.bl.injEq, eB] at this; rw [this]
  unfold d_Semigroup___eq__ b_Semigroup___eq__ runF
  simp [eC2, sRet, dIf, dTst, getN, bindD, asB, ne_tn, h]
theorem own_ins (ng : Bool → Bool) (A B : Int × List (List Int)) : opOwn "Semigroup" d_Semigroup___eq__ ng (sI A) (sI B) = some (.bl (ng (decide (A.2 = B.2)))) := by
  have e := eqd_ins A B
  simp only [sI, eC2] at e ⊢
  simp only [opOwn, okY, e, beq_self_eq_true, and_self, if_true]
end LAW
namespace LAW
open DL PySem L2
open TL
def Asc7 (l : List Nat) : Prop := ∀ c ∈ l, c < 128
theorem shaped_str {a : Str} (h : Asc7 (tl a)) : SeqAt.shaped (.str a) = true := by
  have : PyData.strOk a = true := by
    unfold PyData.strOk
    rw [← Array.all_toList, List.all_eq_true]
    intro c hc
    have := h c hc
    simp; omega
  simp [SeqAt.shaped, PyData.canLay0, PyData.depth, this]
theorem eqS {a b : Str} (ha : Asc7 (tl a)) (hb : Asc7 (tl b)) : pEq (eS a) (eS b) = .ok (decide (a = b)) := by
  have e : eqD (eS a) (eS b) = some (PyData.eqv (.str a) (.str b)) := by
    show (if SeqAt.shaped (.str a) && SeqAt.shaped (.str b) then some (PyData.eqv (.str a) (.str b)) else none) = _
    rw [shaped_str ha, shaped_str hb]; rfl
  unfold pEq
  rw [e]
  exact rfl
theorem neS {a b : Str} (ha : Asc7 (tl a)) (hb : Asc7 (tl b)) : pNe (eS a) (eS b) = .ok (!decide (a = b)) := by
  have := eqS ha hb
  unfold pEq at this
  unfold pNe
  cases h : eqD (eS a) (eS b) with
  | none => rw [h] at this; cases this
  | some q => rw [h] at this; cases this; rfl
theorem tl_str (s : String) : tl (s : Str) = s.toList.map Char.toNat := tl_ofString s
theorem asc_app {l m : List Nat} (hl : Asc7 l) (hm : Asc7 m) : Asc7 (l ++ m) := fun c hc => (List.mem_append.mp hc).elim (hl c) (hm c)
theorem catS {a b : Str} (h : (tl a).length + (tl b).length ≤ 16777216) : pCatS a b = .ok (a ++ b) := by
  unfold pCatS
  rw [if_pos (by rw [len_tl, len_tl]; exact h)]
theorem lenS {a : Str} (h : (tl a).length ≤ 16777216) : pLenS a = .ok ((tl a).length : Int) := by
  unfold pLenS
  rw [if_pos (by rw [len_tl]; exact h), len_tl]
theorem in1 (c : Nat) (z : Str) : pInS ⟨#[c]⟩ z = decide (c ∈ tl z) := PySem.StrLaws.found_one z c
theorem strD {n : Int} (h0 : 0 ≤ n) (h : n < 10 ^ 100) : ∃ z, pStr n = .ok z ∧ tl z = numL n.toNat ∧ z = Str.ofString (toString ((n.toNat : Nat) : Int)) := by
  have e : ((n.toNat : Nat) : Int) = n := Int.toNat_of_nonneg h0
  refine ⟨Str.ofString (toString n), ?_, ?_, by rw [e]⟩
  · unfold pStr
    have h2 : n.natAbs < 2 ^ 1920 := by
      have : n.natAbs < 10 ^ 100 := by omega
      exact Nat.lt_of_lt_of_le this (by decide +kernel)
    have h3 : n.natAbs.log2 < 1920 := by
      by_cases hz : n.natAbs = 0
      · rw [hz]; decide
      · exact (Nat.log2_lt hz).mpr h2
    rw [if_pos h3]
    first | done | rfl
  · rw [← e, tl_num, e]
/-- the number of one or two signs -/
def rdN (l : List Nat) : Option Nat :=
  if l = [] ∨ 2 < l.length ∨ (l.length = 2 ∧ l.head? = some 48) then none
  else if l.all (fun c => decide (48 ≤ c) && decide (c ≤ 57)) = true then some (NumText.digitsVal l) else none
theorem rdN_canon {l : List Nat} {n : Nat} (h : rdN l = some n) : numL n = l ∧ n < 100 := by
  unfold rdN at h
  split at h
  · cases h
  · rename_i h1
    split at h
    · rename_i h2
      cases h
      rw [List.all_eq_true] at h2
      match l, h1, h2 with
      | [], h1, _ => exact absurd (.inl rfl) h1
      | [a], _, h2 =>
        have ha := h2 a (by simp)
        simp at ha
        have e : NumText.digitsVal [a] = a - 48 := by show 0 * 10 + (a - 48) = _; omega
        rw [e, numL_lt (by omega)]
        exact ⟨by congr 1; omega, by omega⟩
      | [a, b], h1, h2 =>
        have ha := h2 a (by simp)
        have hb := h2 b (by simp)
        simp at ha hb
        have a0 : a ≠ 48 := fun e => h1 (.inr (.inr ⟨rfl, by rw [e]; rfl⟩))
        have e : NumText.digitsVal [a, b] = (a - 48) * 10 + (b - 48) := by show (0 * 10 + (a - 48)) * 10 + (b - 48) = _; omega
        have e1 : 48 + ((a - 48) * 10 + (b - 48)) / 10 = a := by omega
        have e2 : 48 + ((a - 48) * 10 + (b - 48)) % 10 = b := by omega
        rw [e, numL_step (by omega), numL_lt (by omega), e1, e2]
        exact ⟨rfl, by omega⟩
      | a :: b :: c :: r, h1, _ => exact absurd (.inr (.inl (by simp))) h1
    · cases h
theorem rdN_num {n : Nat} (h : n < 100) : rdN (numL n) = some n := by
  have hv := numL_val n
  have hd := numL_digits n
  have hall : (numL n).all (fun c => decide (48 ≤ c) && decide (c ≤ 57)) = true := by
    rw [List.all_eq_true]
    intro c hc
    have := hd c hc
    simp; omega
  have h1 : ¬ (numL n = [] ∨ 2 < (numL n).length ∨ ((numL n).length = 2 ∧ (numL n).head? = some 48)) := by
    by_cases hn : n < 10
    · rw [numL_lt hn]; simp
    · rw [numL_step (by omega), numL_lt (show n / 10 < 10 by omega)]
      simp; omega
  unfold rdN
  rw [if_neg h1, if_pos hall, hv]
def noText {α : Type} : M α := .exn "NoText" [("at", eI 0)]
theorem atS0 {z : Str} {a : Nat} {r : List Nat} (h : tl z = a :: r) (hl : r.length ≤ 1000) : pAtS z 0 = .ok ⟨#[a]⟩ := by
  unfold pAtS
  have e : opIx (.str z) (.int 0) = some (.str ⟨#[a]⟩) := by
    show (if z.length ≤ big then match atI z.cps.toList 0 with | some c => some (D.str ⟨#[c]⟩) | none => none else none) = _
    have hz : z.length ≤ big := by rw [len_tl, h]; show r.length + 1 ≤ 16777216; omega
    rw [if_pos hz, show z.cps.toList = a :: r from h]
    have : atI (a :: r) 0 = some a := by simp [atI, ixN]
    rw [this]
  rw [e]
theorem read_number_d {z : Str} (hz : Asc7 (tl z)) (hl : (tl z).length ≤ 1000) : P_read_number z = match rdN (tl z) with | some n => .ok (n : Int) | none => noText := by
  have e0 : tl ("" : Str) = [] := by rw [tl_str]; rfl
  have ed : tl ("0123456789" : Str) = [48, 49, 50, 51, 52, 53, 54, 55, 56, 57] := by rw [tl_str]; decide
  have e48 : tl ("0" : Str) = [48] := by rw [tl_str]; rfl
  have ze : decide (z = "") = decide (tl z = []) := by
    congr 1
    exact propext ⟨fun e => by rw [e, e0], fun e => ext_tl (by rw [e, e0])⟩
  unfold P_read_number
  rw [eqS hz (by rw [e0]; intro c hc; cases hc), bind_ok, ze, lenS (by omega), bind_ok]
  generalize hq : tl z = l at hz hl ⊢
  have fold : ∀ m : List Nat, pfold (fun (x11 : Str) (a12 : Unit) => if (!pInS x11 ("0123456789" : Str)) = true then (.exn "NoText" [("at", eI 0)] : M Unit) else .ok ()) (m.map fun c => (⟨#[c]⟩ : Str)) () = if m.all (fun c => decide (48 ≤ c) && decide (c ≤ 57)) = true then .ok () else noText := by
    intro m
    induction m with
    | nil => rfl
    | cons c m ih =>
      rw [List.map_cons, List.all_cons]
      show M.bind (if (!pInS ⟨#[c]⟩ ("0123456789" : Str)) = true then (.exn "NoText" [("at", eI 0)] : M Unit) else .ok ()) _ = _
      rw [in1, ed]
      by_cases hc : 48 ≤ c ∧ c ≤ 57
      · have e1 : decide (c ∈ [48, 49, 50, 51, 52, 53, 54, 55, 56, 57]) = true := by
          apply decide_eq_true
          simp only [List.mem_cons, List.not_mem_nil, or_false]
          omega
        rw [e1]
        simp only [Bool.not_true, Bool.false_eq_true, if_false, bind_ok, decide_eq_true hc.1, decide_eq_true hc.2, Bool.true_and, Bool.and_self]
        exact ih
      · have e1 : decide (c ∈ [48, 49, 50, 51, 52, 53, 54, 55, 56, 57]) = false := by
          apply decide_eq_false
          simp only [List.mem_cons, List.not_mem_nil, or_false]
          omega
        rw [e1]
        have e2 : (decide (48 ≤ c) && decide (c ≤ 57)) = false := by simp; omega
        rw [e2]
        rfl
  have hs : signs z = l.map fun c => (⟨#[c]⟩ : Str) := by unfold signs; rw [← hq]
  have fin : ∀ b : Bool, b = decide (2 < l.length ∨ (l.length = 2 ∧ l.head? = some 48) ∨ l = []) → M.bind (.ok b : M Bool) (fun c7 => if c7 = true then (.exn "NoText" [("at", eI 0)] : M Int) else M.bind (pfold (fun (x11 : Str) (a12 : Unit) => if (!pInS x11 ("0123456789" : Str)) = true then (.exn "NoText" [("at", eI 0)] : M Unit) else .ok ()) (signs z) ()) fun (a14 : Unit) => M.bind (pIntS z) fun c16 => .ok c16) = match rdN l with | some n => .ok (n : Int) | none => noText := by
    intro b hb
    rw [bind_ok, hs, fold]
    by_cases h1 : 2 < l.length ∨ (l.length = 2 ∧ l.head? = some 48) ∨ l = []
    · rw [hb, decide_eq_true h1, if_pos rfl]
      unfold rdN
      rw [if_pos (by rcases h1 with h | h | h; exact .inr (.inl h); exact .inr (.inr h); exact .inl h)]
      rfl
    · rw [hb, decide_eq_false h1, if_neg Bool.false_ne_true]
      cases hr : rdN l with
      | none =>
        unfold rdN at hr
        rw [if_neg (by intro h; exact h1 (by rcases h with h | h | h; exact .inr (.inr h); exact .inl h; exact .inr (.inl h)))] at hr
        split at hr
        · cases hr
        · rename_i h2
          rw [if_neg h2]; rfl
      | some n =>
        obtain ⟨hc, hn⟩ := rdN_canon hr
        unfold rdN at hr
        rw [if_neg (by intro h; exact h1 (by rcases h with h | h | h; exact .inr (.inr h); exact .inl h; exact .inr (.inl h)))] at hr
        split at hr
        · rename_i h2
          rw [if_pos h2, bind_ok]
          have ez : z = Str.ofString (toString ((n : Nat) : Int)) := ext_tl (by rw [tl_num, hq, hc])
          have hlen : (numL n).length ≤ 2 := by rw [hc]; omega
          have hi : PySem.intText? z = some (n : Int) := by rw [ez]; exact int_num (by omega)
          unfold pIntS
          rw [if_pos (by rw [len_tl, hq]; omega), hi]
          rfl
        · cases hr
  by_cases hne : l = []
  · rw [decide_eq_true hne, if_pos rfl]
    exact fin true (by rw [decide_eq_true]; exact .inr (.inr hne))
  · rw [decide_eq_false hne, if_neg Bool.false_ne_true, bind_ok]
    have d2 : decide ((l.length : Int) > 2) = decide (2 < l.length) := by congr 1; apply propext; omega
    have d3 : decide ((l.length : Int) = 2) = decide (l.length = 2) := by congr 1; apply propext; omega
    rw [d2]
    by_cases h2 : 2 < l.length
    · rw [decide_eq_true h2, if_pos rfl]
      exact fin true (by rw [decide_eq_true]; exact .inl h2)
    · rw [decide_eq_false h2, if_neg Bool.false_ne_true, bind_ok, bind_ok, d3]
      by_cases h3 : l.length = 2
      · rw [decide_eq_true h3, if_pos rfl]
        cases l with
        | nil => exact absurd rfl hne
        | cons a r =>
          rw [atS0 hq (by rw [List.length_cons] at h3; omega), bind_ok, eqS (a := ⟨#[a]⟩) (fun c hc => by
            rw [show tl ⟨#[a]⟩ = [a] from rfl, List.mem_singleton] at hc
            rw [hc]; exact hz a List.mem_cons_self) (by rw [e48]; intro c hc; rw [List.mem_singleton.mp hc]; decide)]
          refine fin _ ?_
          congr 1
          apply propext
          constructor
          · intro e
            refine .inr (.inl ⟨h3, ?_⟩)
            have := congrArg tl e
            rw [e48] at this
            have : [a] = [48] := this
            injection this with q
            rw [q]; rfl
          · intro h
            rcases h with h | h | h
            · omega
            · have : some a = some 48 := h.2
              injection this with q
              rw [q]
              exact ext_tl (by rw [e48])
            · cases h
      · rw [decide_eq_false h3, if_neg Bool.false_ne_true]
        exact fin false (by rw [decide_eq_false]; intro h; rcases h with h | h | h; exact h2 h; exact h3 h.1; exact hne h)
end LAW
namespace LAW
open DL PySem L2
open TL
theorem starts_tl {x y : Str} (hy : tl y ≠ []) : Txt.startswith x y = pre (tl y) (tl x) := by
  have h := at_iff (x := x) hy 0
  rw [List.drop_zero] at h
  rw [Bool.eq_iff_iff, ← h]
  unfold Txt.startswith
  rw [Bool.and_eq_true, decide_eq_true_eq]
  exact Iff.rfl
theorem pre1 {s : Nat} : ∀ l : List Nat, pre [s] l = decide (l.head? = some s)
  | [] => rfl
  | c :: r => by
    by_cases h : c = s
    · subst h
      rw [show pre [c] (c :: r) = true from pre_self [c] r]
      simp
    · rw [pre_of_head [] r h]
      simp [h]
theorem spl_same (c : Nat) (r acc : List Nat) : spl [c] 0 acc (c :: r) = acc :: spl [c] 0 [] r := spl_hit (pre_self [c] r)
theorem par_same (c : Nat) (r acc : List Nat) : par [c] acc (c :: r) = some (acc, r) := par_hit (pre_self [c] r)
theorem spl_ne (s : Nat) : ∀ (l acc : List Nat), spl [s] 0 acc l ≠ []
  | [], acc => by rw [spl_nil]; simp
  | c :: r, acc => by
    by_cases h : c = s
    · subst h
      rw [spl_same]; simp
    · rw [spl_miss (pre_of_head [] r h)]; exact spl_ne s r _
theorem joinL_cons {S p : List Nat} : ∀ {ps : List (List Nat)}, ps ≠ [] → joinL S (p :: ps) = p ++ (S ++ joinL S ps)
  | [], h => absurd rfl h
  | _ :: _, _ => rfl
theorem join_spl (s : Nat) : ∀ (l acc : List Nat), joinL [s] (spl [s] 0 acc l) = acc ++ l
  | [], acc => by rw [spl_nil, List.append_nil]; rfl
  | c :: r, acc => by
    by_cases h : c = s
    · subst h
      rw [spl_same, joinL_cons (spl_ne _ _ _)]
      show acc ++ ([c] ++ joinL [c] (spl [c] 0 [] r)) = _
      rw [join_spl c r []]; rfl
    · rw [spl_miss (pre_of_head [] r h), join_spl s r, List.append_assoc]; rfl
theorem spl_len (s : Nat) : ∀ (l acc : List Nat), (spl [s] 0 acc l).length ≤ l.length + 1
  | [], acc => by rw [spl_nil]; simp
  | c :: r, acc => by
    by_cases h : c = s
    · subst h
      rw [spl_same]
      have := spl_len c r []
      simp only [List.length_cons]
      show (spl [c] 0 [] r).length + 1 ≤ _
      omega
    · rw [spl_miss (pre_of_head [] r h)]
      have := spl_len s r (acc ++ [c])
      simp only [List.length_cons]; omega
theorem spl_sub (s : Nat) : ∀ (l acc : List Nat), ∀ p ∈ spl [s] 0 acc l, (∀ c ∈ p, c ∈ acc ∨ c ∈ l) ∧ p.length ≤ acc.length + l.length
  | [], acc, p, hp => by
    rw [spl_nil, List.mem_singleton] at hp
    rw [hp]; exact ⟨fun c hc => .inl hc, by simp⟩
  | c :: r, acc, p, hp => by
    by_cases h : c = s
    · subst h
      rw [spl_same] at hp
      rcases List.mem_cons.mp hp with e | hp
      · rw [e]; exact ⟨fun c hc => .inl hc, by simp⟩
      · obtain ⟨h1, h2⟩ := spl_sub c r [] p hp
        exact ⟨fun d hd => (h1 d hd).elim (fun q => absurd q (by simp)) fun q => .inr (List.mem_cons_of_mem _ q), by simp at h2 ⊢; omega⟩
    · rw [spl_miss (pre_of_head [] r h)] at hp
      obtain ⟨h1, h2⟩ := spl_sub s r _ p hp
      refine ⟨fun d hd => ?_, by simp at h2 ⊢; omega⟩
      rcases h1 d hd with q | q
      · rcases List.mem_append.mp q with q | q
        · exact .inl q
        · rw [List.mem_singleton.mp q]; exact .inr List.mem_cons_self
      · exact .inr (List.mem_cons_of_mem _ q)
theorem par_cut (s : Nat) : ∀ (l acc : List Nat), s ∉ acc → (∀ a b, par [s] acc l = some (a, b) → acc ++ l = a ++ s :: b ∧ s ∉ a) ∧ (par [s] acc l = none → s ∉ l)
  | [], acc, ha => ⟨fun a b h => (by cases h), fun _ => by simp⟩
  | c :: r, acc, ha => by
    by_cases h : c = s
    · subst h
      rw [par_same]
      exact ⟨fun a b e => (by cases e; exact ⟨rfl, ha⟩), fun e => (by cases e)⟩
    · rw [par_miss (pre_of_head [] r h)]
      obtain ⟨h1, h2⟩ := par_cut s r (acc ++ [c]) (by simp [ha]; exact fun e => h e.symm)
      refine ⟨fun a b e => ?_, fun e => ?_⟩
      · obtain ⟨q1, q2⟩ := h1 a b e
        exact ⟨by rw [← q1, List.append_assoc]; rfl, q2⟩
      · have := h2 e
        simp [this]; exact fun e => h e.symm
def rowL (r : List Int) : List Nat := r.flatMap fun x => 32 :: numL x.toNat
def RL (T : List (List Int)) : List Nat := numL T.length ++ 58 :: joinL [59] (T.map rowL)
def rdItems : List (List Nat) → Option (List Int)
  | [] => some []
  | l :: r => match rdN l, rdItems r with
    | some n, some ns => some ((n : Int) :: ns)
    | _, _ => none
def rdRow : List Nat → Option (List Int)
  | [] => none
  | c :: q => if c = 32 then rdItems (spl [32] 0 [] q) else none
def rdRows : List (List Nat) → Option (List (List Int))
  | [] => some []
  | l :: r => match rdRow l, rdRows r with
    | some n, some ns => some (n :: ns)
    | _, _ => none
def rdT (l : List Nat) : Option (List (List Int)) := match par [58] [] l with
  | none => none
  | some (a, b) => match rdN a, rdRows (spl [59] 0 [] b) with
    | some n, some T => if T.length = n then some T else none
    | _, _ => none
theorem rdItems_canon : ∀ {ls : List (List Nat)} {ns : List Int}, rdItems ls = some ns → ls = ns.map (fun x => numL x.toNat) ∧ ∀ x ∈ ns, 0 ≤ x ∧ x < 100
  | [], ns, h => by cases h; exact ⟨rfl, by simp⟩
  | l :: r, ns, h => by
    unfold rdItems at h
    split at h
    · rename_i n ms h1 h2
      cases h
      obtain ⟨q1, q2⟩ := rdN_canon h1
      obtain ⟨r1, r2⟩ := rdItems_canon h2
      refine ⟨by rw [List.map_cons, ← r1, Int.toNat_natCast, q1], fun x hx => ?_⟩
      rcases List.mem_cons.mp hx with e | hx
      · rw [e]; omega
      · exact r2 x hx
    · cases h
theorem rowL_join : ∀ {r : List Int}, r ≠ [] → rowL r = 32 :: joinL [32] (r.map fun x => numL x.toNat)
  | [], h => absurd rfl h
  | [a], _ => by simp [rowL, joinL]
  | a :: b :: r, _ => by
    have ih := rowL_join (r := b :: r) (by simp)
    show (32 :: numL a.toNat) ++ rowL (b :: r) = 32 :: joinL [32] (numL a.toNat :: (b :: r).map fun x => numL x.toNat)
    rw [ih, joinL_cons (ps := (b :: r).map fun x => numL x.toNat) (by simp)]
    rfl
theorem rdRow_canon {l : List Nat} {r : List Int} (h : rdRow l = some r) : rowL r = l ∧ r ≠ [] ∧ ∀ x ∈ r, 0 ≤ x ∧ x < 100 := by
  cases l with
  | nil => cases h
  | cons c q =>
    have h : (if c = 32 then rdItems (spl [32] 0 [] q) else none) = some r := h
    split at h
    · rename_i hc
      subst hc
      obtain ⟨h1, h2⟩ := rdItems_canon h
      have hne : r ≠ [] := fun e => by
        rw [e] at h1
        exact spl_ne _ _ _ h1
      refine ⟨?_, hne, h2⟩
      rw [rowL_join hne, ← h1, join_spl, List.nil_append]
    · cases h
theorem rdRows_canon : ∀ {ls : List (List Nat)} {T : List (List Int)}, rdRows ls = some T → ls = T.map rowL ∧ ∀ r ∈ T, r ≠ [] ∧ ∀ x ∈ r, 0 ≤ x ∧ x < 100
  | [], T, h => by cases h; exact ⟨rfl, by simp⟩
  | l :: r, T, h => by
    unfold rdRows at h
    split at h
    · rename_i n ms h1 h2
      cases h
      obtain ⟨q1, q2⟩ := rdRow_canon h1
      obtain ⟨r1, r2⟩ := rdRows_canon h2
      refine ⟨by rw [List.map_cons, ← r1, q1], fun x hx => ?_⟩
      rcases List.mem_cons.mp hx with e | hx
      · rw [e]; exact q2
      · exact r2 x hx
    · cases h
theorem rdT_canon {l : List Nat} {T : List (List Int)} (h : rdT l = some T) : RL T = l ∧ ∀ r ∈ T, r ≠ [] ∧ ∀ x ∈ r, 0 ≤ x ∧ x < 100 := by
  unfold rdT at h
  split at h
  · cases h
  · rename_i a b hp
    split at h
    · rename_i n T' h1 h2
      split at h
      · rename_i hl
        cases h
        obtain ⟨q1, q2⟩ := rdRows_canon h2
        obtain ⟨p1, _⟩ := (par_cut 58 l [] (by simp)).1 a b hp
        refine ⟨?_, q2⟩
        unfold RL
        rw [hl, (rdN_canon h1).1, ← q1, join_spl, List.nil_append]
        exact p1.symm
      · cases h
    · cases h
theorem rdItems_num : ∀ {ns : List Int}, (∀ x ∈ ns, 0 ≤ x ∧ x < 100) → rdItems (ns.map fun x => numL x.toNat) = some ns
  | [], _ => rfl
  | x :: ns, h => by
    have hx := h x List.mem_cons_self
    rw [List.map_cons]
    unfold rdItems
    rw [rdN_num (by omega), rdItems_num fun y hy => h y (List.mem_cons_of_mem _ hy)]
    simp only [Option.some.injEq, List.cons.injEq, and_true]
    omega
theorem rdRow_row {r : List Int} (hne : r ≠ []) (h : ∀ x ∈ r, 0 ≤ x ∧ x < 100) : rdRow (rowL r) = some r := by
  rw [rowL_join hne]
  show (if 32 = 32 then rdItems (spl [32] 0 [] (joinL [32] (r.map fun x => numL x.toNat))) else none) = some r
  rw [if_pos rfl, spl_join (by simpa using hne) (fun p hp => ?_), rdItems_num h]
  obtain ⟨x, hx, rfl⟩ := List.mem_map.mp hp
  exact numL_free (.inl (by decide))
theorem rdRows_rows : ∀ {T : List (List Int)}, (∀ r ∈ T, r ≠ [] ∧ ∀ x ∈ r, 0 ≤ x ∧ x < 100) → rdRows (T.map rowL) = some T
  | [], _ => rfl
  | r :: T, h => by
    rw [List.map_cons]
    unfold rdRows
    have hr := h r List.mem_cons_self
    rw [rdRow_row hr.1 hr.2, rdRows_rows fun y hy => h y (List.mem_cons_of_mem _ hy)]
theorem rowL_mem {r : List Int} {c : Nat} (h : c ∈ rowL r) : c = 32 ∨ 48 ≤ c ∧ c ≤ 57 := by
  unfold rowL at h
  obtain ⟨x, hx, h⟩ := List.mem_flatMap.mp h
  rcases List.mem_cons.mp h with e | h
  · exact .inl e
  · exact .inr (numL_digits _ c h)
theorem rdT_RL {T : List (List Int)} (h1 : T ≠ []) (h2 : T.length < 100) (h : ∀ r ∈ T, r ≠ [] ∧ ∀ x ∈ r, 0 ≤ x ∧ x < 100) : rdT (RL T) = some T := by
  unfold rdT RL
  have e : par [58] [] (numL T.length ++ 58 :: joinL [59] (T.map rowL)) = some (numL T.length, joinL [59] (T.map rowL)) := by
    have := par_part1 (s := 58) (S := []) (p := numL T.length) (rest := joinL [59] (T.map rowL)) (acc := []) (numL_free (.inr (by decide)))
    simpa using this
  rw [e]
  simp only
  rw [rdN_num h2, spl_join (by simpa using h1) (fun p hp => ?_), rdRows_rows h]
  · simp
  · obtain ⟨r, hr, rfl⟩ := List.mem_map.mp hp
    intro hm
    rcases rowL_mem hm with e | e <;> omega
end LAW
namespace LAW
open DL PySem L2
open TL
theorem pfold_chk {α β : Type} {F : α → List β → M (List β)} {good : α → Bool} {v : α → β} {c : Str} {fs : List (Str × D)} {N : Nat} : ∀ (xs : List α) (a : List β), a.length + xs.length ≤ N → (∀ x ∈ xs, ∀ a : List β, a.length < N → F x a = if good x = true then .ok (a ++ [v x]) else .exn c fs) → pfold F xs a = if xs.all good = true then .ok (a ++ xs.map v) else .exn c fs
  | [], a, _, _ => by simp [pfold]
  | x :: xs, a, hl, h => by
    rw [List.length_cons] at hl
    unfold pfold
    rw [h x List.mem_cons_self a (by omega), List.all_cons]
    by_cases hg : good x = true
    · rw [if_pos hg, bind_ok, pfold_chk xs (a ++ [v x]) (by simp; omega) fun y hy => h y (List.mem_cons_of_mem _ hy), hg, Bool.true_and]
      simp
    · rw [if_neg hg]
      have : good x = false := by simpa using hg
      rw [this]; rfl
theorem pfold_unit {α : Type} {F : α → Unit → M Unit} {good : α → Bool} {c : Str} {fs : List (Str × D)} : ∀ (xs : List α), (∀ x ∈ xs, F x () = if good x = true then .ok () else .exn c fs) → pfold F xs () = if xs.all good = true then .ok () else .exn c fs
  | [], _ => rfl
  | x :: xs, h => by
    unfold pfold
    rw [h x List.mem_cons_self, List.all_cons]
    by_cases hg : good x = true
    · rw [if_pos hg, bind_ok, pfold_unit xs fun y hy => h y (List.mem_cons_of_mem _ hy), hg, Bool.true_and]
    · rw [if_neg hg]
      have : good x = false := by simpa using hg
      rw [this]; rfl
def inB (N x : Int) : Bool := decide (0 ≤ x) && decide (x < N)
def rowB (T : List (List Int)) (r : List Int) : Bool := decide ((r.length : Int) = (T.length : Int)) && r.all (inB T.length)
def okT (T : List (List Int)) : Bool := !decide (T.length = 0) && (T.all (rowB T) && (decide (T.length ≤ 24) && ascB T.length T))
theorem okT_vt {T : List (List Int)} (h : T.all (rowB T) = true) : VT T.length T := by
  rw [List.all_eq_true] at h
  refine ⟨rfl, fun r hr => ?_, fun r hr x hx => ?_⟩
  · have := h r hr
    unfold rowB at this
    rw [Bool.and_eq_true, decide_eq_true_eq] at this
    exact this.1
  · have := h r hr
    unfold rowB at this
    rw [Bool.and_eq_true, List.all_eq_true] at this
    have := this.2 x hx
    unfold inB at this
    simpa using this
theorem taken2_d {T : List (List Int)} (hl : T.length ≤ 1000) (hne : T.length ≠ 0) : P_taken_table_2 T = if T.all (rowB T) = true then .ok T else .exn "Malformed" [] := by
  unfold P_taken_table_2
  have h0 : ¬ ((T.length : Int) = 0) := by omega
  rw [decide_eq_false h0, if_neg (by decide), pfold_chk (good := rowB T) (v := fun r => r) (c := "Malformed") (fs := []) (N := 1000) T [] (by simpa using hl) fun r hr a ha => ?_]
  · cases T.all (rowB T) <;> simp
  · unfold rowB
    by_cases e : (r.length : Int) = (T.length : Int)
    · rw [decide_eq_true e, if_neg (by decide), Bool.true_and, pfold_unit (good := inB T.length) (c := "Malformed") (fs := []) r fun x hx => ?_]
      · cases r.all (inB T.length) with
        | true => simp only [if_true, bind_ok]; rw [pApp_ok (by omega), bind_ok]
        | false => rfl
      · unfold P_is_item P_is_integer inB
        simp only [bind_ok, Bool.not_false, Bool.true_and]
        cases decide (0 ≤ x) <;> cases decide (x < (T.length : Int)) <;> rfl
    · rw [decide_eq_false e, if_pos (by decide), Bool.false_and]; rfl
theorem init2_d {T : List (List Int)} (hl : T.length ≤ 1000) : (okT T = true → P_Semigroup___init___2 T = .ok ((T.length : Int), T)) ∧ (okT T = false → ∃ c fs, (c = "Malformed" ∨ c = "Refused") ∧ P_Semigroup___init___2 T = .exn c fs) := by
  unfold P_Semigroup___init___2 okT
  by_cases h0 : T.length = 0
  · have : P_taken_table_2 T = .exn "Malformed" [] := by
      unfold P_taken_table_2
      rw [decide_eq_true (show (T.length : Int) = 0 by omega), if_pos (by decide)]
    rw [this, decide_eq_true h0]
    exact ⟨fun h => (by cases h), fun _ => ⟨_, _, .inl rfl, rfl⟩⟩
  · rw [taken2_d hl h0, decide_eq_false h0]
    cases hr : T.all (rowB T) with
    | false => exact ⟨fun h => (by cases h), fun _ => ⟨_, _, .inl rfl, rfl⟩⟩
    | true =>
      simp only [if_true, bind_ok]
      by_cases h24 : T.length ≤ 24
      · have V := okT_vt hr
        rw [if_neg (by simp; omega), isasc_d (by omega) V, bind_ok, bind_ok, decide_eq_true h24]
        cases ascB T.length T with
        | true => exact ⟨fun _ => rfl, fun h => (by cases h)⟩
        | false => exact ⟨fun h => (by cases h), fun _ => ⟨_, _, .inr rfl, rfl⟩⟩
      · rw [if_pos (by simp; omega), decide_eq_false h24]
        exact ⟨fun h => (by cases h), fun _ => ⟨_, _, .inr rfl, rfl⟩⟩
def rdS (l : List Nat) : Option (List (List Int)) := match rdT l with
  | some T => if okT T = true then some T else none
  | none => none
theorem rdS_canon {l : List Nat} {T : List (List Int)} (h : rdS l = some T) : RL T = l ∧ okT T = true := by
  unfold rdS at h
  split at h
  · rename_i T' h1
    split at h
    · rename_i h2
      cases h
      exact ⟨(rdT_canon h1).1, h2⟩
    · cases h
  · cases h
theorem fault_mt : mtB mt "Malformed" "Fault" = some true ∧ mtB mt "Refused" "Fault" = some true ∧ mtB mt "NoText" "NoText" = some true := by decide +kernel
theorem tl_cut1 {z : Str} {c : Nat} {q : List Nat} (h : tl z = c :: q) (hl : q.length ≤ 16777215) : ∃ y, pSlS z (some 1) none = .ok y ∧ tl y = q := by
  have hz : z.length = q.length + 1 := by rw [len_tl, h]; rfl
  refine ⟨cutS z (some 1) none, by unfold pSlS; rw [if_pos (by show z.length ≤ 16777216; omega)], ?_⟩
  have : (cutS z (some 1) none).cps.toList = cutD z.cps.toList (some 1) none := by
    unfold cutS cutD
    simp only [Array.length_toList]
    rfl
  show (cutS z (some 1) none).cps.toList = q
  rw [this, cutD_from (by omega), show z.cps.toList = c :: q from h]
  rfl
theorem splitS {z y : Str} {s : Nat} (hy : tl y = [s]) (hs : s < 256) (hl : (tl z).length ≤ 16777000) : ∃ ps, pSplit z y = .ok ps ∧ ps.map tl = spl [s] 0 [] (tl z) := by
  refine ⟨Txt.split z y, ?_, ?_⟩
  · unfold pSplit
    rw [if_pos ⟨by rw [len_tl, hy]; rfl, by rw [len_tl]; show _ ≤ 16777216; omega⟩]
  · rw [split_spl z y (by rw [hy]; simp) (kind_ok ?_), hy]
    rw [← Array.all_toList, show y.cps.toList = [s] from hy]
    simp [hs]
theorem items_d : ∀ {ps : List Str}, (∀ p ∈ ps, Asc7 (tl p) ∧ (tl p).length ≤ 1000) → mapX (fun x => P_read_number x) ps = match rdItems (ps.map tl) with | some ns => .ok ns | none => noText
  | [], _ => rfl
  | p :: ps, h => by
    have hp := h p List.mem_cons_self
    rw [List.map_cons]
    unfold mapX rdItems
    rw [read_number_d hp.1 hp.2, items_d fun q hq => h q (List.mem_cons_of_mem _ hq)]
    cases rdN (tl p) with
    | none => rfl
    | some n => cases rdItems (ps.map tl) <;> rfl
theorem sub_asc {l : List Nat} {s : Nat} (h : Asc7 l) {p : List Nat} (hp : p ∈ spl [s] 0 [] l) : Asc7 p ∧ p.length ≤ l.length := by
  obtain ⟨h1, h2⟩ := spl_sub s l [] p hp
  exact ⟨fun c hc => (h1 c hc).elim (fun q => absurd q (by simp)) (h c), by simpa using h2⟩
/-- the rows -/
abbrev turnR (x23 : Str) (a24 : List (List Int)) : M (List (List Int)) := if (!(Txt.startswith x23 (" " : Str))) = true then .exn "NoText" [("at", eI 0)] else M.bind (M.bind (M.bind (M.bind (pSlS x23 (some 1) none) fun c26 => pSplit c26 (" " : Str)) fun c28 => pMapX (fun (x29 : Str) => P_read_number x29) c28) fun c31 => pApp a24 c31) fun c30 => .ok c30
theorem turnR_d {p : Str} {a : List (List Int)} (hp : Asc7 (tl p) ∧ (tl p).length ≤ 1000) (ha : a.length < 16777000) : turnR p a = match rdRow (tl p) with | some r => .ok (a ++ [r]) | none => noText := by
  have e32 : tl (" " : Str) = [32] := by rw [tl_str]; rfl
  show (if (!(Txt.startswith p (" " : Str))) = true then _ else _) = _
  rw [starts_tl (by rw [e32]; simp), e32, pre1]
  cases hq : tl p with
  | nil => rfl
  | cons c q =>
    rw [show (c :: q).head? = some c from rfl]
    have er : rdRow (c :: q) = if c = 32 then rdItems (spl [32] 0 [] q) else none := rfl
    rw [er]
    by_cases hc : c = 32
    · subst hc
      obtain ⟨y, ey, hy⟩ := tl_cut1 hq (by have := hp.2; rw [hq, List.length_cons] at this; omega)
      have hq7 : Asc7 q ∧ q.length ≤ 1000 := by
        have h := hp
        rw [hq] at h
        exact ⟨fun c hc => h.1 c (List.mem_cons_of_mem _ hc), by have := h.2; rw [List.length_cons] at this; omega⟩
      obtain ⟨ps, eps, hps⟩ := splitS (z := y) e32 (by decide) (by rw [hy]; omega)
      rw [hy] at hps
      have hl : ps.length ≤ 1001 := by
        have := spl_len 32 q []
        rw [← hps, List.length_map] at this
        omega
      rw [if_pos rfl, decide_eq_true rfl, if_neg (by decide), ey, bind_ok, eps, bind_ok]
      unfold pMapX
      rw [if_pos (by show _ ≤ 16777216; omega), items_d (fun x hx => ?_), hps]
      · cases rdItems (spl [32] 0 [] q) with
        | none => rfl
        | some r => show M.bind (M.bind (.ok r) _) _ = _; rw [bind_ok, pApp_ok (by omega), bind_ok]
      · have hx : tl x ∈ spl [32] 0 [] q := by rw [← hps]; exact List.mem_map_of_mem hx
        obtain ⟨h1, h2⟩ := sub_asc hq7.1 hx
        exact ⟨h1, by omega⟩
    · rw [if_neg hc, decide_eq_false (by simpa using hc), if_pos (by decide)]
      rfl
theorem rows_rd : ∀ {ps : List Str} (a : List (List Int)), a.length + ps.length ≤ 16777000 → (∀ p ∈ ps, Asc7 (tl p) ∧ (tl p).length ≤ 1000) → pfold turnR ps a = match rdRows (ps.map tl) with | some T => .ok (a ++ T) | none => noText
  | [], a, _, _ => by simp [pfold, rdRows]
  | p :: ps, a, hl, h => by
    rw [List.length_cons] at hl
    rw [List.map_cons]
    unfold pfold rdRows
    rw [turnR_d (h p List.mem_cons_self) (by omega)]
    cases rdRow (tl p) with
    | none => rfl
    | some r =>
      show M.bind (.ok (a ++ [r])) _ = _
      rw [bind_ok, rows_rd (a ++ [r]) (by simp; omega) fun q hq => h q (List.mem_cons_of_mem _ hq)]
      cases rdRows (ps.map tl) with
      | none => rfl
      | some T => show M.ok _ = M.ok _; rw [List.append_assoc]; rfl
theorem rdRows_len : ∀ {ls : List (List Nat)} {T : List (List Int)}, rdRows ls = some T → T.length = ls.length := fun {ls T} h => by
  rw [(rdRows_canon h).1, List.length_map]
theorem read_d {z : Str} (hz : Asc7 (tl z)) (hl : (tl z).length ≤ 1000) : P_read_semigroup z = match rdS (tl z) with | some T => .ok ((T.length : Int), T) | none => noText := by
  have e58 : tl (":" : Str) = [58] := by rw [tl_str]; rfl
  have e59 : tl (";" : Str) = [59] := by rw [tl_str]; rfl
  have e0 : tl ("" : Str) = [] := by rw [tl_str]; rfl
  unfold P_read_semigroup
  rw [if_neg (by decide)]
  have hp : pPart z (":" : Str) = .ok (Txt.partition z (":" : Str)) := by
    unfold pPart
    rw [if_pos ⟨by rw [len_tl, e58]; rfl, by rw [len_tl]; show _ ≤ 16777216; omega⟩]
  rw [hp, bind_ok]
  cases hpar : par [58] [] (tl z) with
  | none =>
    have h58 := (par_cut 58 (tl z) [] (by simp)).2 hpar
    rw [partition_none e58 h58]
    have : rdS (tl z) = none := by unfold rdS rdT; rw [hpar]
    rw [this]
    show M.bind (P_read_number z) _ = _
    rw [read_number_d hz hl]
    cases rdN (tl z) with
    | none => rfl
    | some n =>
      show M.bind (.ok (n : Int)) _ = _
      rw [bind_ok]
      obtain ⟨ps, eps, hps⟩ := splitS (z := Str.empty) (y := (";" : Str)) e59 (by decide) (by show (0 : Nat) ≤ _; omega)
      have hps : ps.map tl = [[]] := by rw [hps]; exact spl_nil [59] 0 []
      show M.bind (pSplit Str.empty (";" : Str)) _ = _
      rw [eps, bind_ok]
      have hr := rows_rd (ps := ps) [] (by have := congrArg List.length hps; simp at this; simp [this]) (fun p hp => by
        have : tl p ∈ ps.map tl := List.mem_map_of_mem hp
        rw [hps, List.mem_singleton] at this
        rw [this]; exact ⟨(by intro c hc; cases hc), by simp⟩)
      rw [hps] at hr
      rw [show pfold _ ps [] = pfold turnR ps [] from rfl, hr]
      rfl
  | some ab =>
    obtain ⟨a, b⟩ := ab
    obtain ⟨h1, h2⟩ := (par_cut 58 (tl z) [] (by simp)).1 a b hpar
    rw [List.nil_append] at h1
    have ez : z = (⟨a.toArray⟩ : Str) ++ (":" : Str) ++ (⟨b.toArray⟩ : Str) := ext_tl (by show tl z = _; rw [tl_append, tl_append, e58, h1, List.append_assoc]; rfl)
    have hA : Asc7 a ∧ a.length ≤ 1000 ∧ Asc7 b ∧ b.length ≤ 1000 := by
      rw [h1] at hz hl
      refine ⟨fun c hc => hz c (List.mem_append_left _ hc), ?_, fun c hc => hz c (List.mem_append_right _ (List.mem_cons_of_mem _ hc)), ?_⟩ <;> (rw [List.length_append, List.length_cons] at hl; omega)
    have epart : Txt.partition z (":" : Str) = (⟨a.toArray⟩, (":" : Str), ⟨b.toArray⟩) := by
      have := partition_app e58 (a := (⟨a.toArray⟩ : Str)) (b := (⟨b.toArray⟩ : Str)) h2
      rw [← ez] at this
      exact this
    rw [epart]
    show M.bind (P_read_number ⟨a.toArray⟩) _ = _
    rw [read_number_d (z := ⟨a.toArray⟩) hA.1 hA.2.1, show tl (⟨a.toArray⟩ : Str) = a from rfl]
    have es : rdS (tl z) = match (match rdN a, rdRows (spl [59] 0 [] b) with | some n, some T => if T.length = n then some T else none | _, _ => none) with | some T => if okT T = true then some T else none | none => none := by
      unfold rdS rdT
      rw [hpar]
    rw [es]
    cases hna : rdN a with
    | none => rfl
    | some n =>
      have n100 := (rdN_canon hna).2
      show M.bind (.ok (n : Int)) _ = _
      rw [bind_ok]
      obtain ⟨ps, eps, hps⟩ := splitS (z := (⟨b.toArray⟩ : Str)) (y := (";" : Str)) e59 (by decide) (by show b.length ≤ _; omega)
      rw [show tl (⟨b.toArray⟩ : Str) = b from rfl] at hps
      show M.bind (pSplit ⟨b.toArray⟩ (";" : Str)) _ = _
      rw [eps, bind_ok]
      have hlen : ps.length ≤ 1001 := by
        have := spl_len 59 b []
        rw [← hps, List.length_map] at this
        omega
      have hr := rows_rd (ps := ps) [] (by simp; omega) (fun p hp => by
        have : tl p ∈ spl [59] 0 [] b := by rw [← hps]; exact List.mem_map_of_mem hp
        obtain ⟨q1, q2⟩ := sub_asc hA.2.2.1 this
        exact ⟨q1, by omega⟩)
      rw [hps] at hr
      rw [show pfold _ ps [] = pfold turnR ps [] from rfl, hr]
      cases hT : rdRows (spl [59] 0 [] b) with
      | none => rfl
      | some T =>
        have hTl : T.length ≤ 1001 := by rw [rdRows_len hT, ← hps, List.length_map]; exact hlen
        show M.bind (.ok ([] ++ T)) _ = _
        rw [bind_ok, List.nil_append, eqS (by rw [e58]; intro c hc; rw [List.mem_singleton.mp hc]; decide) (by rw [e0]; intro c hc; cases hc), bind_ok, bind_ok]
        have ne : ¬ ((":" : Str) = ("" : Str)) := fun e => by
          have := congrArg tl e
          rw [e58, e0] at this
          cases this
        rw [decide_eq_false ne, Bool.false_or]
        simp only
        by_cases hn : T.length = n
        · rw [if_pos hn, decide_eq_true (show (T.length : Int) = (n : Int) by omega), if_neg (by decide)]
          obtain ⟨i1, i2⟩ := init2_d (T := T) (by omega)
          cases hk : okT T with
          | true =>
            rw [i1 hk]
            simp only [hk, if_true]
            rfl
          | false =>
            obtain ⟨c, fs, hc, e⟩ := i2 hk
            rw [e]
            simp only [hk, Bool.false_eq_true, if_false]
            show pMt mt c "Fault" noText (.exn c fs) = noText
            unfold pMt
            rcases hc with rfl | rfl
            · rw [fault_mt.1]
            · rw [fault_mt.2.1]
        · rw [if_neg hn, decide_eq_false (show ¬ (T.length : Int) = (n : Int) by omega), if_pos (by decide)]
          rfl
end LAW
namespace LAW
open DL PySem L2
open TL
theorem numL_pos {n : Nat} (h1 : 1 ≤ n) (h : n < 100) : ∃ d r, numL n = d :: r ∧ 49 ≤ d ∧ d ≤ 57 := by
  by_cases hn : n < 10
  · exact ⟨48 + n, [], numL_lt hn, by omega, by omega⟩
  · exact ⟨48 + n / 10, [48 + n % 10], by rw [numL_step (by omega), numL_lt (show n / 10 < 10 by omega)]; rfl, by omega, by omega⟩
theorem numL_last (n : Nat) : ∃ m d, numL n = m ++ [d] ∧ 48 ≤ d ∧ d ≤ 57 ∧ (n < 10 → d = 48 + n) := by
  by_cases hn : n < 10
  · exact ⟨[], 48 + n, numL_lt hn, by omega, by omega, fun _ => rfl⟩
  · exact ⟨numL (n / 10), 48 + n % 10, numL_step (by omega), by omega, by omega, fun h => absurd h hn⟩
theorem joinL_last {S : List Nat} : ∀ {ps : List (List Nat)} {p : List Nat}, ∃ m, joinL S (ps ++ [p]) = m ++ p
  | [], p => ⟨[], rfl⟩
  | q :: ps, p => by
    obtain ⟨m, h⟩ := joinL_last (S := S) (ps := ps) (p := p)
    refine ⟨q ++ (S ++ m), ?_⟩
    rw [List.cons_append, joinL_cons (by simp), h]
    simp
theorem joinL_count {s c : Nat} : ∀ (ps : List (List Nat)), (joinL [s] ps).count c = (ps.map (List.count c)).sum + (if c = s then ps.length - 1 else 0)
  | [] => by simp [joinL]
  | [p] => by simp [joinL]
  | p :: q :: r => by
    rw [joinL_cons (by simp), List.count_append, List.count_append, joinL_count (q :: r)]
    simp only [List.map_cons, List.sum_cons, List.length_cons]
    by_cases h : c = s
    · subst h; simp; omega
    · simp [h, Ne.symm h]
theorem count_num {c n : Nat} (h : c < 48 ∨ 57 < c) : (numL n).count c = 0 := List.count_eq_zero.mpr (numL_free h)
theorem count_row {c : Nat} (h : c < 48 ∨ 57 < c) : ∀ r : List Int, (rowL r).count c = if c = 32 then r.length else 0
  | [] => by simp [rowL]
  | x :: r => by
    show ((32 :: numL x.toNat) ++ rowL r).count c = _
    rw [List.count_append, count_row h r, List.count_cons, count_num h]
    by_cases e : c = 32
    · subst e; simp; omega
    · simp [e, Ne.symm e]
theorem row_mem {T : List (List Int)} (h : okT T = true) : 1 ≤ T.length ∧ T.length ≤ 24 ∧ VT T.length T ∧ Asc T.length (mul T) := by
  unfold okT at h
  simp only [Bool.and_eq_true, Bool.not_eq_true', decide_eq_false_iff_not, decide_eq_true_eq] at h
  obtain ⟨h1, h2, h3, h4⟩ := h
  have V := okT_vt h2
  exact ⟨by omega, h3, V, (ascB_iff V).mp h4⟩
theorem okT_iff {T : List (List Int)} {n : Int} (V : VT n T) (n1 : 1 ≤ n) (n2 : n ≤ 24) : okT T = true ↔ Asc n (mul T) := by
  have hl := V.len
  subst hl
  have hr : T.all (rowB T) = true := by
    rw [List.all_eq_true]
    intro r hr
    unfold rowB
    rw [Bool.and_eq_true, decide_eq_true_eq, List.all_eq_true]
    refine ⟨V.row r hr, fun x hx => ?_⟩
    have := V.ent r hr x hx
    unfold inB
    simp; omega
  unfold okT
  rw [hr, decide_eq_false (by omega), decide_eq_true (show T.length ≤ 24 by omega), Bool.not_false, Bool.true_and, Bool.true_and, Bool.true_and, ascB_iff V]
theorem sum_const {α : Type} (k : Nat) : ∀ l : List α, (l.map fun _ => k).sum = l.length * k
  | [] => by simp
  | x :: l => by rw [List.map_cons, List.sum_cons, sum_const k l, List.length_cons, Nat.succ_mul]; omega
section
variable {T : List (List Int)} {n : Nat}
theorem RL_count32 (V : VT (n : Int) T) (n1 : 1 ≤ n) : (RL T).count 32 = n * n := by
  have hl : T.length = n := by have := V.len; omega
  unfold RL
  rw [List.count_append, List.count_cons, count_num (.inl (by decide)), joinL_count]
  have : T.map (List.count 32 ∘ rowL) = T.map fun _ => n := List.map_congr_left fun r hr => by
    have := V.row r hr
    simp only [Function.comp]
    rw [count_row (.inl (by decide))]; simp; omega
  rw [List.map_map, this, sum_const]
  simp [hl]
theorem RL_count59 (V : VT (n : Int) T) : (RL T).count 59 = n - 1 := by
  have hl : T.length = n := by have := V.len; omega
  unfold RL
  rw [List.count_append, List.count_cons, count_num (.inr (by decide)), joinL_count]
  have : T.map (List.count 59 ∘ rowL) = T.map fun _ => 0 := List.map_congr_left fun r hr => by
    simp only [Function.comp]
    rw [count_row (.inr (by decide))]; rfl
  rw [List.map_map, this, sum_const]
  simp [hl]
theorem RL_head (n1 : 1 ≤ T.length) (n2 : T.length ≤ 24) : ∃ d r, RL T = d :: r ∧ 49 ≤ d ∧ d ≤ 57 := by
  obtain ⟨d, r, e, h1, h2⟩ := numL_pos n1 (show T.length < 100 by omega)
  exact ⟨d, r ++ 58 :: joinL [59] (T.map rowL), by unfold RL; rw [e]; rfl, h1, h2⟩
theorem RL_last (V : VT (n : Int) T) (n1 : 1 ≤ n) : ∃ m x, RL T = m ++ 32 :: numL x ∧ x < n := by
  have hl : T.length = n := by have := V.len; omega
  have hne : T ≠ [] := fun e => by rw [e] at hl; simp at hl; omega
  have hr := V.row _ (List.getLast_mem hne)
  have hrne : T.getLast hne ≠ [] := fun e => by rw [e] at hr; simp at hr; omega
  have hx := V.ent _ (List.getLast_mem hne) _ (List.getLast_mem hrne)
  have e1 : T.map rowL = (T.dropLast.map rowL) ++ [rowL (T.getLast hne)] := by
    conv => lhs; rw [← List.dropLast_concat_getLast hne]
    rw [List.map_append]; rfl
  have e2 : rowL (T.getLast hne) = rowL ((T.getLast hne).dropLast) ++ 32 :: numL ((T.getLast hne).getLast hrne).toNat := by
    conv => lhs; rw [← List.dropLast_concat_getLast hrne]
    unfold rowL
    rw [List.flatMap_append]; simp
  obtain ⟨m, hm⟩ := joinL_last (S := [59]) (ps := T.dropLast.map rowL) (p := rowL (T.getLast hne))
  refine ⟨numL T.length ++ 58 :: m ++ rowL ((T.getLast hne).dropLast), ((T.getLast hne).getLast hrne).toNat, ?_, by omega⟩
  unfold RL
  rw [e1, hm, e2]
  simp
theorem RL_take : (RL T).takeWhile (fun c => decide (c ≠ 58)) = numL T.length := by
  unfold RL
  rw [List.takeWhile_append_of_pos fun c hc => by
    have : c ≠ 58 := fun e => numL_free (n := T.length) (s := 58) (.inr (by decide)) (by rw [← e]; exact hc)
    simpa using this]
  simp
theorem RL_58 : 58 ∈ RL T := by unfold RL; simp
theorem joinL_mem {S : List Nat} {c : Nat} : ∀ {ps : List (List Nat)}, c ∈ joinL S ps → (∃ p ∈ ps, c ∈ p) ∨ c ∈ S
  | [], h => by cases h
  | [p], h => .inl ⟨p, by simp, h⟩
  | p :: q :: r, h => by
    rw [joinL_cons (by simp)] at h
    rcases List.mem_append.mp h with h | h
    · exact .inl ⟨p, by simp, h⟩
    · rcases List.mem_append.mp h with h | h
      · exact .inr h
      · rcases joinL_mem h with ⟨x, hx, hc⟩ | h
        · exact .inl ⟨x, List.mem_cons_of_mem _ hx, hc⟩
        · exact .inr h
theorem RL_mem {c : Nat} (h : c ∈ RL T) : c = 32 ∨ c = 58 ∨ c = 59 ∨ (48 ≤ c ∧ c ≤ 57) := by
  unfold RL at h
  rcases List.mem_append.mp h with h | h
  · exact .inr (.inr (.inr (numL_digits _ c h)))
  · rcases List.mem_cons.mp h with h | h
    · exact .inr (.inl h)
    · rcases joinL_mem h with ⟨p, hp, hc⟩ | h
      · obtain ⟨r, _, rfl⟩ := List.mem_map.mp hp
        rcases rowL_mem hc with e | e
        · exact .inl e
        · exact .inr (.inr (.inr e))
      · exact .inr (.inr (.inl (List.mem_singleton.mp h)))
theorem RL_asc : Asc7 (RL T) := fun c hc => by
  rcases RL_mem hc with e | e | e | e <;> omega
theorem numL_le2 {n : Nat} (h : n < 100) : (numL n).length ≤ 2 := numL_len (k := 2) (by decide) (by simpa using h)
theorem rowL_len : ∀ {r : List Int}, (∀ x ∈ r, 0 ≤ x ∧ x < 100) → (rowL r).length ≤ 3 * r.length
  | [], _ => by simp [rowL]
  | x :: r, h => by
    show ((32 :: numL x.toNat) ++ rowL r).length ≤ _
    have h1 := numL_le2 (n := x.toNat) (by have := h x List.mem_cons_self; omega)
    have h2 := rowL_len (r := r) fun y hy => h y (List.mem_cons_of_mem _ hy)
    rw [List.length_append, List.length_cons, List.length_cons]
    omega
theorem joinL_len {S : List Nat} {k : Nat} : ∀ {ps : List (List Nat)}, (∀ p ∈ ps, p.length ≤ k) → (joinL S ps).length ≤ (k + S.length) * ps.length
  | [], _ => by simp [joinL]
  | [p], h => by
    have := h p (by simp)
    simp [joinL]; omega
  | p :: q :: r, h => by
    have h1 := h p (by simp)
    have h2 := joinL_len (S := S) (k := k) (ps := q :: r) fun x hx => h x (List.mem_cons_of_mem _ hx)
    rw [joinL_cons (by simp), List.length_append, List.length_append, List.length_cons (a := p), Nat.mul_succ]
    omega
theorem RL_len (V : VT (n : Int) T) (n2 : n ≤ 24) : (RL T).length ≤ 2000 := by
  have hl : T.length = n := by have := V.len; omega
  unfold RL
  have h1 := numL_le2 (n := T.length) (by omega)
  have h2 := joinL_len (S := [59]) (k := 72) (ps := T.map rowL) fun p hp => by
    obtain ⟨r, hr, rfl⟩ := List.mem_map.mp hp
    have := rowL_len (r := r) fun x hx => by have := V.ent r hr x hx; omega
    have := V.row r hr
    omega
  rw [List.length_map, List.length_singleton] at h2
  rw [List.length_append, List.length_cons]
  have : 73 * T.length ≤ 73 * 24 := Nat.mul_le_mul_left _ (by omega)
  omega
theorem RL_len6 (V : VT (n : Int) T) (n2 : n ≤ 6) : (RL T).length ≤ 200 := by
  have hl : T.length = n := by have := V.len; omega
  unfold RL
  have h1 := numL_le2 (n := T.length) (by omega)
  have h2 := joinL_len (S := [59]) (k := 18) (ps := T.map rowL) fun p hp => by
    obtain ⟨r, hr, rfl⟩ := List.mem_map.mp hp
    have := rowL_len (r := r) fun x hx => by have := V.ent r hr x hx; omega
    have := V.row r hr
    omega
  rw [List.length_map, List.length_singleton] at h2
  rw [List.length_append, List.length_cons]
  have : 19 * T.length ≤ 19 * 6 := Nat.mul_le_mul_left _ (by omega)
  omega
theorem rdS_RL (h : okT T = true) : rdS (RL T) = some T := by
  obtain ⟨n1, n2, V, A⟩ := row_mem h
  unfold rdS
  rw [rdT_RL (fun e => by rw [e] at n1; simp at n1) (by omega) fun r hr => ⟨fun e => by have := V.row r hr; rw [e] at this; simp at this; omega, fun x hx => by have := V.ent r hr x hx; omega⟩]
  simp only [h, if_true]
end
def numS (x : Int) : Str := Str.ofString (toString ((x.toNat : Nat) : Int))
theorem numS_tl (x : Int) : tl (numS x) = numL x.toNat := tl_num _
theorem str_num {x : Int} (h0 : 0 ≤ x) (h : x < 10 ^ 100) : pStr x = .ok (numS x) := by
  obtain ⟨z, h1, h2, h3⟩ := strD h0 h
  rw [h1, h3]; rfl
theorem sum_le {k : Nat} : ∀ {l : List Nat}, (∀ x ∈ l, x ≤ k) → l.sum ≤ k * l.length
  | [], _ => by simp
  | x :: l, h => by
    have h1 := h x (by simp)
    have h2 := sum_le (l := l) fun y hy => h y (List.mem_cons_of_mem _ hy)
    rw [List.sum_cons, List.length_cons, Nat.mul_succ]; omega
theorem joinS {a : Str} {ys : List Str} {k : Nat} (h : ∀ y ∈ ys, (tl y).length ≤ k) (hl : (k + (tl a).length) * ys.length ≤ 16777216) : pJoin a ys = .ok (Txt.join a ys) ∧ tl (Txt.join a ys) = joinL (tl a) (ys.map tl) := by
  refine ⟨?_, by rw [join_eq, tl_join]⟩
  unfold pJoin joinFit
  have h1 : (ys.map (·.length)).sum ≤ k * ys.length := by
    have := sum_le (k := k) (l := ys.map (·.length)) fun x hx => by
      obtain ⟨y, hy, rfl⟩ := List.mem_map.mp hx
      have := h y hy
      show y.length ≤ k
      rw [len_tl]; exact this
    rw [List.length_map] at this
    exact this
  rw [if_pos]
  rw [decide_eq_true_eq, len_tl a]
  rw [Nat.add_mul, Nat.mul_comm (tl a).length] at hl
  omega
theorem pfold_tl {α : Type} {F : α → Str → M Str} {g : α → List Nat} {k : Nat} : ∀ (xs : List α) (a : Str), (tl a).length + k * xs.length ≤ 16000000 → (∀ x ∈ xs, (g x).length ≤ k ∧ ∀ a, (tl a).length + k ≤ 16000000 → ∃ z, F x a = .ok z ∧ tl z = tl a ++ g x) → ∃ z, pfold F xs a = .ok z ∧ tl z = tl a ++ xs.flatMap g
  | [], a, _, _ => ⟨a, rfl, by simp⟩
  | x :: xs, a, hl, h => by
    rw [List.length_cons, Nat.mul_succ] at hl
    obtain ⟨hk, hx⟩ := h x List.mem_cons_self
    obtain ⟨y, ey, hy⟩ := hx a (by omega)
    obtain ⟨z, ez, hz⟩ := pfold_tl xs y (by rw [hy, List.length_append]; omega) fun w hw => h w (List.mem_cons_of_mem _ hw)
    refine ⟨z, by unfold pfold; rw [ey, bind_ok, ez], ?_⟩
    rw [hz, hy, List.flatMap_cons, List.append_assoc]
theorem joinL_flat {s : Nat} : ∀ (p : List Nat) (ps : List (List Nat)), joinL [s] (p :: ps) = p ++ ps.flatMap (s :: ·)
  | p, [] => by simp [joinL]
  | p, q :: r => by
    rw [joinL_cons (by simp), joinL_flat q r]
    rfl
theorem rows_flat {s : Nat} {ps : List (List Nat)} {n : Int} (hl : (ps.length : Int) = n) (n1 : 1 ≤ n) : (rng n).flatMap (fun x => (if x > 0 then [s] else []) ++ ix ps x) = joinL [s] ps := by
  cases ps with
  | nil => simp at hl; omega
  | cons p r =>
    rw [joinL_flat]
    have e : rng n = 0 :: (rng (n - 1)).map (· + 1) := by
      unfold rng
      have : n.toNat = (n - 1).toNat + 1 := by omega
      rw [this, List.range_succ_eq_map, List.map_cons, List.map_map, List.map_map]
      congr 1
    rw [e, List.flatMap_cons, List.flatMap_map]
    congr 1
    have er : r = (rng (n - 1)).map (ix r) := list_rng (by simp at hl; omega)
    have e2 : r.flatMap (s :: ·) = (rng (n - 1)).flatMap fun x => s :: ix r x := by
      conv => lhs; rw [er]
      rw [List.flatMap_map]
    rw [e2, List.flatMap_def, List.flatMap_def]
    congr 1
    refine List.map_congr_left fun x hx => ?_
    rw [mem_rng] at hx
    rw [if_pos (by omega)]
    have : ix (p :: r) (x + 1) = ix r x := by
      unfold ix
      rw [show (x + 1).toNat = x.toNat + 1 by omega]
      rfl
    rw [this]; rfl
end LAW
namespace LAW
open DL PySem L2
open TL
theorem str_d {T : List (List Int)} (h : okT T = true) : ∃ z, P_Semigroup___str__ ((T.length : Int), T) = .ok z ∧ tl z = RL T := by
  obtain ⟨n1, n2, V, A⟩ := row_mem h
  have hbg : big = 16777216 := rfl
  have e32 : tl (" " : Str) = [32] := by rw [tl_str]; rfl
  have e59 : tl (";" : Str) = [59] := by rw [tl_str]; rfl
  have e58 : tl (":" : Str) = [58] := by rw [tl_str]; rfl
  have hx : ∀ r ∈ T, ∀ x ∈ r, 0 ≤ x ∧ x < 100 := fun r hr x hx => by have := V.ent r hr x hx; omega
  let rowS : List Int → Str := fun r => (" " : Str) ++ Txt.join (" " : Str) (r.map numS)
  have hrow : ∀ r ∈ T, tl (rowS r) = rowL r := fun r hr => by
    have hl := V.row r hr
    have hne : r ≠ [] := fun e => by rw [e] at hl; simp at hl; omega
    have := (joinS (a := (" " : Str)) (ys := r.map numS) (k := 2) (fun y hy => by
      obtain ⟨x, hxr, rfl⟩ := List.mem_map.mp hy
      rw [numS_tl]; exact numL_le2 (by have := hx r hr x hxr; omega)) (by rw [e32]; simp; omega)).2
    show tl ((" " : Str) ++ _) = _
    rw [tl_append, this, e32, rowL_join hne, List.map_map]
    have : tl ∘ numS = fun x : Int => numL x.toNat := funext fun x => numS_tl x
    rw [this]; rfl
  have step : pMap (fun (x1 : (List Int)) => M.bind (M.bind (pMap (fun (x4 : Int) => pStr x4) x1) fun c5 => pJoin (" " : Str) c5) fun c6 => pCatS (" " : Str) c6) T = .ok (T.map rowS) := pMap_ok rowS (by omega) fun r hr => by
    have hl := V.row r hr
    rw [pMap_ok numS (by omega) (fun x hxr => str_num (hx r hr x hxr).1 (Int.lt_of_lt_of_le (hx r hr x hxr).2 (by decide))), bind_ok]
    have j := joinS (a := (" " : Str)) (ys := r.map numS) (k := 2) (fun y hy => by
      obtain ⟨x, hxr, rfl⟩ := List.mem_map.mp hy
      rw [numS_tl]; exact numL_le2 (by have := hx r hr x hxr; omega)) (by rw [e32]; simp; omega)
    rw [j.1, bind_ok, catS]
    have hl2 := rowL_len (r := r) (hx r hr)
    have hne : r ≠ [] := fun e => by rw [e] at hl; simp at hl; omega
    rw [j.2, e32, List.map_map]
    have : tl ∘ numS = fun x : Int => numL x.toNat := funext fun x => numS_tl x
    rw [this]
    rw [rowL_join hne, List.length_cons] at hl2
    simp only [List.length_singleton]
    omega
  have j := joinS (a := (";" : Str)) (ys := T.map rowS) (k := 72) (fun y hy => by
    obtain ⟨r, hr, rfl⟩ := List.mem_map.mp hy
    rw [hrow r hr]
    have := rowL_len (r := r) (hx r hr)
    have := V.row r hr
    omega) (by rw [e59]; simp; omega)
  have jt : tl (Txt.join (";" : Str) (T.map rowS)) = joinL [59] (T.map rowL) := by
    rw [j.2, e59, List.map_map]
    congr 1
    exact List.map_congr_left fun r hr => hrow r hr
  have hN := RL_len V n2
  have fin : tl (((Str.empty ++ numS T.length) ++ (":" : Str)) ++ Txt.join (";" : Str) (T.map rowS)) = RL T := by
    rw [tl_append, tl_append, tl_append, numS_tl, e58, jt]
    unfold RL
    show (([] ++ numL _) ++ [58]) ++ _ = _
    simp
  have bnd : ∀ (a b : Str), tl (a ++ b) = tl a ++ tl b := tl_append
  have l1 : (tl (Str.empty ++ numS T.length)).length ≤ 2 := by
    rw [tl_append, numS_tl]
    show ([] ++ numL _).length ≤ 2
    exact numL_le2 (by omega)
  refine ⟨_, ?_, fin⟩
  unfold P_Semigroup___str__
  rw [step, bind_ok, j.1, bind_ok, str_num (by omega) (Int.lt_of_lt_of_le (show (T.length : Int) < 100 by omega) (by decide)), bind_ok]
  unfold pFit pFmtS
  have q1 : (Str.empty ++ numS T.length).length ≤ big := by rw [len_tl]; omega
  have q2 : ((Str.empty ++ numS T.length) ++ (":" : Str)).length ≤ big := by rw [len_tl, tl_append, e58, List.length_append, List.length_singleton]; omega
  have q3 : (Txt.join (";" : Str) (T.map rowS)).length ≤ big := by
    rw [len_tl]
    have := congrArg List.length fin
    rw [tl_append, List.length_append] at this
    omega
  have q4 : (((Str.empty ++ numS T.length) ++ (":" : Str)) ++ Txt.join (";" : Str) (T.map rowS)).length ≤ big := by rw [len_tl, fin]; omega
  rw [if_pos q1, if_pos q2, if_pos q3, bind_ok, if_pos q4, bind_ok]
/-- the law's text -/
theorem text_d {T : List (List Int)} {n : Int} (V : VT n T) (n1 : 1 ≤ n) (n2 : n ≤ 6) {a : Str} (ha : tl a = numL T.length ++ [58]) : ∃ z, pfold (fun (x42 : Int) (a43 : Str) => M.bind (if (decide (x42 > 0)) = true then M.bind (pCatS a43 (";" : Str)) fun c47 => .ok c47 else .ok a43 : M Str) fun (a48 : Str) => M.bind (pRng n) fun c49 => M.bind (pfold (fun (x60 : Int) (a61 : Str) => M.bind (M.bind (pCatS a61 (" " : Str)) fun c65 => M.bind (M.bind (M.bind (pAt T x42) fun c66 => pAt c66 x60) fun c67 => pStr c67) fun c68 => pCatS c65 c68) fun c69 => .ok c69) c49 a48) fun (a70 : Str) => .ok a70) (rng n) a = .ok z ∧ tl z = RL T := by
  have e32 : tl (" " : Str) = [32] := by rw [tl_str]; rfl
  have e59 : tl (";" : Str) = [59] := by rw [tl_str]; rfl
  have hx : ∀ x, 0 ≤ x → x < n → ∀ y, 0 ≤ y → y < n → 0 ≤ mul T x y ∧ mul T x y < 100 := fun x x0 x1 y y0 y1 => by have := V.lt x0 x1 y0 y1; omega
  have hrow : ∀ x, 0 ≤ x → x < n → (rng n).flatMap (fun y => 32 :: numL (mul T x y).toNat) = rowL (ix T x) := fun x x0 x1 => by
    rw [row_rng V x0 x1]
    unfold rowL
    rw [List.flatMap_map]
  obtain ⟨z, ez, hz⟩ := pfold_tl (F := fun (x42 : Int) (a43 : Str) => M.bind (if (decide (x42 > 0)) = true then M.bind (pCatS a43 (";" : Str)) fun c47 => .ok c47 else .ok a43 : M Str) fun (a48 : Str) => M.bind (pRng n) fun c49 => M.bind (pfold (fun (x60 : Int) (a61 : Str) => M.bind (M.bind (pCatS a61 (" " : Str)) fun c65 => M.bind (M.bind (M.bind (pAt T x42) fun c66 => pAt c66 x60) fun c67 => pStr c67) fun c68 => pCatS c65 c68) fun c69 => .ok c69) c49 a48) fun (a70 : Str) => .ok a70)
    (g := fun x => (if x > 0 then [59] else []) ++ ix (T.map rowL) x) (k := 100) (rng n) a (by rw [ha, List.length_append, len_rng, List.length_singleton]; have := numL_le2 (n := T.length) (by have := V.len; omega); omega) (fun x hxr => by
    rw [mem_rng] at hxr
    have hix : ix (T.map rowL) x = rowL (ix T x) := by
      unfold ix
      rw [List.getD_eq_getElem?_getD, List.getD_eq_getElem?_getD, List.getElem?_map]
      have : x.toNat < T.length := by have := V.len; omega
      rw [List.getElem?_eq_getElem this]; rfl
    have hrl := rowL_len (r := ix T x) fun y hy => by have := V.ent _ (V.rowAt hxr.1 hxr.2) y hy; omega
    have := V.rlen hxr.1 hxr.2
    have hk : ((if x > 0 then [59] else []) ++ ix (T.map rowL) x).length ≤ 100 := by
      rw [hix, List.length_append]
      split <;> simp <;> omega
    refine ⟨hk, fun b hb => ?_⟩
    have first : ∃ b1, (if (decide (x > 0)) = true then M.bind (pCatS b (";" : Str)) fun c47 => .ok c47 else .ok b : M Str) = .ok b1 ∧ tl b1 = tl b ++ if x > 0 then [59] else [] := by
      by_cases h : x > 0
      · rw [if_pos (decide_eq_true h), if_pos h, catS (by rw [e59, List.length_singleton]; omega), bind_ok]
        exact ⟨_, rfl, by rw [tl_append, e59]⟩
      · rw [if_neg (by simpa using h), if_neg h]
        exact ⟨b, rfl, by simp⟩
    obtain ⟨b1, eb, hb1⟩ := first
    have hl1 : (tl b1).length ≤ (tl b).length + 1 := by rw [hb1, List.length_append]; split <;> simp
    obtain ⟨b2, eb2, hb2⟩ := pfold_tl (F := fun (x60 : Int) (a61 : Str) => M.bind (M.bind (pCatS a61 (" " : Str)) fun c65 => M.bind (M.bind (M.bind (pAt T x) fun c66 => pAt c66 x60) fun c67 => pStr c67) fun c68 => pCatS c65 c68) fun c69 => .ok c69)
      (g := fun y => 32 :: numL (mul T x y).toNat) (k := 3) (rng n) b1 (by rw [len_rng]; omega) (fun y hy => by
      rw [mem_rng] at hy
      have hv := hx x hxr.1 hxr.2 y hy.1 hy.2
      have h2 := numL_le2 (n := (mul T x y).toNat) (by omega)
      refine ⟨by simp; omega, fun d hd => ?_⟩
      refine ⟨(d ++ (" " : Str)) ++ numS (mul T x y), ?_, ?_⟩
      · show M.bind (M.bind (pCatS d (" " : Str)) _) _ = _
        rw [catS (by rw [e32, List.length_singleton]; omega), bind_ok, V.at1 hxr.1 hxr.2, bind_ok, V.at2 hxr.1 hxr.2 hy.1 hy.2, bind_ok, str_num hv.1 (Int.lt_of_lt_of_le hv.2 (by decide)), bind_ok, catS (by rw [tl_append, e32, numS_tl, List.length_append, List.length_singleton]; omega), bind_ok]
      · rw [tl_append, tl_append, e32, numS_tl, List.append_assoc]; rfl)
    refine ⟨b2, ?_, ?_⟩
    · show M.bind _ _ = _
      rw [eb, bind_ok, pRng_ok (by omega) (by omega), bind_ok, eb2, bind_ok]
    · rw [hb2, hb1, hrow x hxr.1 hxr.2, hix, List.append_assoc])
  refine ⟨z, ez, ?_⟩
  rw [hz, ha, rows_flat (by rw [List.length_map]; exact V.len) n1]
  unfold RL
  simp
end LAW
namespace LAW
open DL PySem L2
open TL
theorem law_at_none {w : Str} (hw : Asc7 (tl w)) (hl : (tl w).length ≤ 1000) (h : rdS (tl w) = none) : P__law_at (eS w) = .ok (eI 0) := by
  have e : P_read_semigroup_2 (eS w) = P_read_semigroup w := by
    have e1 : pIsS "Semigroup" (eS w) = .ok true := rfl
    have e2 : pStrD (eS w) = .ok w := rfl
    unfold P_read_semigroup_2 P_read_semigroup
    rw [e1, e2]
    rfl
  unfold P__law_at
  rw [e, read_d hw hl, h]
  show pMt mt "NoText" "NoText" (pNX (M.bind (pXf "NoText" [("at", eI 0)] "NoText" "at") fun c4 => .ok c4)) (.exn "NoText" [("at", eI 0)]) = .ok (eI 0)
  unfold pMt
  rw [fault_mt.2.2]
  have : pXf "NoText" [("at", eI 0)] "NoText" "at" = .ok (eI 0) := by
    show (if ("NoText" : Str) = "NoText" ∧ ("at" : Str) = "at" then M.ok (eI 0) else M.stuck) = _
    rw [if_pos ⟨rfl, rfl⟩]
  simp only
  rw [this]; rfl
theorem law_at_bad {w : Str} (hw : Asc7 (tl w)) (hl : (tl w).length ≤ 1000) (h : ∀ T, okT T = true → RL T ≠ tl w) : P__law_at (eS w) = .ok (eI 0) := by
  refine law_at_none hw hl ?_
  cases hr : rdS (tl w) with
  | none => rfl
  | some T =>
    obtain ⟨h1, h2⟩ := rdS_canon hr
    exact absurd h1 (h T h2)
section
variable {T T' : List (List Int)}
theorem last_in (h : okT T' = true) {m : List Nat} {c : Nat} (e : RL T' = m ++ [c]) : 48 ≤ c ∧ c ≤ 57 ∧ (T'.length ≤ 10 → c < 48 + T'.length) := by
  obtain ⟨n1, n2, V, _⟩ := row_mem h
  obtain ⟨m1, x, e1, hx⟩ := RL_last V n1
  obtain ⟨m2, d, e2, d1, d2, d3⟩ := numL_last x
  rw [e1, e2] at e
  have : (m1 ++ 32 :: m2) ++ [d] = m ++ [c] := by rw [← e]; simp
  have := (List.append_inj' this rfl).2
  injection this with q
  subst q
  exact ⟨d1, d2, fun h10 => by rw [d3 (by omega)]; omega⟩
theorem head_in (h : okT T' = true) {r : List Nat} {c : Nat} (e : RL T' = c :: r) : 49 ≤ c ∧ c ≤ 57 := by
  obtain ⟨n1, n2, V, _⟩ := row_mem h
  obtain ⟨d, q, e1, h1, h2⟩ := RL_head n1 n2
  rw [e1] at e
  injection e with e
  omega
theorem take_num {n : Nat} {r : List Nat} : (numL n ++ 58 :: r).takeWhile (fun c => decide (c ≠ 58)) = numL n := by
  rw [List.takeWhile_append_of_pos fun c hc => by
    have : c ≠ 58 := fun e => numL_free (n := n) (s := 58) (.inr (by decide)) (by rw [← e]; exact hc)
    simpa using this]
  simp
theorem len_in {n : Nat} {r : List Nat} (e : RL T' = numL n ++ 58 :: r) : T'.length = n := by
  have h := RL_take (T := T')
  rw [e, take_num] at h
  exact (numL_inj h).symm
theorem repl1 {s : Nat} {z : List Nat} : ∀ l : List Nat, PySem.StrLaws.replL [s] z l = l.flatMap fun c => if c = s then z else [c]
  | [] => PySem.StrLaws.replL_nil
  | c :: r => by
    rw [List.flatMap_cons]
    by_cases h : c = s
    · subst h
      rw [PySem.StrLaws.replL_hit (by simp) (by simp), if_pos rfl]
      show z ++ PySem.StrLaws.replL [c] z r = _
      rw [repl1 r]
    · rw [PySem.StrLaws.replL_miss (by simpa using h), if_neg h, repl1 r]; rfl
theorem flat_count {s c : Nat} {z : List Nat} : ∀ l : List Nat, c = s → (l.flatMap fun d => if d = s then z else [d]).count c = z.count c * l.count c
  | [], _ => by simp
  | d :: r, e => by
    subst e
    rw [List.flatMap_cons, List.count_append, flat_count r rfl, List.count_cons]
    by_cases h : d = c
    · subst h; simp [Nat.mul_add, Nat.add_comm]
    · simp [h]
theorem flat_gone {s : Nat} {z : List Nat} (hz : s ∉ z) (l : List Nat) : s ∉ l.flatMap fun d => if d = s then z else [d] := fun h => by
  obtain ⟨d, hd, h⟩ := List.mem_flatMap.mp h
  split at h
  · exact hz h
  · rename_i hne
    exact hne (List.mem_singleton.mp h).symm
theorem replT {x : Str} {y z : Str} (hy : 1 ≤ (tl y).length) : tl (Txt.replace x y z) = PySem.StrLaws.replL (tl y) (tl z) (tl x) := PySem.StrLaws.replace_list (by rw [len_tl]; exact hy)
theorem tl_cutL {z : Str} {c : Nat} {l : List Nat} (h : tl z = l ++ [c]) (hl : l.length ≤ 16777000) : ∃ y, pSlS z none (some (-1)) = .ok y ∧ tl y = l := by
  have hz : z.length = l.length + 1 := by rw [len_tl, h]; simp
  refine ⟨cutS z none (some (-1)), by unfold pSlS; rw [if_pos (by show z.length ≤ 16777216; omega)], ?_⟩
  have h1 : HT.sIx z.length 0 none = 0 := rfl
  have h2 : HT.sIx z.length z.length (some (-1)) = l.length := by
    rw [hz]
    simp only [HT.sIx]
    rw [if_pos (by decide)]
    omega
  show (z.cps.toList.drop (HT.sIx z.length 0 none)).take (HT.sIx z.length z.length (some (-1)) - HT.sIx z.length 0 none) = l
  rw [h1, h2, show z.cps.toList = l ++ [c] from h]
  simp
end
end LAW
namespace LAW
open DL PySem L2
open TL
theorem nonstr_at {d : D} (h : pIsS "Semigroup" d = .ok false) : P__law_at d = .ok (eI 0) := by
  have e : P_read_semigroup_2 d = noText := by
    unfold P_read_semigroup_2
    rw [h]; rfl
  unfold P__law_at
  rw [e]
  show pMt mt "NoText" "NoText" (pNX (M.bind (pXf "NoText" [("at", eI 0)] "NoText" "at") fun c4 => .ok c4)) (.exn "NoText" [("at", eI 0)]) = .ok (eI 0)
  unfold pMt
  rw [fault_mt.2.2]
  have : pXf "NoText" [("at", eI 0)] "NoText" "at" = .ok (eI 0) := by
    show (if ("NoText" : Str) = "NoText" ∧ ("at" : Str) = "at" then M.ok (eI 0) else M.stuck) = _
    rw [if_pos ⟨rfl, rfl⟩]
  simp only
  rw [this]; rfl
theorem lit_at {s : String} (h1 : (s.toList.map Char.toNat).all (fun c => decide (c < 128)) = true) (h2 : s.toList.length ≤ 1000) (h3 : rdS (s.toList.map Char.toNat) = none) : P__law_at (eS (s : Str)) = .ok (eI 0) := by
  refine law_at_none ?_ ?_ ?_
  · rw [tl_str]
    intro c hc
    simpa using List.all_eq_true.mp h1 c hc
  · rw [tl_str, List.length_map]; exact h2
  · rw [tl_str]; exact h3
theorem lits : (rdS (("").toList.map Char.toNat) = none ∧ rdS (("1").toList.map Char.toNat) = none ∧ rdS (("1:").toList.map Char.toNat) = none ∧ rdS (("0:").toList.map Char.toNat) = none ∧ rdS (("0: 0").toList.map Char.toNat) = none) ∧
    (rdS (("1: 1").toList.map Char.toNat) = none ∧ rdS (("1: 00").toList.map Char.toNat) = none ∧ rdS (("1: -0").toList.map Char.toNat) = none ∧ rdS (("2: 1 0; 0 0").toList.map Char.toNat) = none ∧ rdS (("2: 0 0;0 0").toList.map Char.toNat) = none) := by decide +kernel
section
variable {T : List (List Int)} {n : Nat}
/-- the text of a small table, its ends -/
structure Sh (n : Nat) (T : List (List Int)) (l : List Nat) : Prop where
  ok : okT T = true
  len : T.length = n
  n1 : 1 ≤ n
  n6 : n ≤ 6
  eq : RL T = l
  hd : ∃ B, l = (48 + n) :: 58 :: 32 :: B ∧ 58 ∉ B
  ls : ∃ m d, l = m ++ [32] ++ [d]
theorem Sh.of (h : okT T = true) (hl : T.length = n) (h6 : n ≤ 6) : Sh n T (RL T) := by
  obtain ⟨n1, n2, V, _⟩ := row_mem h
  rw [hl] at n1
  refine ⟨h, hl, n1, h6, rfl, ?_, ?_⟩
  · have hne : T ≠ [] := fun e => by rw [e] at hl; simp at hl; omega
    obtain ⟨r, R, e⟩ : ∃ r R, T = r :: R := List.exists_cons_of_ne_nil hne
    have hr := V.row r (by rw [e]; exact List.mem_cons_self)
    have hrne : r ≠ [] := fun e => by rw [e] at hr; simp at hr; omega
    obtain ⟨x, q, e2⟩ : ∃ x q, r = x :: q := List.exists_cons_of_ne_nil hrne
    refine ⟨numL x.toNat ++ rowL q ++ (R.map rowL).flatMap (59 :: ·), ?_, fun hm => ?_⟩
    · unfold RL
      rw [hl, numL_lt (by omega), e, List.map_cons, joinL_flat, e2]
      show _ = _
      unfold rowL
      simp
    · rcases List.mem_append.mp hm with hm | hm
      · rcases List.mem_append.mp hm with hm | hm
        · exact numL_free (.inr (by decide)) hm
        · rcases rowL_mem hm with e | e <;> omega
      · obtain ⟨p, hp, hm⟩ := List.mem_flatMap.mp hm
        obtain ⟨s, _, rfl⟩ := List.mem_map.mp hp
        rcases List.mem_cons.mp hm with e | hm
        · cases e
        · rcases rowL_mem hm with e | e <;> omega
  · rw [hl] at V
    obtain ⟨m, x, e, hx⟩ := RL_last V n1
    exact ⟨m, 48 + x, by rw [e, numL_lt (by omega)]; simp⟩
variable {l : List Nat}
theorem Sh.small (S : Sh n T l) : l.length ≤ 200 := by
  obtain ⟨_, _, V, _⟩ := row_mem S.ok
  rw [← S.eq]
  have h := S.len
  rw [h] at V
  exact RL_len6 V S.n6
theorem Sh.c32 (S : Sh n T l) : l.count 32 = n * n := by
  obtain ⟨_, _, V, _⟩ := row_mem S.ok
  rw [S.len] at V
  rw [← S.eq]; exact RL_count32 V S.n1
theorem Sh.c59 (S : Sh n T l) : l.count 59 = n - 1 := by
  obtain ⟨_, _, V, _⟩ := row_mem S.ok
  rw [S.len] at V
  rw [← S.eq]; exact RL_count59 V
theorem ok32 {T' : List (List Int)} (h : okT T' = true) : (RL T').count 32 = T'.length * T'.length := by
  obtain ⟨n1, _, V, _⟩ := row_mem h
  exact RL_count32 V n1
theorem ok59 {T' : List (List Int)} (h : okT T' = true) : (RL T').count 59 = T'.length - 1 := by
  obtain ⟨n1, _, V, _⟩ := row_mem h
  exact RL_count59 V
theorem num6 (h : n ≤ 6) : numL n = [48 + n] := numL_lt (by omega)
theorem Sh.bad (S : Sh n T l) {w : List Nat} (h : w = l ++ [32] ∨ w = 32 :: l ∨ w = l ++ [59] ∨ w = l ++ [32, 48] ∨ w = l ++ [59, 32, 48] ∨ w = l.tail ∨ w = 48 :: l ∨ w = PySem.StrLaws.replL [58] [] l ∨ w = PySem.StrLaws.replL [32] [32, 32] l ∨ w = l.dropLast ∨ w = l.dropLast ++ [120] ∨ w = l.dropLast ++ numL n ∨ w = PySem.StrLaws.replL [58, 32] [58] l ∨ w = PySem.StrLaws.replL [58] [59] l) :
    ∀ T', okT T' = true → RL T' ≠ w := by
  intro T' h' e
  obtain ⟨B, hB, hB58⟩ := S.hd
  obtain ⟨m, d, hm⟩ := S.ls
  have n1 := S.n1
  have n6 := S.n6
  have c32 := S.c32
  have c59 := S.c59
  have k32 := ok32 h'
  have k59 := ok59 h'
  have hdl : l.dropLast = m ++ [32] := by rw [hm]; simp
  have n10 : (48 + n) ≠ 58 := by omega
  rcases h with rfl | rfl | rfl | rfl | rfl | rfl | rfl | rfl | rfl | rfl | rfl | rfl | rfl | rfl
  · have := last_in h' e; omega
  · have := head_in h' e; omega
  · have := last_in h' e; omega
  · have hl : T'.length = n := len_in (r := 32 :: B ++ [32, 48]) (by rw [e, hB, num6 n6]; rfl)
    rw [e, List.count_append, c32, hl] at k32
    have : List.count 32 [32, 48] = 1 := by decide
    omega
  · have hl : T'.length = n := len_in (r := 32 :: B ++ [59, 32, 48]) (by rw [e, hB, num6 n6]; rfl)
    rw [e, List.count_append, c59, hl] at k59
    have : List.count 59 [59, 32, 48] = 1 := by decide
    omega
  · rw [hB] at e
    have := head_in h' (c := 58) (r := 32 :: B) e
    omega
  · have := head_in h' e; omega
  · have h58 : 58 ∈ RL T' := RL_58
    rw [e, repl1] at h58
    exact flat_gone (by simp) l h58
  · have hl : T'.length = n := len_in (r := [32, 32] ++ B.flatMap fun c => if c = 32 then [32, 32] else [c]) (by
      rw [e, hB, num6 n6, repl1]
      simp only [List.flatMap_cons]
      rw [if_neg (by omega), if_neg (by decide)]; simp)
    rw [e, repl1, flat_count l rfl, c32, hl] at k32
    have h2 : List.count 32 [32, 32] = 2 := by decide
    rw [h2] at k32
    have : 1 ≤ n * n := Nat.mul_le_mul n1 n1
    omega
  · rw [hdl] at e
    have := last_in h' e; omega
  · have := last_in h' e; omega
  · rw [num6 n6] at e
    have h1 := last_in h' e
    have hl : T'.length = n := by
      have e3 : l = RL T := S.eq.symm
      have e2 : ∃ r, l.dropLast ++ [48 + n] = numL n ++ 58 :: r := by
        refine ⟨(32 :: B).dropLast ++ [48 + n], ?_⟩
        rw [hB, num6 n6]; simp
      obtain ⟨r, e2⟩ := e2
      exact len_in (r := r) (by rw [e, e2])
    have := h1.2.2 (by omega)
    omega
  · have er : PySem.StrLaws.replL [58, 32] [58] l = (48 + n) :: 58 :: B := by
      rw [hB, PySem.StrLaws.replL_miss (by simp <;> omega), PySem.StrLaws.replL_hit (by simp) (by rfl)]
      have : PySem.StrLaws.replL [58, 32] [58] B = B := by
        have := PySem.StrLaws.repl_none (y := [58, 32]) (z := [58]) (L := B) (a := 0) fun k _ hk => by
          have : 58 ∈ B.drop k := by
            have : 58 ∈ (B.drop k).take [58, 32].length := by rw [hk]; simp
            exact List.mem_of_mem_take this
          exact hB58 (List.mem_of_mem_drop this)
        simpa using this
      show _ :: ([58] ++ PySem.StrLaws.replL [58, 32] [58] B) = _
      rw [this]; rfl
    rw [er] at e
    have hl : T'.length = n := len_in (r := B) (by rw [e, num6 n6]; rfl)
    rw [e, hl] at k32
    have hc : l.count 32 = ((48 + n) :: 58 :: B).count 32 + 1 := by
      rw [hB]
      simp [List.count_cons]
      omega
    omega
  · have h58 : 58 ∈ RL T' := RL_58
    rw [e, repl1] at h58
    exact flat_gone (by simp) l h58
end
end LAW
namespace LAW
open DL PySem L2
open TL
theorem replS_d {x y z : Str} (h : (tl x).length + ((tl x).length + 1) * (tl z).length ≤ 16777216) : pRepl x y z = .ok (Txt.replace x y z) := by
  unfold pRepl
  rw [if_pos (by rw [len_tl x, len_tl z]; exact h)]
theorem replS_mem {y z : List Nat} : ∀ (l : List Nat) (k : Nat), (∀ c ∈ PySem.StrLaws.replS y z k l, c ∈ z ∨ c ∈ l) ∧ (PySem.StrLaws.replS y z k l).length ≤ l.length * (1 + z.length)
  | [], k => by
    have : PySem.StrLaws.replS y z k [] = [] := by cases k <;> rfl
    rw [this]; simp
  | d :: r, 0 => by
    have e : PySem.StrLaws.replS y z 0 (d :: r) = if (d :: r).take y.length = y then z ++ PySem.StrLaws.replS y z (y.length - 1) r else d :: PySem.StrLaws.replS y z 0 r := rfl
    rw [e, List.length_cons, Nat.add_mul]
    by_cases h : (d :: r).take y.length = y
    · rw [if_pos h]
      obtain ⟨h1, h2⟩ := replS_mem (y := y) (z := z) r (y.length - 1)
      refine ⟨fun c hc => ?_, by rw [List.length_append]; omega⟩
      rcases List.mem_append.mp hc with q | q
      · exact .inl q
      · exact (h1 c q).imp id (List.mem_cons_of_mem _)
    · rw [if_neg h]
      obtain ⟨h1, h2⟩ := replS_mem (y := y) (z := z) r 0
      refine ⟨fun c hc => ?_, by rw [List.length_cons]; omega⟩
      rcases List.mem_cons.mp hc with q | q
      · rw [q]; exact .inr List.mem_cons_self
      · exact (h1 c q).imp id (List.mem_cons_of_mem _)
  | d :: r, k + 1 => by
    have e : PySem.StrLaws.replS y z (k + 1) (d :: r) = PySem.StrLaws.replS y z k r := rfl
    rw [e, List.length_cons, Nat.add_mul]
    obtain ⟨h1, h2⟩ := replS_mem (y := y) (z := z) r k
    exact ⟨fun c hc => (h1 c hc).imp id (List.mem_cons_of_mem _), by omega⟩
theorem replL_asc {y z l : List Nat} (hl : Asc7 l) (hz : Asc7 z) : Asc7 (PySem.StrLaws.replL y z l) := fun c hc => ((replS_mem l 0).1 c hc).elim (hz c) (hl c)
theorem p_law (ns : List Int) : P_law ns = .ok true := by
  have hbg : big = 16777216 := rfl
  apply Ok.eq
  unfold P_law
  refine Ok.bind (state_d ns).nx fun r hr => ?_
  refine (semigroup_d (most := 6) (by decide) (by decide) r hr).bind fun c hc => ?_
  obtain ⟨⟨n, n1, n6, V, A⟩, hs⟩ := hc
  generalize c.1 = T at V A ⊢
  have hl := V.len
  have hok : okT T = true := (okT_iff V n1 (by omega)).mpr A
  have S := Sh.of (n := n.toNat) hok (by omega) (by omega)
  have e58 : tl (":" : Str) = [58] := by rw [tl_str]; rfl
  have e32 : tl (" " : Str) = [32] := by rw [tl_str]; rfl
  have e59 : tl (";" : Str) = [59] := by rw [tl_str]; rfl
  have e4 : tl (" 0" : Str) = [32, 48] := by rw [tl_str]; rfl
  have e5 : tl ("; 0" : Str) = [59, 32, 48] := by rw [tl_str]; rfl
  have e7 : tl ("0" : Str) = [48] := by rw [tl_str]; rfl
  have e0 : tl ("" : Str) = [] := by rw [tl_str]; rfl
  have e9 : tl ("  " : Str) = [32, 32] := by rw [tl_str]; rfl
  have ex : tl ("x" : Str) = [120] := by rw [tl_str]; rfl
  have e13 : tl (": " : Str) = [58, 32] := by rw [tl_str]; rfl
  rw [sg_d n1 (by omega) V A, bind_ok, hl, str_num (by omega) (Int.lt_of_lt_of_le (show n < 100 by omega) (by decide)), bind_ok]
  have hsm := S.small
  have hnum := numL_le2 (n := n.toNat) (by omega)
  rw [catS (by rw [numS_tl, e58, List.length_singleton]; omega), bind_ok, pRng_ok (by omega) (by omega), bind_ok]
  obtain ⟨z, ez, hz⟩ := text_d V n1 n6 (a := numS n ++ (":" : Str)) (by rw [tl_append, numS_tl, e58, show T.length = n.toNat by omega])
  rw [pRng_ok (by omega) (by omega)] at ez
  rw [ez, bind_ok]
  obtain ⟨z', ez', hz'⟩ := str_d hok
  have : z' = z := ext_tl (by rw [hz, hz'])
  subst this
  rw [hl] at ez'
  have hza : Asc7 (tl z') := by rw [hz]; exact RL_asc
  have hzl : (tl z').length ≤ 200 := by rw [hz]; exact hsm
  rw [ez', pNX_ok, bind_ok, neS hza hza, decide_eq_true rfl, bind_ok]
  simp only [Bool.not_true, Bool.false_eq_true, if_false]
  have ho : oM (opOwn "Semigroup" d_Semigroup___eq__ id ((eC2 "Semigroup" "n" "table" eI (eT (eT eI))) (n, T)) ((eC2 "Semigroup" "n" "table" eI (eT (eT eI))) (n, T))) = .ok (DL.D.bl true) := by
    have := own_ins id (n, T) (n, T)
    rw [decide_eq_true rfl] at this
    rw [show opOwn "Semigroup" d_Semigroup___eq__ id ((eC2 "Semigroup" "n" "table" eI (eT (eT eI))) (n, T)) ((eC2 "Semigroup" "n" "table" eI (eT (eT eI))) (n, T)) = _ from this]; rfl
  have hrd : P_read_semigroup z' = .ok (n, T) := by rw [read_d hza (by omega), hz, rdS_RL hok]; simp only [hl]
  have his : pIsN (DL.D.bl true) (eB true) = .ok false := rfl
  rw [hrd, bind_ok, ho, bind_ok, his, bind_ok, if_neg Bool.false_ne_true]
  obtain ⟨B, hB, _⟩ := S.hd
  obtain ⟨m, d, hm⟩ := S.ls
  obtain ⟨y1, ey1, hy1⟩ := tl_cut1 (z := z') (by rw [hz, hB]) (by rw [hz, hB] at hzl; simp only [List.length_cons] at hzl ⊢; omega)
  obtain ⟨y2, ey2, hy2⟩ := tl_cutL (z := z') (by rw [hz, hm]) (by rw [hz, hm] at hzl; simp only [List.length_append] at hzl ⊢; omega)
  have hy2' : tl y2 = (RL T).dropLast := by rw [hy2, hm]; simp
  have hy1' : tl y1 = (RL T).tail := by rw [hy1, hB]; rfl
  have hy2l : (tl y2).length ≤ 200 := by rw [hy2', List.length_dropLast]; omega
  have l1 : ∀ k : Nat, k ≤ 2 → (tl z').length + ((tl z').length + 1) * k ≤ 16777216 := fun k hk => by
    have : ((tl z').length + 1) * k ≤ 201 * 2 := Nat.mul_le_mul (by omega) hk
    omega
  rw [catS (by rw [e32, List.length_singleton]; omega), bind_ok, catS (by rw [e32, List.length_singleton]; omega), bind_ok, catS (by rw [e59, List.length_singleton]; omega), bind_ok, catS (by rw [e4]; show _ + 2 ≤ _; omega), bind_ok,
    catS (by rw [e5]; show _ + 3 ≤ _; omega), bind_ok, ey1, bind_ok, catS (by rw [e7, List.length_singleton]; omega), bind_ok, replS_d (by rw [e0]; exact l1 0 (by decide)), bind_ok, replS_d (by rw [e9]; exact l1 2 (by decide)), bind_ok, ey2, bind_ok, bind_ok, catS (by rw [ex, List.length_singleton]; omega), bind_ok, bind_ok,
    bind_ok, bind_ok, catS (by rw [numS_tl]; omega), bind_ok, bind_ok, replS_d (by rw [e58]; exact l1 1 (by decide)), bind_ok, bind_ok, replS_d (by rw [e59]; exact l1 1 (by decide)), bind_ok, bind_ok, bind_ok]
  have good : ∀ w : Str, (tl w).length ≤ 1000 → Asc7 (tl w) → (tl w = RL T ++ [32] ∨ tl w = 32 :: RL T ∨ tl w = RL T ++ [59] ∨ tl w = RL T ++ [32, 48] ∨ tl w = RL T ++ [59, 32, 48] ∨ tl w = (RL T).tail ∨ tl w = 48 :: RL T ∨ tl w = PySem.StrLaws.replL [58] [] (RL T) ∨ tl w = PySem.StrLaws.replL [32] [32, 32] (RL T) ∨ tl w = (RL T).dropLast ∨ tl w = (RL T).dropLast ++ [120] ∨ tl w = (RL T).dropLast ++ numL n.toNat ∨ tl w = PySem.StrLaws.replL [58, 32] [58] (RL T) ∨ tl w = PySem.StrLaws.replL [58] [59] (RL T)) → P__law_at (eS w) = .ok (eI 0) := fun w hl ha h => law_at_bad ha hl (S.bad h)
  have aR : Asc7 (RL T) := RL_asc
  have a1 : ∀ s : List Nat, (s.all fun c => decide (c < 128)) = true → Asc7 s := fun s h c hc => by simpa using List.all_eq_true.mp h c hc
  have aT : Asc7 (RL T).tail := fun c hc => aR c (List.mem_of_mem_tail hc)
  have aD : Asc7 (RL T).dropLast := fun c hc => aR c (List.dropLast_subset _ hc)
  have lD : (RL T).dropLast.length ≤ 200 := by rw [List.length_dropLast]; omega
  have lT : (RL T).tail.length ≤ 200 := by rw [List.length_tail]; omega
  have lr : ∀ y s : List Nat, s.length ≤ 2 → (PySem.StrLaws.replL y s (RL T)).length ≤ 1000 := fun y s hs => by
    have h1 := (replS_mem (y := y) (z := s) (RL T) 0).2
    have h2 : (RL T).length * (1 + s.length) ≤ 200 * 3 := Nat.mul_le_mul hsm (by omega)
    show (PySem.StrLaws.replS y s 0 (RL T)).length ≤ _
    omega
  have key : ∀ w : Str, ∀ v : List Nat, tl w = v → v.length ≤ 1000 → Asc7 v → (v = RL T ++ [32] ∨ v = 32 :: RL T ∨ v = RL T ++ [59] ∨ v = RL T ++ [32, 48] ∨ v = RL T ++ [59, 32, 48] ∨ v = (RL T).tail ∨ v = 48 :: RL T ∨ v = PySem.StrLaws.replL [58] [] (RL T) ∨ v = PySem.StrLaws.replL [32] [32, 32] (RL T) ∨ v = (RL T).dropLast ∨ v = (RL T).dropLast ++ [120] ∨ v = (RL T).dropLast ++ numL n.toNat ∨ v = PySem.StrLaws.replL [58, 32] [58] (RL T) ∨ v = PySem.StrLaws.replL [58] [59] (RL T)) → P__law_at (eS w) = .ok (eI 0) := fun w v e hl ha h => by
    subst e
    exact good w hl ha h
  obtain ⟨⟨q1, q2, q3, q4, q5⟩, q6, q7, q8, q9, q10⟩ := lits
  have hall : ∀ x ∈ List.map (fun q => eS q) [z' ++ (" " : Str), (" " : Str) ++ z', z' ++ (";" : Str), z' ++ (" 0" : Str), z' ++ ("; 0" : Str), y1, ("0" : Str) ++ z', Txt.replace z' (":" : Str) ("" : Str), Txt.replace z' (" " : Str) ("  " : Str), y2, y2 ++ ("x" : Str)] ++ [eS (y2 ++ numS n), eS (Txt.replace z' (": " : Str) (":" : Str)), eS (Txt.replace z' (":" : Str) (";" : Str)), (eS ("" : Str)), (eS ("1" : Str)), (eS ("1:" : Str)), (eS ("0:" : Str)), (eS ("0: 0" : Str)), (eS ("1: 1" : Str)), (eS ("1: 00" : Str)), (eS ("1: -0" : Str)), (eS ("2: 1 0; 0 0" : Str)), (eS ("2: 0 0;0 0" : Str)), (eU ()), (eI 0), ((eC2 "Semigroup" "n" "table" eI (eT (eT eI))) (n, T)), ((eT eS) [("1: 0" : Str)])], P__law_at x = .ok (eI 0) := by
    intro x hx
    rcases List.mem_append.mp hx with hx | hx
    · obtain ⟨w, hw, rfl⟩ := List.mem_map.mp hx
      simp only [List.mem_cons, List.not_mem_nil, or_false] at hw
      rcases hw with rfl | rfl | rfl | rfl | rfl | rfl | rfl | rfl | rfl | rfl | rfl
      · exact key _ (RL T ++ [32]) (by rw [tl_append, hz, e32]) (by rw [List.length_append, List.length_singleton]; omega) (asc_app aR (a1 _ (by decide))) (.inl rfl)
      · exact key _ (32 :: RL T) (by rw [tl_append, hz, e32]; rfl) (by rw [List.length_cons]; omega) (asc_app (a1 [32] (by decide)) aR) (.inr (.inl rfl))
      · exact key _ (RL T ++ [59]) (by rw [tl_append, hz, e59]) (by rw [List.length_append, List.length_singleton]; omega) (asc_app aR (a1 _ (by decide))) (.inr (.inr (.inl rfl)))
      · exact key _ (RL T ++ [32, 48]) (by rw [tl_append, hz, e4]) (by rw [List.length_append]; show _ + 2 ≤ _; omega) (asc_app aR (a1 _ (by decide))) (.inr (.inr (.inr (.inl rfl))))
      · exact key _ (RL T ++ [59, 32, 48]) (by rw [tl_append, hz, e5]) (by rw [List.length_append]; show _ + 3 ≤ _; omega) (asc_app aR (a1 _ (by decide))) (.inr (.inr (.inr (.inr (.inl rfl)))))
      · exact key _ (RL T).tail hy1' (by omega) aT (.inr (.inr (.inr (.inr (.inr (.inl rfl))))))
      · exact key _ (48 :: RL T) (by rw [tl_append, hz, e7]; rfl) (by rw [List.length_cons]; omega) (asc_app (a1 [48] (by decide)) aR) (.inr (.inr (.inr (.inr (.inr (.inr (.inl rfl)))))))
      · exact key _ (PySem.StrLaws.replL [58] [] (RL T)) (by rw [replT (by rw [e58]; decide), hz, e58, e0]) (lr _ _ (by decide)) (replL_asc aR (a1 _ (by decide))) (.inr (.inr (.inr (.inr (.inr (.inr (.inr (.inl rfl))))))))
      · exact key _ (PySem.StrLaws.replL [32] [32, 32] (RL T)) (by rw [replT (by rw [e32]; decide), hz, e32, e9]) (lr _ _ (by decide)) (replL_asc aR (a1 _ (by decide))) (.inr (.inr (.inr (.inr (.inr (.inr (.inr (.inr (.inl rfl)))))))))
      · exact key _ (RL T).dropLast hy2' (by omega) aD (.inr (.inr (.inr (.inr (.inr (.inr (.inr (.inr (.inr (.inl rfl))))))))))
      · exact key _ ((RL T).dropLast ++ [120]) (by rw [tl_append, hy2', ex]) (by rw [List.length_append, List.length_singleton]; omega) (asc_app aD (a1 _ (by decide))) (.inr (.inr (.inr (.inr (.inr (.inr (.inr (.inr (.inr (.inr (.inl rfl)))))))))))
    · simp only [List.mem_cons, List.not_mem_nil, or_false] at hx
      have hn7 : Asc7 (numL n.toNat) := fun c hc => by have := numL_digits _ c hc; omega
      rcases hx with rfl | rfl | rfl | rfl | rfl | rfl | rfl | rfl | rfl | rfl | rfl | rfl | rfl | rfl | rfl | rfl | rfl
      · exact key _ ((RL T).dropLast ++ numL n.toNat) (by rw [tl_append, hy2', numS_tl]) (by rw [List.length_append]; omega) (asc_app aD hn7) (.inr (.inr (.inr (.inr (.inr (.inr (.inr (.inr (.inr (.inr (.inr (.inl rfl))))))))))))
      · exact key _ (PySem.StrLaws.replL [58, 32] [58] (RL T)) (by rw [replT (by rw [e13]; decide), hz, e13, e58]) (lr _ _ (by decide)) (replL_asc aR (a1 _ (by decide))) (.inr (.inr (.inr (.inr (.inr (.inr (.inr (.inr (.inr (.inr (.inr (.inr (.inl rfl)))))))))))))
      · exact key _ (PySem.StrLaws.replL [58] [59] (RL T)) (by rw [replT (by rw [e58]; decide), hz, e58, e59]) (lr _ _ (by decide)) (replL_asc aR (a1 _ (by decide))) (.inr (.inr (.inr (.inr (.inr (.inr (.inr (.inr (.inr (.inr (.inr (.inr (.inr rfl)))))))))))))
      · exact lit_at (by decide +kernel) (by decide +kernel) q1
      · exact lit_at (by decide +kernel) (by decide +kernel) q2
      · exact lit_at (by decide +kernel) (by decide +kernel) q3
      · exact lit_at (by decide +kernel) (by decide +kernel) q4
      · exact lit_at (by decide +kernel) (by decide +kernel) q5
      · exact lit_at (by decide +kernel) (by decide +kernel) q6
      · exact lit_at (by decide +kernel) (by decide +kernel) q7
      · exact lit_at (by decide +kernel) (by decide +kernel) q8
      · exact lit_at (by decide +kernel) (by decide +kernel) q9
      · exact lit_at (by decide +kernel) (by decide +kernel) q10
      · exact nonstr_at rfl
      · exact nonstr_at rfl
      · exact nonstr_at rfl
      · exact nonstr_at rfl
  rw [pCat_ok (by simp), bind_ok, pFil_ok (fun _ => false) (fun x => x) (by simp) (fun x hx => by
    rw [hall x hx, bind_ok]; rfl) (fun _ _ h => by cases h), bind_ok, bind_ok, bind_ok]
  refine Ok.pure ?_
  simp
end LAW
namespace LAW
open DL PySem L2
theorem math (ns : List Int) : d_law [.scr ns] = .ok (.bl true) := by
  have h := S_law ns
  rw [p_law ns] at h
  exact h
end LAW
open PySem PySem.W PySem.Calls PyProof.Rows
set_option maxRecDepth 100000 in
set_option maxHeartbeats 8000000 in
theorem PySem.Challenge.cw_reesblocks_k03_texts_of_semigroups_holds : PySem.Challenge.rw_reesblocks_k03_texts_of_semigroups.Holds := by
  w_on; o_law
  refine HandSHeadRun.head_any (r := OpenLaw.row PySem.Challenge.rw_reesblocks_k03_texts_of_semigroups) (q := view (OpenLaw.row PySem.Challenge.rw_reesblocks_k03_texts_of_semigroups).prog [32]) (H := LAW.hk) (ob := LAW.ob) (M := 4000) (loose := ((["_wall", "Fault", "Malformed", "Refused", "NoText", "is_integer", "MOST", "DIGITS", "is_item", "taken_table", "is_associative", "Semigroup", "read_number", "read_semigroup", "_law_state", "_law_take", "_law_order_of", "_law_renamed", "_law_after", "_law_closed", "_law_of_maps", "_law_monogenic", "_law_triples", "_law_blocks", "_law_plain"] : List PySem.Str) ++ (["_law_extended", "_law_semigroup", "_law_at"] : List PySem.Str))) (d := HandSHeadRun.topDef (OpenLaw.row PySem.Challenge.rw_reesblocks_k03_texts_of_semigroups).prog 32) (kwd := []) LAW.ob_eq
    (by kernel_rfl) (fun s => by kernel_rfl) LAW.run (by kernel_rfl) (by kernel_rfl) (by kernel_rfl) (by rfl) (by first | assumption | decide +kernel) (by decide +kernel) ⟨rfl, rfl, rfl, rfl, rfl, by decide +kernel⟩ ?hw ?hc
  case hw => w_witness2
  case hc => exact DL.law_end (l := PySem.Challenge.rw_reesblocks_k03_texts_of_semigroups) (k := 8) (by rfl) (by kernel_rfl) ⟨rfl, by decide, by decide⟩ (by kernel_rfl) (fun w K mg h KX G c => LAW.ok_law KX G c) LAW.math
