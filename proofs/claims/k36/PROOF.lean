import PyProof.Rows.All
import Wide.All
import OpenK.AllK
import Wide.FinOn
import HandS.ForExc
import HandS.Comp
import HandS.Conv
import HandS.TupAny
import HandS.Strs
import HandS.Iter
import HandS.ExcSuper
import HandS.ExcField
import HandS.TryMany
import HandS.IsInst
import HandS.Wide
import HandS.Deep
import HandS.Style
import HandS.SortInts
import HandS.Defaults
import HandS.Head0
import HandS.Head1
import HandS.Head2
import HandS.HeadEnd
import HandS.HeadHook1
import HandS.HeadHook2
import KE.KExcSuper
import HandS.TupSets
import HandS.TupMul
import PyProof.StrOps2
import HandS.SetFor
import HandS.Dict
import HandS.Small
import HandS.More
import HandS.TupLen
import HandS.WordsDict
import KE.KDictDisplayH
import HandS.Text
import HandS.Replace
import PyProof.ListNew
import PyProof.EnumIter
import PyProof.EnumStmt
import PyProof.Rows.TupIter
import KE.KItemsList
import KE.GoesRaise
import KE.KAsSuite
import KE.KRevSl
import KE.DataMinMax
import PyProof.Rows.RowBridgeK
import HandS.GenList
import PySem.Challenge.RW_reesblocks_k36_whole_isomorphisms
set_option Elab.async false
set_option linter.all false
set_option maxRecDepth 100000
set_option maxHeartbeats 8000000
namespace DL
open PySem PySem.Spec PyProof.Rows L2
abbrev KnO (o : Obj) : Prop := o.cls = .type "tuple" ∧ o.dict = none
section
variable {X : Cx}
theorem laidK {pins : List (Addr × Obj)} {σ : L2.St} {H : Hp} {s : Shared} {h' : Heap} {tk : Nat} {xs : List V} {its : List Value} (I : Inv X pins σ H s) (hk : ∀ b ob, s.heap.get? b = some ob → (h'.push { cls := .type "tuple", data := .seq its.toArray }).get? b = some ob) (hl : s.heap.objs.size ≤ h'.objs.size)
    (hz : xs.length ≤ sizeLine) (r : Vals xs its) : Inv X pins σ (upd H h'.objs.size (.frz { cls := .type "tuple", data := .seq its.toArray } (.tup xs))) { s with heap := h'.push { cls := .type "tuple", data := .seq its.toArray }, toks := tk } :=
  I.laid (t' := tk) hk hl ⟨Heap.get?_push_size _ rfl, hz, its, r, IsTup.new _ _⟩
def rCatK (K : PySem.W.Frag) : R2 := fun x y H Q => ∃ a b xs ys, x = .ref a ∧ y = .ref b ∧ SqT K H a xs ∧ SqT K H b ys ∧ xs.length + ys.length ≤ sizeLine ∧
  (xs = [] → Q (.ref b) H) ∧ (xs ≠ [] → ys = [] → Q (.ref a) H) ∧ (xs ≠ [] → ys ≠ [] → ∀ p o, H p = none → KnO o → Q (.ref p) (upd H p (.frz o (.tup (xs ++ ys)))))
theorem op_catK : OpR X (binaryOp .Add) (rCatK X.K) := by
  intro pins s σ H x y v u Q I rx ry h
  obtain ⟨a, b, xs, ys, rfl, rfl, ha, hb, hz, q0, q1, q2⟩ := h
  by_cases hx : xs = []
  · exact op_catA pins s σ H _ _ v u Q I rx ry ⟨a, b, xs, ys, rfl, rfl, ha, hb, hz, q0, q1, fun z => absurd hx z⟩
  · cases rx
    cases ry
    obtain ⟨its, r1, p1, _⟩ := I.tuple ha
    obtain ⟨its2, r2, p2, _⟩ := I.tuple hb
    refine HT.cat_tup p1 p2 (fun z => hx (r1.nil_iff.mp z)) (fun z => ⟨.ref a, H, I, rfl, q1 hx (r2.nil_iff.mp z)⟩) (fun z => ?_) (by rw [← r1.length, ← r2.length]; exact hz)
    exact ⟨.ref s.heap.objs.size, _, laidK I (fun b ob q => Heap.get?_push_of_some _ q) (Nat.le_refl _) (by rw [List.length_append]; exact hz) (r1.append r2), rfl, q2 hx (fun w => z (r2.nil_iff.mpr w)) _ _ (I.hok.fresh (Nat.le_refl _)) ⟨rfl, rfl⟩⟩
theorem call_tupleK : CallR X (.type "tuple") (fun xs H Q => ∃ p ys, xs = [.ref p] ∧ ((SqL X.K H p ys ∧ ∀ l o, H l = none → KnO o → Q (.ref l) (upd H l (.frz o (.tup ys)))) ∨ (SqT X.K H p ys ∧ Q (.ref p) H))) := by
  intro pins s σ H xs us Q I r h
  obtain ⟨p, ys, rfl, h⟩ := h
  rcases h with ⟨hq, q⟩ | ⟨hq, q⟩
  · obtain ⟨u, rfl, rx⟩ := vals1 r
    cases rx
    obtain ⟨its, r', pl, hz⟩ := I.list hq
    have hlen := r'.length
    refine call_tuple_list pl.isList (fun h' kp => ?_) (by simp only [List.size_toArray] <;> omega)
    have I1 : Inv X pins σ H { s with heap := h' } := I.kept (t' := s.toks) kp
    exact ⟨.ref h'.objs.size, _, laidK (s := { s with heap := h' }) (tk := s.toks) I1 (fun b o e => Heap.get?_push_of_some _ e) (Nat.le_refl _) hz r', rfl, q _ _ (I1.hok.fresh (Nat.le_refl _)) ⟨rfl, rfl⟩⟩
  · exact call_tuple_of pins s σ H _ us Q I r ⟨p, ys, rfl, .inr ⟨hq, q⟩⟩
def rSlK (K : PySem.W.Frag) : V → Option Int → Option Int → Hp → VK → Prop := fun x lo hi H Q => ∃ a xs, x = .ref a ∧ SqT K H a xs ∧
  (HT.sIx xs.length 0 lo = 0 ∧ HT.sIx xs.length xs.length hi = xs.length → Q (.ref a) H) ∧ (¬ (HT.sIx xs.length 0 lo = 0 ∧ HT.sIx xs.length xs.length hi = xs.length) → ∀ p o, H p = none → KnO o → Q (.ref p) (upd H p (.frz o (.tup (cutV xs lo hi)))))
theorem sl_tupK : SlR X (rSlK X.K) := by
  intro pins s σ H x v vl vu lo hi sl Q I rx hs pl pu h
  obtain ⟨a, xs, rfl, hx, q1, q2⟩ := h
  by_cases hw : HT.sIx xs.length 0 lo = 0 ∧ HT.sIx xs.length xs.length hi = xs.length
  · exact sl_tupA pins s σ H _ v vl vu lo hi sl Q I rx hs pl pu ⟨a, xs, rfl, hx, q1, fun z => absurd hw z⟩
  · cases rx
    obtain ⟨its, r, ht, hz⟩ := I.tuple hx
    have hlen : its.toArray.size = xs.length := by rw [List.size_toArray]; exact r.length.symm
    refine ⟨"tuple", _, PyProof.Rows.slot_tuple_getitem.lookup, ht.typeIs, ?_⟩
    refine HT.getItem_tuple_cut ht hs pl pu (by rw [hlen]; exact hw) ?_ (by rw [hlen]; exact hz)
    rw [hlen]
    exact ⟨.ref s.heap.objs.size, _, laidK I (fun b ob q => Heap.get?_push_of_some _ q) (Nat.le_refl _) (Nat.le_trans (cutV_length xs lo hi) hz) ((r.drop (HT.sIx xs.length 0 lo)).take (HT.sIx xs.length xs.length hi - HT.sIx xs.length 0 lo)), rfl, q2 hw _ _ (I.hok.fresh (Nat.le_refl _)) ⟨rfl, rfl⟩⟩
def KnT (K : PySem.W.Frag) (H : Hp) (a : Addr) : Prop := (∃ o u, H a = some (.frz o u) ∧ KnO o) ∨ ∃ o, K.lookup a = some o ∧ KnO o
theorem KnT.mono {K : PySem.W.Frag} {H H' : Hp} {a : Addr} (e : Same H H') (h : KnT K H a) : KnT K H' a := by
  rcases h with ⟨o, u, h, k⟩ | h
  · exact .inl ⟨o, u, e _ _ h, k⟩
  · exact .inr h
theorem KnT.new {K : PySem.W.Frag} {H : Hp} {p : Addr} {o : Obj} {u : HO} (k : KnO o) : KnT K (upd H p (.frz o u)) p := .inl ⟨o, u, upd_same, k⟩
theorem KnT.is {pins : List (Addr × Obj)} {σ : L2.St} {H : Hp} {s : Shared} {a : Addr} (I : Inv X pins σ H s) (h : KnT X.K H a) : s.TypeIs (.ref a) "tuple" ∧ ∃ ob, s.heap.get? a = some ob ∧ ob.dict = none := by
  rcases h with ⟨o, u, h, k⟩ | ⟨o, h, k⟩
  · obtain ⟨g, _⟩ := I.hok a _ h
    exact ⟨⟨o, g, k.1⟩, o, g, k.2⟩
  · have g := I.kIn a o h
    exact ⟨⟨o, g, k.1⟩, o, g, k.2⟩
def NewT (H : Hp) (Q : VK) (xs : List V) : Prop := (∀ p, H p = none → Q (.ref p) (upd H p (.tup xs))) ∨ (∀ p o, H p = none → KnO o → Q (.ref p) (upd H p (.frz o (.tup xs))))
def rCatN (K : PySem.W.Frag) : R2 := fun x y H Q => ∃ a b xs ys, x = .ref a ∧ y = .ref b ∧ SqT K H a xs ∧ SqT K H b ys ∧ xs.length + ys.length ≤ sizeLine ∧
  (xs = [] → Q (.ref b) H) ∧ (xs ≠ [] → ys = [] → Q (.ref a) H) ∧ (xs ≠ [] → ys ≠ [] → NewT H Q (xs ++ ys))
theorem op_catN : OpR X (binaryOp .Add) (rCatN X.K) := by
  intro pins s σ H x y v u Q I rx ry h
  obtain ⟨a, b, xs, ys, rfl, rfl, ha, hb, hz, q0, q1, q2⟩ := h
  by_cases hx : xs = []
  · exact op_catA pins s σ H _ _ v u Q I rx ry ⟨a, b, xs, ys, rfl, rfl, ha, hb, hz, q0, q1, fun z => absurd hx z⟩
  by_cases hy : ys = []
  · exact op_catA pins s σ H _ _ v u Q I rx ry ⟨a, b, xs, ys, rfl, rfl, ha, hb, hz, q0, q1, fun _ z => absurd hy z⟩
  rcases q2 hx hy with q | q
  · exact op_catA pins s σ H _ _ v u Q I rx ry ⟨a, b, xs, ys, rfl, rfl, ha, hb, hz, q0, q1, fun _ _ => q⟩
  · exact op_catK pins s σ H _ _ v u Q I rx ry ⟨a, b, xs, ys, rfl, rfl, ha, hb, hz, q0, q1, fun _ _ => q⟩
def rTupN (K : PySem.W.Frag) : List V → Hp → VK → Prop := fun xs H Q => ∃ p ys, xs = [.ref p] ∧ ((SqL K H p ys ∧ NewT H Q ys) ∨ (SqT K H p ys ∧ Q (.ref p) H))
theorem call_tupleN : CallR X (.type "tuple") (rTupN X.K) := by
  intro pins s σ H xs us Q I r h
  obtain ⟨p, ys, rfl, ⟨hq, q | q⟩ | ⟨hq, q⟩⟩ := h
  · exact call_tuple_of pins s σ H _ us Q I r ⟨p, ys, rfl, .inl ⟨hq, q⟩⟩
  · exact call_tupleK pins s σ H _ us Q I r ⟨p, ys, rfl, .inl ⟨hq, q⟩⟩
  · exact call_tuple_of pins s σ H _ us Q I r ⟨p, ys, rfl, .inr ⟨hq, q⟩⟩
def tTupN (t : TA) : TE := fun σ H Q => t σ H fun xs H1 => xs.length ≤ sizeLine ∧ NewT H1 Q xs
theorem pe_tupN {es : List Expr} {t : TA} {pos : Pos} {x1} (h : PA X es t) : PE X (.Tuple es x1 pos) (tTupN t) := by
  refine ⟨fun pins s σ H Q I hq => ?_⟩
  refine wpAny_Tuple_spliced (thn (h.run pos pins s σ H _ I hq) fun us s1 ⟨xs, H1, I1, r, z, q⟩ => ⟨by rw [← r.length]; exact z, ?_⟩)
  have hf : H1 s1.heap.objs.size = none := I1.hok.fresh (Nat.le_refl _)
  rcases q with q | q
  · refine ⟨.ref s1.heap.objs.size, upd H1 s1.heap.objs.size (.tup xs), I1.laid (t' := s1.toks) (fun b u e => Heap.get?_push_of_some _ e) (Nat.le_refl _) ?_, rfl, q _ hf⟩
    exact ⟨z, us, r, ⟨_, Heap.get?_push_size _ rfl, rfl, _, rfl⟩⟩
  · exact ⟨.ref s1.heap.objs.size, _, laidK I1 (fun b u e => Heap.get?_push_of_some _ e) (Nat.le_refl _) z r, rfl, q _ _ hf ⟨rfl, rfl⟩⟩
def rSlN (K : PySem.W.Frag) : V → Option Int → Option Int → Hp → VK → Prop := fun x lo hi H Q => ∃ a xs, x = .ref a ∧ SqT K H a xs ∧
  (HT.sIx xs.length 0 lo = 0 ∧ HT.sIx xs.length xs.length hi = xs.length → Q (.ref a) H) ∧ (¬ (HT.sIx xs.length 0 lo = 0 ∧ HT.sIx xs.length xs.length hi = xs.length) → NewT H Q (cutV xs lo hi))
theorem sl_tupN : SlR X (rSlN X.K) := by
  intro pins s σ H x v vl vu lo hi sl Q I rx hs pl pu h
  obtain ⟨a, xs, rfl, hx, q1, q2⟩ := h
  by_cases hw : HT.sIx xs.length 0 lo = 0 ∧ HT.sIx xs.length xs.length hi = xs.length
  · exact sl_tupA pins s σ H _ v vl vu lo hi sl Q I rx hs pl pu ⟨a, xs, rfl, hx, q1, fun z => absurd hw z⟩
  rcases q2 hw with q | q
  · exact sl_tupA pins s σ H _ v vl vu lo hi sl Q I rx hs pl pu ⟨a, xs, rfl, hx, q1, fun _ => q⟩
  · exact sl_tupK pins s σ H _ v vl vu lo hi sl Q I rx hs pl pu ⟨a, xs, rfl, hx, q1, fun _ => q⟩
def tTupRgN (te : L2.St → Hp → (Int → Int → Hp → Prop) → Prop) : TE := fun σ H Q => te σ H fun a b H1 => RgOk a b ∧ NewT H1 Q (rgV a b)
theorem pe_tupRgN {e : Expr} {te : L2.St → Hp → (Int → Int → Hp → Prop) → Prop} {p pos : Pos} (hc : X.calm = true) (hg : Gl X "tuple") (hm : X.mg "tuple" = none) (he : PRg X e te) (na : starEach [e] X.env = (false, eval e X.env) :: starEach [] X.env := by rfl) : PE X (.Call (.Name "tuple" p) [e] [] pos) (tTupRgN te) := by
  refine ⟨fun pins s σ H Q I h => ?_⟩
  refine Call_ (ld_blt I hg hm boot_tuple (PyProof.Rows.callWith_type1 (args_cons (thn (he pins s σ H _ I h) fun x s1 ⟨r, a, b, t, u, v, H1, ex, hr, I1, ok, q⟩ => args_nil ?_) na) na))
  subst ex
  obtain ⟨b1, b2, b3, b4, b5⟩ := ok
  refine call_tuple_range (n := (b - a).toNat) (I1.ok.hd hc) hr (small_one b1 b2 b3 b4) (rangeSize_nat a b) b5 fun h' tk acc hk hi => ?_
  have I2 : Inv X pins σ H1 { s1 with heap := h', toks := tk } := I1.kept hk
  have hz : (rgV a b).length ≤ sizeLine := by rw [rgV_length, sizeLine_eq]; omega
  rcases q with q | q
  · refine ⟨.ref h'.objs.size, upd H1 h'.objs.size (.tup (rgV a b)), I2.laid (t' := tk) (fun c o e => Heap.get?_push_of_some _ e) (Nat.le_refl _) (show ObjOk X.prog X.w _ _ _ (.tup (rgV a b)) from ⟨hz, acc.toList, vals_rg hi, ?_⟩), rfl, q _ (I2.hok.fresh (Nat.le_refl _))⟩
    rw [Array.toArray_toList]; exact IsTup.new _ _
  · have := laidK (s := { s1 with heap := h', toks := tk }) (tk := tk) (its := acc.toList) I2 (fun c o e => Heap.get?_push_of_some _ e) (Nat.le_refl _) hz (vals_rg hi)
    rw [Array.toArray_toList] at this
    exact ⟨.ref h'.objs.size, _, this, rfl, q _ _ (I2.hok.fresh (Nat.le_refl _)) ⟨rfl, rfl⟩⟩
end
end DL
namespace DL
open PySem PySem.Spec PyProof.Rows L2
inductive D where
  | non | bl (b : Bool) | int (i : Int) | str (x : Str)
  | lst (xs : List D) | tup (xs : List D)
  | ins (c : Str) (ns : List Str) (ds : List D)
  /-- the script -/
  | scr (ns : List Int)
structure G where
  K : PySem.W.Frag
  mg : Str → Option Value
  /-- the exception that an except suite holds: its address, class, dict -/
  xa : Option (Addr × Value × Option Addr)
  /-- are the objects of tuples known (their dicts are none) -/
  tk : Bool
/-- a tuple's object: known, or just the tuple -/
def TkP (g : G) (F : Hp) (a : Addr) (vs : List V) : Prop := match g.tk with
  | true => KnT g.K F a
  | false => F a = some (.tup vs)
theorem TkP.mono {g : G} {F F' : Hp} {a : Addr} {vs : List V} (e : Same F F') (h : TkP g F a vs) : TkP g F' a vs := by
  unfold TkP at h ⊢
  revert h
  cases g.tk with
  | true => exact fun h => KnT.mono e h
  | false => exact fun h => e _ _ h
mutual
inductive Rv (g : G) (F : Hp) : V → D → Prop
  | non : Rv g F .non .non
  | bl (b : Bool) : Rv g F (.bl b) (.bl b)
  | int (i : Int) : Rv g F (.int i) (.int i)
  | str (x : Str) : Rv g F (.str x) (.str x)
  | lst {a : Addr} {vs : List V} {ds : List D} : F a = some (.lst vs) → Rl g F vs ds → Rv g F (.ref a) (.lst ds)
  | tup {a : Addr} {vs : List V} {ds : List D} : SqT g.K F a vs → TkP g F a vs → Rl g F vs ds → Rv g F (.ref a) (.tup ds)
  | ins {a C dx : Addr} {c : Str} {ns : List Str} {vs : List V} {ds : List D} : F a = some (.ins C dx (ns.zip vs)) → g.mg c = some (.ref C) → ns.length = vs.length → Rl g F vs ds → Rv g F (.ref a) (.ins c ns ds)
  | scr {a : Addr} {ns : List Int} : SqL g.K F a (ns.map V.int) → Rv g F (.ref a) (.scr ns)
inductive Rl (g : G) (F : Hp) : List V → List D → Prop
  | nil : Rl g F [] []
  | cons {v : V} {vs : List V} {d : D} {ds : List D} : Rv g F v d → Rl g F vs ds → Rl g F (v :: vs) (d :: ds)
end
theorem sqT_mono {K : PySem.W.Frag} {F F' : Hp} {a : Addr} {xs : List V} (e : Same F F') (h : SqT K F a xs) : SqT K F' a xs := by
  rcases h with (h | ⟨o, h⟩) | h
  · exact .inl (.inl (e _ _ h))
  · exact .inl (.inr ⟨o, e _ _ h⟩)
  · exact .inr h
theorem sqL_mono {K : PySem.W.Frag} {F F' : Hp} {a : Addr} {xs : List V} (e : Same F F') (h : SqL K F a xs) : SqL K F' a xs := by
  rcases h with (h | ⟨o, h⟩) | h
  · exact .inl (.inl (e _ _ h))
  · exact .inl (.inr ⟨o, e _ _ h⟩)
  · exact .inr h
mutual
theorem Rv.mono {g : G} {F F' : Hp} (e : Same F F') : ∀ {v : V} {d : D}, Rv g F v d → Rv g F' v d
  | _, _, .non => .non
  | _, _, .bl b => .bl b
  | _, _, .int i => .int i
  | _, _, .str x => .str x
  | _, _, .lst h r => .lst (e _ _ h) (Rl.mono e r)
  | _, _, .tup h k r => .tup (sqT_mono e h) (k.mono e) (Rl.mono e r)
  | _, _, .ins h m l r => .ins (e _ _ h) m l (Rl.mono e r)
  | _, _, .scr h => .scr (sqL_mono e h)
theorem Rl.mono {g : G} {F F' : Hp} (e : Same F F') : ∀ {vs : List V} {ds : List D}, Rl g F vs ds → Rl g F' vs ds
  | _, _, .nil => .nil
  | _, _, .cons r t => .cons (Rv.mono e r) (Rl.mono e t)
end
section
variable {g : G} {F : Hp}
theorem Rl.length : ∀ {vs : List V} {ds : List D}, Rl g F vs ds → vs.length = ds.length
  | _, _, .nil => rfl
  | _, _, .cons _ t => by rw [List.length_cons, List.length_cons, Rl.length t]
theorem Rl.get : ∀ {vs : List V} {ds : List D} {i : Nat} {d : D}, Rl g F vs ds → ds[i]? = some d → ∃ v, vs[i]? = some v ∧ Rv g F v d
  | _, _, _, _, .nil, e => by simp at e
  | _, _, 0, _, .cons r _, e => by simp at e; subst e; exact ⟨_, rfl, r⟩
  | _, _, i + 1, d, .cons _ t, e => by
    obtain ⟨u, h1, h2⟩ := Rl.get (i := i) (d := d) t (by simpa using e)
    exact ⟨u, by simpa using h1, h2⟩
theorem Rl.get' : ∀ {vs : List V} {ds : List D} {i : Nat} {v : V}, Rl g F vs ds → vs[i]? = some v → ∃ d, ds[i]? = some d ∧ Rv g F v d
  | _, _, _, _, .nil, e => by simp at e
  | _, _, 0, _, .cons r _, e => by simp at e; subst e; exact ⟨_, rfl, r⟩
  | _, _, i + 1, d, .cons _ t, e => by
    obtain ⟨u, h1, h2⟩ := Rl.get' (i := i) (v := d) t (by simpa using e)
    exact ⟨u, by simpa using h1, h2⟩
theorem Rl.append : ∀ {vs ws : List V} {ds es : List D}, Rl g F vs ds → Rl g F ws es → Rl g F (vs ++ ws) (ds ++ es)
  | _, _, _, _, .nil, s => s
  | _, _, _, _, .cons r t, s => .cons r (Rl.append t s)
theorem Rl.take : ∀ {vs : List V} {ds : List D} (n : Nat), Rl g F vs ds → Rl g F (vs.take n) (ds.take n)
  | _, _, 0, _ => .nil
  | _, _, _ + 1, .nil => .nil
  | _, _, n + 1, .cons r t => .cons r (Rl.take n t)
theorem Rl.drop : ∀ {vs : List V} {ds : List D} (n : Nat), Rl g F vs ds → Rl g F (vs.drop n) (ds.drop n)
  | _, _, 0, r => r
  | _, _, _ + 1, .nil => .nil
  | _, _, n + 1, .cons _ t => Rl.drop n t
theorem Rl.set {v : V} {d : D} (r : Rv g F v d) : ∀ {vs : List V} {ds : List D} (i : Nat), Rl g F vs ds → Rl g F (vs.set i v) (ds.set i d)
  | _, _, _, .nil => .nil
  | _, _, 0, .cons _ t => .cons r t
  | _, _, i + 1, .cons q t => .cons q (Rl.set r i t)
theorem Rl.eraseIdx : ∀ {vs : List V} {ds : List D} (i : Nat), Rl g F vs ds → Rl g F (vs.eraseIdx i) (ds.eraseIdx i)
  | _, _, _, .nil => .nil
  | _, _, 0, .cons _ t => t
  | _, _, i + 1, .cons q t => .cons q (Rl.eraseIdx i t)
theorem Rl.rep {vs : List V} {ds : List D} (h : Rl g F vs ds) : ∀ k : Nat, Rl g F (List.replicate k vs).flatten (List.replicate k ds).flatten
  | 0 => .nil
  | k + 1 => by rw [List.replicate_succ, List.replicate_succ, List.flatten_cons, List.flatten_cons]; exact h.append (Rl.rep h k)
theorem Rl.ints : ∀ {vs : List V} {ns : List Int}, Rl g F vs (ns.map D.int) → vs = ns.map V.int
  | _, [], .nil => rfl
  | _, n :: ns, .cons r t => by cases r; rw [Rl.ints t]; rfl
theorem Rl.of_ints : ∀ (ns : List Int), Rl g F (ns.map V.int) (ns.map D.int)
  | [] => .nil
  | n :: ns => .cons (.int n) (Rl.of_ints ns)
end
inductive Slot where
  | no | sh (d : D) | ow (ds : List D) | rf (k : Nat) (ds : List D) | oi (k : Nat) (c : Str) (ns : List Str) (ds : List D) | o2 (dss : List (List D)) | xc (c nm : Str) (x : D) | gy (ds : List D)
  | dk (kvs : List (Int × D)) | dt (kvs : List (List Int × D)) | lk (kvs : List (Int × D)) | lt (kvs : List (List Int × D))
abbrev DSt := List Slot
structure Par where
  B : List Addr
  R : Hp
  N : Addr → Prop
/-- dicts whose keys are numbers, tuples of numbers -/
def hK (kvs : List (Int × D)) (vs : List V) : HO := .dK ((kvs.map fun p => (Sum.inl p.1 : Key)).zip vs)
def hT (kvs : List (List Int × D)) (vs : List V) : HO := .dT ((kvs.map fun p => p.1.map (Sum.inl : Int → Key)).zip vs)
def SlotOk (g : G) (P : Par) (O : Addr → Option Nat) (F H : Hp) (i : Nat) (s : Slot) (ov : Option V) : Prop := match s with
  | .no => True
  | .sh d => ∃ v, ov = some v ∧ Rv g F v d
  | .ow ds => ∃ a vs, ov = some (.ref a) ∧ O a = some i ∧ ¬ P.N a ∧ H a = some (.lst vs) ∧ Rl g F vs ds
  | .rf k ds => ∃ a vs, ov = some (.ref a) ∧ P.B[k]? = some a ∧ O a = some i ∧ H a = some (.lst vs) ∧ Rl g F vs ds
  | .oi k c ns ds => ∃ a C dx vs, ov = some (.ref a) ∧ P.B[k]? = some a ∧ O a = some i ∧ g.mg c = some (.ref C) ∧ ns.length = vs.length ∧ H a = some (.ins C dx (ns.zip vs)) ∧ Rl g F vs ds
  | .o2 dss => ∃ (a : Addr) (bs : List Addr), ov = some (.ref a) ∧ O a = some i ∧ ¬ P.N a ∧ H a = some (.lst (bs.map V.ref)) ∧ bs.Nodup ∧ a ∉ bs ∧ bs.length = dss.length ∧
      ∀ (j : Nat) (b : Addr) (ds : List D), bs[j]? = some b → dss[j]? = some ds → O b = some i ∧ ¬ P.N b ∧ ∃ vs, H b = some (.lst vs) ∧ Rl g F vs ds
  | .dk kvs => ∃ (a : Addr) (vs : List V), ov = some (.ref a) ∧ O a = some i ∧ ¬ P.N a ∧ H a = some (hK kvs vs) ∧ Rl g F vs (kvs.map Prod.snd)
  | .dt kvs => ∃ (a : Addr) (vs : List V), ov = some (.ref a) ∧ O a = some i ∧ ¬ P.N a ∧ H a = some (hT kvs vs) ∧ Rl g F vs (kvs.map Prod.snd)
  | .lk kvs => ∃ (a : Addr) (od : Obj) (vs : List V), ov = some (.ref a) ∧ F a = some (.frz od (hK kvs vs)) ∧ Rl g F vs (kvs.map Prod.snd)
  | .lt kvs => ∃ (a : Addr) (od : Obj) (vs : List V), ov = some (.ref a) ∧ F a = some (.frz od (hT kvs vs)) ∧ Rl g F vs (kvs.map Prod.snd)
  | .gy ds => ∃ vs, Rl g F vs ds
  | .xc c nm x => ∃ (a C d : Addr) (v : V), g.xa = some (a, .ref C, some d) ∧ g.mg c = some (.ref C) ∧ ov = some (.ref a) ∧ F d = some (.xd [(nm, v)]) ∧ Rv g F v x
theorem SlotOk.move {g : G} {P P' : Par} {O O' : Addr → Option Nat} {F F' H H' : Hp} {i : Nat} {s : Slot} {ov : Option V} (h : SlotOk g P O F H i s ov) (hB : P'.B = P.B) (hO : ∀ a, O a = some i → O' a = some i) (hF : Same F F')
    (hH : ∀ a o, O a = some i → H a = some o → H' a = some o) (hN : ∀ a, O a = some i → ¬ P.N a → ¬ P'.N a) : SlotOk g P' O' F' H' i s ov := by
  cases s with
  | no => trivial
  | sh d => obtain ⟨v, e, r⟩ := h; exact ⟨v, e, r.mono hF⟩
  | ow ds => obtain ⟨a, vs, e, o, n, h1, r⟩ := h; exact ⟨a, vs, e, hO a o, hN a o n, hH _ _ o h1, r.mono hF⟩
  | rf k ds => obtain ⟨a, vs, e, b, o, h1, r⟩ := h; exact ⟨a, vs, e, by rw [hB]; exact b, hO a o, hH _ _ o h1, r.mono hF⟩
  | oi k c ns ds => obtain ⟨a, C, dx, vs, e, b, o, m, l, h1, r⟩ := h; exact ⟨a, C, dx, vs, e, by rw [hB]; exact b, hO a o, m, l, hH _ _ o h1, r.mono hF⟩
  | xc c nm x => obtain ⟨a, C, d, v, e1, e2, e3, h1, r⟩ := h; exact ⟨a, C, d, v, e1, e2, e3, hF _ _ h1, r.mono hF⟩
  | gy ds => obtain ⟨vs, r⟩ := h; exact ⟨vs, r.mono hF⟩
  | dk kvs => obtain ⟨a, vs, e, o, n, h1, r⟩ := h; exact ⟨a, vs, e, hO a o, hN a o n, hH _ _ o h1, r.mono hF⟩
  | dt kvs => obtain ⟨a, vs, e, o, n, h1, r⟩ := h; exact ⟨a, vs, e, hO a o, hN a o n, hH _ _ o h1, r.mono hF⟩
  | lk kvs => obtain ⟨a, od, vs, e, h1, r⟩ := h; exact ⟨a, od, vs, e, hF _ _ h1, r.mono hF⟩
  | lt kvs => obtain ⟨a, od, vs, e, h1, r⟩ := h; exact ⟨a, od, vs, e, hF _ _ h1, r.mono hF⟩
  | o2 dss =>
    obtain ⟨a, bs, e, o, n, h1, nd, na, l, r⟩ := h
    refine ⟨a, bs, e, hO a o, hN a o n, hH _ _ o h1, nd, na, l, fun j b ds e1 e2 => ?_⟩
    obtain ⟨o', n', vs, h2, r2⟩ := r j b ds e1 e2
    exact ⟨hO b o', hN b o' n', vs, hH _ _ o' h2, r2.mono hF⟩
/-- something stands there that is no tuple -/
def NT (H : Hp) (a : Addr) : Prop := H a ≠ none ∧ ∀ xs, H a ≠ some (.tup xs)
theorem NT.of {H : Hp} {a : Addr} {o : HO} (h : H a = some o) (n : ∀ xs, o ≠ .tup xs := by intro _ z; cases z) : NT H a := ⟨by rw [h]; simp, fun xs z => by rw [h] at z; exact n xs (Option.some.inj z)⟩
theorem NT.same {H H' : Hp} {a : Addr} (e : Same H H') (h : NT H a) : NT H' a := by
  obtain ⟨h1, h2⟩ := h
  cases q : H a with
  | none => exact absurd q h1
  | some o => exact NT.of (e a o q) fun xs z => h2 xs (by rw [q, z])
theorem NT.get {H : Hp} {a : Addr} (h : NT H a) : ∃ o, H a = some o := by
  cases q : H a with
  | none => exact absurd q h.1
  | some o => exact ⟨o, rfl⟩
theorem NT.move {H H' : Hp} {a : Addr} (h : NT H a) (e : ∀ o, H a = some o → H' a = some o) : NT H' a := by
  obtain ⟨o, q⟩ := h.get
  exact NT.of (e o q) fun xs z => h.2 xs (by rw [q, z])
theorem NT.upd {H : Hp} {a b : Addr} {o : HO} (hb : b ≠ a) (h : NT H b) : NT (L2.upd H a o) b := NT.move h fun u hu => by rw [upd_ne hb]; exact hu
structure SRc (g : G) (P : Par) (O : Addr → Option Nat) (σ : L2.St) (H F : Hp) (st : DSt) : Prop where
  le : Same F H
  rr : Same P.R H
  oo : ∀ a i, O a = some i → F a = none ∧ P.R a = none ∧ NT H a
  no : ∀ a, P.N a → F a = none ∧ NT H a
  len : σ.length = st.length
  sl : ∀ i s ov, st[i]? = some s → σ[i]? = some ov → SlotOk g P O F H i s ov
def SR (g : G) (P : Par) (σ : L2.St) (H F : Hp) (st : DSt) : Prop := ∃ O, SRc g P O σ H F st
/-- .. and p belongs to nobody -/
def SRx (g : G) (P : Par) (σ : L2.St) (H F : Hp) (st : DSt) (p : Addr) : Prop := ∃ O, SRc g P O σ H F st ∧ O p = none ∧ F p = none ∧ P.R p = none ∧ ¬ P.N p
structure Grow (H F H' F' : Hp) : Prop where
  h : Same H H'
  f : Same F F'
  i : Same F' H'
  n : ∀ a, NT H a → F a = none → F' a = none
theorem Grow.refl {H F : Hp} (l : Same F H) : Grow H F H F := ⟨Same.refl _, Same.refl _, l, fun _ _ h => h⟩
theorem Grow.trans {H F H1 F1 H2 F2 : Hp} (a : Grow H F H1 F1) (b : Grow H1 F1 H2 F2) : Grow H F H2 F2 :=
  ⟨a.h.trans b.h, a.f.trans b.f, b.i, fun x h1 h2 => b.n x (NT.same a.h h1) (a.n x h1 h2)⟩
theorem ne_some {α : Type} {o : Option α} (h : o ≠ none) : ∃ x, o = some x := by
  cases o with
  | none => exact absurd rfl h
  | some x => exact ⟨x, rfl⟩
theorem Same.ne {H H' : Hp} (e : Same H H') {a : Addr} (h : H a ≠ none) : H' a ≠ none := by
  obtain ⟨o, ho⟩ := ne_some h
  rw [e a o ho]; simp
/-- a new object, frozen -/
theorem Grow.new {H F : Hp} {p : Addr} {o : HO} (l : Same F H) (h : H p = none) : Grow H F (upd H p o) (upd F p o) := by
  have hp : ∀ {b : Addr} {u : HO}, H b = some u → b ≠ p := fun e z => by subst z; rw [h] at e; cases e
  refine ⟨fun b u e => by rw [upd_ne (hp e)]; exact e, fun b u e => by rw [upd_ne (hp (l _ _ e))]; exact e, fun b u e => ?_, fun b hb hf => ?_⟩
  · by_cases hbp : b = p
    · subst hbp; rw [upd_same] at e ⊢; exact e
    · rw [upd_ne hbp] at e ⊢; exact l _ _ e
  · obtain ⟨u, e⟩ := hb.get
    rw [upd_ne (hp e)]; exact hf
/-- a new object, not frozen -/
theorem Grow.new0 {H F : Hp} {p : Addr} {o : HO} (l : Same F H) (h : H p = none) : Grow H F (upd H p o) F := by
  have hp : ∀ {b : Addr} {u : HO}, H b = some u → b ≠ p := fun e z => by subst z; rw [h] at e; cases e
  exact ⟨fun b u e => by rw [upd_ne (hp e)]; exact e, Same.refl _, fun b u e => by rw [upd_ne (hp (l _ _ e))]; exact l _ _ e, fun _ _ h => h⟩
section
variable {g : G} {P : Par} {O : Addr → Option Nat} {σ : L2.St} {H F H' F' : Hp} {st : DSt}
theorem SlotOk.grow {i : Nat} {s : Slot} {ov : Option V} (gr : Grow H F H' F') (h : SlotOk g P O F H i s ov) : SlotOk g P O F' H' i s ov :=
  h.move rfl (fun _ h => h) gr.f (fun _ _ _ h => gr.h _ _ h) fun _ _ h => h
theorem SRc.grow (s : SRc g P O σ H F st) (gr : Grow H F H' F') : SRc g P O σ H' F' st :=
  ⟨gr.i, s.rr.trans gr.h, fun a i e => ⟨gr.n a (s.oo a i e).2.2 (s.oo a i e).1, (s.oo a i e).2.1, NT.same gr.h (s.oo a i e).2.2⟩,
    fun a n => ⟨gr.n a (s.no a n).2 (s.no a n).1, NT.same gr.h (s.no a n).2⟩, s.len, fun i sl ov e1 e2 => (s.sl i sl ov e1 e2).grow gr⟩
theorem SR.grow (s : SR g P σ H F st) (gr : Grow H F H' F') : SR g P σ H' F' st := let ⟨O, c⟩ := s; ⟨O, c.grow gr⟩
theorem SR.le (s : SR g P σ H F st) : Same F H := let ⟨_, c⟩ := s; c.le
theorem SR.len (s : SR g P σ H F st) : σ.length = st.length := let ⟨_, c⟩ := s; c.len
end
inductive Res (α : Type) where
  | ok (a : α) (st : DSt) | exn (c : Str) (fs : List (Str × D)) (st : DSt) | stuck
inductive M (α : Type) where
  | ok (a : α) | exn (c : Str) (fs : List (Str × D)) | stuck
abbrev Den (α : Type) := DSt → Res α
@[simp] def bindD {α β : Type} (a : Den α) (k : α → Den β) : Den β := fun st => match a st with
  | .ok x st' => k x st'
  | .exn c fs st' => .exn c fs st'
  | .stuck => .stuck
@[simp] def liftO {α : Type} (o : Option α) : Den α := fun st => match o with
  | some a => .ok a st
  | none => .stuck
@[simp] def liftM' {α : Type} (m : M α) : Den α := fun st => match m with
  | .ok a => .ok a st
  | .exn c fs => .exn c fs st
  | .stuck => .stuck
@[simp] def retD {α : Type} (a : α) : Den α := fun st => .ok a st
def RepX (g : G) (F H : Hp) (c : Str) (fs : List (Str × D)) (cls : Value) (dd : Option Addr) : Prop :=
  ∃ C, g.mg c = some (.ref C) ∧ cls = .ref C ∧ ((fs = [] ∧ dd = none) ∨ ∃ d nm v x, dd = some d ∧ fs = [(nm, x)] ∧ F d = some (.xd [(nm, v)]) ∧ Rv g F v x)
theorem RepX.mono {g : G} {F F' H H' : Hp} {c : Str} {fs : List (Str × D)} {cls : Value} {dd : Option Addr} (ef : Same F F') (eh : Same H H') (h : RepX g F H c fs cls dd) : RepX g F' H' c fs cls dd := by
  obtain ⟨C, m, e, h⟩ := h
  refine ⟨C, m, e, ?_⟩
  rcases h with h | ⟨d, nm, v, x, e1, e2, e3, r⟩
  · exact .inl h
  · exact .inr ⟨d, nm, v, x, e1, e2, ef _ _ e3, r.mono ef⟩
def Out {α : Type} (g : G) (W : WX) (P : Par) (σ : L2.St) (F : Hp) (r : Res α) (k : α → DSt → Hp → Hp → Prop) : Prop := match r with
  | .ok a st' => ∀ H' F', Same F F' → SR g P σ H' F' st' → k a st' H' F'
  | .exn c fs st' => ∀ cls dd H' F', Same F F' → SR g P σ H' F' st' → RepX g F' H' c fs cls dd → W cls dd σ H'
  | .stuck => False
section
variable {g : G} {W : WX} {P : Par} {σ : L2.St} {F F' : Hp} {α β : Type}
theorem Out.imp {r : Res α} {k k' : α → DSt → Hp → Hp → Prop} (h : Out g W P σ F r k) (hk : ∀ a st' H' F', Same F F' → SR g P σ H' F' st' → k a st' H' F' → k' a st' H' F') : Out g W P σ F r k' := by
  cases r with
  | ok a st' => exact fun H' F' e s => hk a st' H' F' e s (h H' F' e s)
  | exn c fs st' => exact h
  | stuck => exact h
theorem Out.weak {r : Res α} {k : α → DSt → Hp → Hp → Prop} (e : Same F F') (h : Out g W P σ F r k) : Out g W P σ F' r k := by
  cases r with
  | ok a st' => exact fun H' F2 e2 s => h H' F2 (e.trans e2) s
  | exn c fs st' => exact fun cls dd H' F2 e2 s => h cls dd H' F2 (e.trans e2) s
  | stuck => exact h
theorem Out.bind {a : Den α} {f : α → Den β} {st : DSt} {k : β → DSt → Hp → Hp → Prop} (h : Out g W P σ F (bindD a f st) k) : Out g W P σ F (a st) (fun x st1 _ F1 => Out g W P σ F1 (f x st1) k) := by
  unfold bindD at h
  revert h
  cases a st with
  | ok x st' => exact fun h H' F' e s => Out.weak e h
  | exn c fs st' => exact fun h => h
  | stuck => exact fun h => h
theorem Out.lift {o : Option α} {st : DSt} {k : α → DSt → Hp → Hp → Prop} (h : Out g W P σ F (liftO o st) k) : ∃ a, o = some a ∧ ∀ H' F', Same F F' → SR g P σ H' F' st → k a st H' F' := by
  cases o with
  | some a => exact ⟨a, rfl, h⟩
  | none => exact h.elim
end
def tE (g : G) (W : WX) (f : Den D) : TE := fun σ H Q => ∃ P F st, SR g P σ H F st ∧ Out g W P σ F (f st) fun d _ H' F' => ∀ v, Rv g F' v d → Q v H'
def tT (g : G) (W : WX) (f : Den Bool) : TT := fun σ H Q => ∃ P F st, SR g P σ H F st ∧ Out g W P σ F (f st) fun b _ H' _ => Q b H'
def tA (g : G) (W : WX) (f : Den (List D)) : TA := fun σ H Q => ∃ P F st, SR g P σ H F st ∧ Out g W P σ F (f st) fun ds _ H' F' => ∀ vs, Rl g F' vs ds → Q vs H'
/-- a new list, owned by nobody -/
def OutN (g : G) (W : WX) (P : Par) (σ : L2.St) (F : Hp) (r : Res (List D)) (Q : VK) : Prop := match r with
  | .ok ds st' => ∀ H' F' p vs, Same F F' → SRx g P σ H' F' st' p → H' p = some (.lst vs) → Rl g F' vs ds → Q (.ref p) H'
  | .exn c fs st' => ∀ cls dd H' F', Same F F' → SR g P σ H' F' st' → RepX g F' H' c fs cls dd → W cls dd σ H'
  | .stuck => False
def tN (g : G) (W : WX) (f : Den (List D)) : TE := fun σ H Q => ∃ P F st, SR g P σ H F st ∧ OutN g W P σ F (f st) Q
theorem _root_.L2.PE.imp {X : Cx} {e : Expr} {t t' : TE} (h : PE X e t) (i : ∀ σ H Q, t' σ H Q → t σ H Q) : PE X e t' := ⟨fun pins s σ H Q I q => h.run pins s σ H Q I (i σ H Q q)⟩
theorem _root_.L2.PT.imp {X : Cx} {e : Expr} {t t' : TT} (h : PT X e t) (i : ∀ σ H Q, t' σ H Q → t σ H Q) : PT X e t' := ⟨fun pins s σ H Q I q => h.run pins s σ H Q I (i σ H Q q)⟩
theorem _root_.L2.PW.imp {X : Cx} {e : Expr} {t t' : TT} (h : PW X e t) (i : ∀ σ H Q, t' σ H Q → t σ H Q) : PW X e t' := ⟨fun w pins s σ H Q I q => h.run w pins s σ H Q I (i σ H Q q)⟩
theorem _root_.L2.PA.imp {X : Cx} {e : List Expr} {t t' : TA} (h : PA X e t) (i : ∀ σ H Q, t' σ H Q → t σ H Q) : PA X e t' := ⟨fun pos pins s σ H Q I q => h.run pos pins s σ H Q I (i σ H Q q)⟩
theorem _root_.L2.PS.imp {X : Cx} {e : Stmt} {t t' : TS} (h : PS X e t) (i : ∀ D σ H, t' D σ H → t D σ H) : PS X e t' := ⟨fun pins s σ H D I q => h.run pins s σ H D I (i D σ H q)⟩
theorem _root_.L2.PSs.imp {X : Cx} {e : List Stmt} {t t' : TS} (h : PSs X e t) (i : ∀ D σ H, t' D σ H → t D σ H) : PSs X e t' := ⟨fun pins s σ H D I q => h.run pins s σ H D I (i D σ H q)⟩
/-- read at the heap: frozen, or an owned list -/
def Br (g : G) (F H : Hp) (v : V) (d : D) : Prop := Rv g F v d ∨ ∃ a vs ds, v = .ref a ∧ d = .lst ds ∧ H a = some (.lst vs) ∧ Rl g F vs ds
end DL
namespace DL
open PySem PySem.Spec PyProof.Rows L2
mutual
def toPy : D → Option PyData
  | .non => some .none
  | .bl b => some (.bool b)
  | .int i => some (.int i)
  | .str x => some (.str x)
  | .lst xs => match toPys xs with | some ps => some (.list ps) | none => none
  | .tup xs => match toPys xs with | some ps => some (.tuple ps) | none => none
  | .ins _ _ _ => none
  | .scr _ => none
def toPys : List D → Option (List PyData)
  | [] => some []
  | d :: ds => match toPy d, toPys ds with | some p, some ps => some (p :: ps) | _, _ => none
end
theorem sqL_of {K : PySem.W.Frag} {H : Hp} {a : Addr} {xs : List V} (h : H a = some (.lst xs)) : SqL K H a xs := .inl (.inl h)
mutual
theorem Rv.dp {g : G} {F H : Hp} (l : Same F H) : ∀ {v : V} {d : D} {p : PyData}, Rv g F v d → toPy d = some p → Dp g.K H v p
  | _, .non, _, r, e => by cases r; cases e; exact .non
  | _, .bl b, _, r, e => by cases r; cases e; exact .bl b
  | _, .int b, _, r, e => by cases r; cases e; exact .int b
  | _, .str b, _, r, e => by cases r; cases e; exact .str b
  | _, .lst xs, _, r, e => by
    cases r with
    | lst h q =>
      unfold toPy at e
      cases z : toPys xs with
      | none => rw [z] at e; cases e
      | some ps => rw [z] at e; cases e; exact .lst (sqL_of (l _ _ h)) (Rl.dp l q z)
  | _, .tup xs, _, r, e => by
    cases r with
    | tup h _ q =>
      unfold toPy at e
      cases z : toPys xs with
      | none => rw [z] at e; cases e
      | some ps => rw [z] at e; cases e; exact .tup (sqT_mono l h) (Rl.dp l q z)
  | _, .ins _ _ _, _, r, e => by cases e
  | _, .scr _, _, r, e => by cases e
theorem Rl.dp {g : G} {F H : Hp} (l : Same F H) : ∀ {vs : List V} {ds : List D} {ps : List PyData}, Rl g F vs ds → toPys ds = some ps → DpAll g.K H vs ps
  | _, [], _, r, e => by cases r; cases e; exact .nil
  | _, d :: ds, _, r, e => by
    cases r with
    | cons a b =>
      unfold toPys at e
      cases z : toPy d with
      | none => rw [z] at e; cases e
      | some p =>
        cases z2 : toPys ds with
        | none => rw [z, z2] at e; cases e
        | some ps => rw [z, z2] at e; cases e; exact .cons (Rv.dp l a z) (Rl.dp l b z2)
end
theorem Br.dp {g : G} {F H : Hp} (l : Same F H) {v : V} {d : D} {p : PyData} (r : Br g F H v d) (e : toPy d = some p) : Dp g.K H v p := by
  rcases r with r | ⟨a, vs, ds, rfl, rfl, h, q⟩
  · exact r.dp l e
  · unfold toPy at e
    cases z : toPys ds with
    | none => rw [z] at e; cases e
    | some ps => rw [z] at e; cases e; exact .lst (sqL_of h) (Rl.dp l q z)
theorem Br.lst {g : G} {F H : Hp} (l : Same F H) {v : V} {ds : List D} (r : Br g F H v (.lst ds)) : ∃ a vs, v = .ref a ∧ H a = some (.lst vs) ∧ Rl g F vs ds := by
  rcases r with r | ⟨a, vs, ds', rfl, e, h, q⟩
  · cases r with
    | lst h q => exact ⟨_, _, rfl, l _ _ h, q⟩
  · cases e; exact ⟨a, vs, rfl, h, q⟩
theorem Br.tup {g : G} {F H : Hp} (l : Same F H) {v : V} {ds : List D} (r : Br g F H v (.tup ds)) : ∃ a vs, v = .ref a ∧ SqT g.K H a vs ∧ Rl g F vs ds := by
  rcases r with r | ⟨a, vs, ds', rfl, e, h, q⟩
  · cases r with
    | tup h _ q => exact ⟨_, _, rfl, sqT_mono l h, q⟩
  · cases e
theorem Br.int {g : G} {F H : Hp} {v : V} {i : Int} (r : Br g F H v (.int i)) : v = .int i := by
  rcases r with r | ⟨a, vs, ds', rfl, e, h, q⟩
  · cases r; rfl
  · cases e
theorem Br.bl {g : G} {F H : Hp} {v : V} {i : Bool} (r : Br g F H v (.bl i)) : v = .bl i := by
  rcases r with r | ⟨a, vs, ds', rfl, e, h, q⟩
  · cases r; rfl
  · cases e
theorem Br.str {g : G} {F H : Hp} {v : V} {i : Str} (r : Br g F H v (.str i)) : v = .str i := by
  rcases r with r | ⟨a, vs, ds', rfl, e, h, q⟩
  · cases r; rfl
  · cases e
theorem Br.non {g : G} {F H : Hp} {v : V} (r : Br g F H v .non) : v = .non := by
  rcases r with r | ⟨a, vs, ds', rfl, e, h, q⟩
  · cases r; rfl
  · cases e
def VO1 (g : G) (r : V → Hp → VK → Prop) (op : D → Option D) : Prop := ∀ (H F : Hp) (v : V) (d z : D), Same F H → Br g F H v d → op d = some z → ∀ Q : VK, (∀ v' H' F', Grow H F H' F' → Rv g F' v' z → Q v' H') → r v H Q
def VO2 (g : G) (r : R2) (op : D → D → Option D) : Prop := ∀ (H F : Hp) (v u : V) (d e z : D), Same F H → Br g F H v d → Br g F H u e → op d e = some z → ∀ Q : VK, (∀ v' H' F', Grow H F H' F' → Rv g F' v' z → Q v' H') → r v u H Q
def VOC (g : G) (r : List V → Hp → VK → Prop) (op : D → Option D) : Prop := VO1 g (fun v => r [v]) op
def VOC2 (g : G) (r : List V → Hp → VK → Prop) (op : D → D → Option D) : Prop := VO2 g (fun v u => r [v, u]) op
/-- .. that give a new list -/
def VN1 (g : G) (r : V → Hp → VK → Prop) (op : D → Option (List D)) : Prop := ∀ (H F : Hp) (v : V) (d : D) (zs : List D), Same F H → Br g F H v d → op d = some zs → ∀ Q : VK, (∀ p vs, H p = none → Rl g F vs zs → Q (.ref p) (upd H p (.lst vs))) → r v H Q
def VN2 (g : G) (r : R2) (op : D → D → Option (List D)) : Prop := ∀ (H F : Hp) (v u : V) (d e : D) (zs : List D), Same F H → Br g F H v d → Br g F H u e → op d e = some zs → ∀ Q : VK, (∀ p vs, H p = none → Rl g F vs zs → Q (.ref p) (upd H p (.lst vs))) → r v u H Q
theorem OpR.or {X : Cx} {f : Value → Value → Sem Value} {r r' : R2} (h : OpR X f r) (h' : OpR X f r') : OpR X f (fun x y H Q => r x y H Q ∨ r' x y H Q) := by
  intro pins s σ H x y v u Q I rx ry q
  rcases q with q | q
  · exact h pins s σ H x y v u Q I rx ry q
  · exact h' pins s σ H x y v u Q I rx ry q
theorem newT {g : G} {H F : Hp} {vs : List V} {ds : List D} {Q : VK} (l : Same F H) (r : Rl g F vs ds) (q : ∀ v' H' F', Grow H F H' F' → Rv g F' v' (.tup ds) → Q v' H') : NewT H Q vs := by
  cases ht : g.tk with
  | false => exact .inl fun p hp => q _ _ _ (Grow.new l hp) (.tup (.inl (.inl upd_same)) (by unfold TkP; rw [ht]; exact upd_same) (r.mono (Grow.new l hp).f))
  | true => exact .inr fun p o hp ko => q _ _ _ (Grow.new l hp) (.tup (.inl (.inr ⟨o, upd_same⟩)) (by unfold TkP; rw [ht]; exact KnT.new ko) (r.mono (Grow.new l hp).f))
section
variable {g : G}
def big : Nat := 16777216
theorem big_eq : big = sizeLine := by rw [sizeLine_eq]; rfl
@[simp] def opAdd : D → D → Option D
  | .int i, .int j => some (.int (i + j))
  | .str x, .str y => if x.length + y.length ≤ big then some (.str (x ++ y)) else none
  | .tup xs, .tup ys => if xs.length + ys.length ≤ big then some (.tup (xs ++ ys)) else none
  | .lst xs, .lst ys => if xs.length + ys.length ≤ big then some (.lst (xs ++ ys)) else none
  | _, _ => none
def rAddD (K : PySem.W.Frag) : R2 := fun x y H Q => rI0 (fun i j => .int (i + j)) x y H Q ∨ (∃ i j, x = .str i ∧ y = .str j ∧ i.length + j.length ≤ sizeLine ∧ Q (.str (i ++ j)) H) ∨ rCatN K x y H Q ∨ rCat x y H Q
theorem op_addD {X : Cx} : OpR X (binaryOp .Add) (rAddD X.K) := op_add.or (op_add_str.or (op_catN.or op_cat))
theorem vo_add : VO2 g (rAddD g.K) opAdd := by
  intro H F v u d e z l rd re h Q q
  unfold opAdd at h
  split at h
  · cases h; cases rd.int; cases re.int
    exact .inl ⟨_, _, rfl, rfl, q _ _ _ (Grow.refl l) (.int _)⟩
  · split at h
    · rename_i hl
      cases h; cases rd.str; cases re.str
      exact .inr (.inl ⟨_, _, rfl, rfl, by rw [← big_eq]; exact hl, q _ _ _ (Grow.refl l) (.str _)⟩)
    · cases h
  · split at h
    · rename_i xs ys hl
      cases h
      obtain ⟨a, vs, rfl, h1, r1⟩ := rd.tup l
      obtain ⟨b, ws, rfl, h2, r2⟩ := re.tup l
      refine .inr (.inr (.inl ?_))
      refine ⟨a, b, vs, ws, rfl, rfl, h1, h2, by rw [r1.length, r2.length, ← big_eq]; exact hl, fun e => ?_, fun _ e => ?_, fun _ _ => newT l (r1.append r2) q⟩
      · subst e
        cases r1
        rcases re with re | ⟨_, _, _, _, e, _⟩
        · exact q _ _ _ (Grow.refl l) re
        · cases e
      · subst e
        cases r2
        rw [List.append_nil] at q
        rcases rd with rd | ⟨_, _, _, _, e, _⟩
        · exact q _ _ _ (Grow.refl l) rd
        · cases e
    · cases h
  · split at h
    · rename_i xs ys hl
      cases h
      obtain ⟨a, vs, rfl, h1, r1⟩ := rd.lst l
      obtain ⟨b, ws, rfl, h2, r2⟩ := re.lst l
      exact .inr (.inr (.inr ⟨a, b, vs, ws, rfl, rfl, h1, h2, by rw [r1.length, r2.length, ← big_eq]; exact hl, fun p hp => q _ _ _ (Grow.new l hp) (.lst upd_same ((r1.append r2).mono (Grow.new l hp).f))⟩))
    · cases h
  · cases h
@[simp] def nAdd : D → D → Option (List D)
  | .lst xs, .lst ys => if xs.length + ys.length ≤ big then some (xs ++ ys) else none
  | _, _ => none
theorem vn_add : VN2 g (rAddD g.K) nAdd := by
  intro H F v u d e z l rd re h Q q
  unfold nAdd at h
  split at h
  · split at h
    · rename_i xs ys hl
      cases h
      obtain ⟨a, vs, rfl, h1, r1⟩ := rd.lst l
      obtain ⟨b, ws, rfl, h2, r2⟩ := re.lst l
      exact .inr (.inr (.inr ⟨a, b, vs, ws, rfl, rfl, h1, h2, by rw [r1.length, r2.length, ← big_eq]; exact hl, fun p hp => q _ _ hp (r1.append r2)⟩))
    · cases h
  · cases h
@[simp] def opSub : D → D → Option D
  | .int i, .int j => some (.int (i - j))
  | _, _ => none
theorem vo_sub : VO2 g (rI0 fun i j => .int (i - j)) opSub := by
  intro H F v u d e z l rd re h Q q
  unfold opSub at h
  split at h
  · cases h; cases rd.int; cases re.int
    exact ⟨_, _, rfl, rfl, q _ _ _ (Grow.refl l) (.int _)⟩
  · cases h
def smallI (i : Int) : Bool := decide (i.natAbs < 18446744073709551616)
theorem small_of {i : Int} (h : smallI i = true) : -(2 ^ 64) < i ∧ i < 2 ^ 64 := by
  have : i.natAbs < 18446744073709551616 := of_decide_eq_true h
  omega
@[simp] def opMul : D → D → Option D
  | .int i, .int j => if smallI i || smallI j then some (.int (i * j)) else none
  | .lst xs, .int k => if xs.length * k.toNat ≤ big ∧ smallI (k * 4) = true ∧ k.natAbs < 9223372036854775808 then some (.lst (List.replicate k.toNat xs).flatten) else none
  | _, _ => none
def rMulD : R2 := fun x y H Q => rI CMul (fun i j => .int (i * j)) x y H Q ∨ rRep x y H Q
theorem op_mulD {X : Cx} : OpR X (binaryOp .Mult) rMulD := op_mul.or op_rep
theorem vo_mul : VO2 g rMulD opMul := by
  intro H F v u d e z l rd re h Q q
  unfold opMul at h
  split at h
  · split at h
    · rename_i hc
      cases h; cases rd.int; cases re.int
      refine .inl ⟨_, _, rfl, rfl, ?_, q _ _ _ (Grow.refl l) (.int _)⟩
      rcases Bool.or_eq_true_iff.mp hc with c | c
      · exact .inl (small_of c)
      · exact .inr (small_of c)
    · cases h
  · split at h
    · rename_i xs k hl
      cases h
      obtain ⟨a, vs, rfl, h1, r1⟩ := rd.lst l
      cases re.int
      obtain ⟨hl1, hl2, hl3⟩ := hl
      exact .inr ⟨a, k, vs, rfl, rfl, h1, by omega, by omega, by rw [r1.length, ← big_eq]; exact hl1, fun p hp => q _ _ _ (Grow.new l hp) (.lst upd_same ((r1.rep k.toNat).mono (Grow.new l hp).f))⟩
    · cases h
  · cases h
@[simp] def nMul : D → D → Option (List D)
  | .lst xs, .int k => if xs.length * k.toNat ≤ big ∧ k.natAbs < 9223372036854775808 then some (List.replicate k.toNat xs).flatten else none
  | _, _ => none
theorem vn_mul : VN2 g rMulD nMul := by
  intro H F v u d e z l rd re h Q q
  unfold nMul at h
  split at h
  · split at h
    · rename_i xs k hl
      cases h
      obtain ⟨a, vs, rfl, h1, r1⟩ := rd.lst l
      cases re.int
      obtain ⟨hl1, hl3⟩ := hl
      exact .inr ⟨a, k, vs, rfl, rfl, h1, by omega, by omega, by rw [r1.length, ← big_eq]; exact hl1, fun p hp => q _ _ hp (r1.rep k.toNat)⟩
    · cases h
  · cases h
@[simp] def opDiv : D → D → Option D
  | .int i, .int j => if j ≠ 0 ∧ j.natAbs < 1073741824 then some (.int (i.fdiv j)) else none
  | _, _ => none
theorem vo_div : VO2 g (rI CDivN fun i j => .int (i.fdiv j)) opDiv := by
  intro H F v u d e z l rd re h Q q
  unfold opDiv at h
  split at h
  · split at h
    · rename_i hc
      cases h; cases rd.int; cases re.int
      exact ⟨_, _, rfl, rfl, hc, q _ _ _ (Grow.refl l) (.int _)⟩
    · cases h
  · cases h
@[simp] def opMod : D → D → Option D
  | .int i, .int j => if j ≠ 0 then some (.int (i.fmod j)) else none
  | _, _ => none
theorem vo_mod : VO2 g (rI (fun _ j => j ≠ 0) fun i j => .int (i.fmod j)) opMod := by
  intro H F v u d e z l rd re h Q q
  unfold opMod at h
  split at h
  · split at h
    · rename_i hc
      cases h; cases rd.int; cases re.int
      exact ⟨_, _, rfl, rfl, hc, q _ _ _ (Grow.refl l) (.int _)⟩
    · cases h
  · cases h
@[simp] def opNeg : D → Option D
  | .int i => some (.int (-i))
  | _ => none
theorem vo_neg : VO1 g (rU fun i => .int (-i)) opNeg := by
  intro H F v d z l rd h Q q
  unfold opNeg at h
  split at h
  · cases h; cases rd.int
    exact ⟨_, rfl, q _ _ _ (Grow.refl l) (.int _)⟩
  · cases h
@[simp] def cmpI (p : Int → Int → Bool) : D → D → Option D
  | .int i, .int j => some (.bl (p i j))
  | _, _ => none
theorem vo_cmpI (p : Int → Int → Bool) : VO2 g (rI0 fun i j => .bl (p i j)) (cmpI p) := by
  intro H F v u d e z l rd re h Q q
  unfold cmpI at h
  split at h
  · cases h; cases rd.int; cases re.int
    exact ⟨_, _, rfl, rfl, q _ _ _ (Grow.refl l) (.bl _)⟩
  · cases h
@[simp] def opLt : D → D → Option D := cmpI fun i j => decide (i < j)
@[simp] def opLe : D → D → Option D := cmpI fun i j => decide (i ≤ j)
@[simp] def opGt : D → D → Option D := cmpI fun i j => decide (j < i)
@[simp] def opGe : D → D → Option D := cmpI fun i j => decide (j ≤ i)
def eqD (x y : D) : Option Bool := match toPy x, toPy y with
  | some p, some q => if SeqAt.shaped p && SeqAt.shaped q then some (PyData.eqv p q) else none
  | _, _ => none
@[simp] def opEq (x y : D) : Option D := match eqD x y with | some b => some (.bl b) | none => none
@[simp] def opNe (x y : D) : Option D := match eqD x y with | some b => some (.bl (!b)) | none => none
theorem eqD_some {x y : D} {b : Bool} (h : eqD x y = some b) : ∃ p q, toPy x = some p ∧ toPy y = some q ∧ SeqAt.shaped p = true ∧ SeqAt.shaped q = true ∧ b = PyData.eqv p q := by
  unfold eqD at h
  split at h
  · rename_i p q e1 e2
    split at h
    · rename_i hs
      cases h
      obtain ⟨h1, h2⟩ := Bool.and_eq_true_iff.mp hs
      exact ⟨p, q, e1, e2, h1, h2, rfl⟩
    · cases h
  · cases h
theorem vo_eq : VO2 g (rEqD g.K) opEq := by
  intro H F v u d e z l rd re h Q q
  unfold opEq at h
  split at h
  · rename_i b hb
    cases h
    obtain ⟨p, r, e1, e2, s1, s2, rfl⟩ := eqD_some hb
    exact ⟨p, r, rd.dp l e1, re.dp l e2, s1, s2, q _ _ _ (Grow.refl l) (.bl _)⟩
  · cases h
theorem vo_ne : VO2 g (rNeD g.K) opNe := by
  intro H F v u d e z l rd re h Q q
  unfold opNe at h
  split at h
  · rename_i b hb
    cases h
    obtain ⟨p, r, e1, e2, s1, s2, rfl⟩ := eqD_some hb
    exact ⟨p, r, rd.dp l e1, re.dp l e2, s1, s2, q _ _ _ (Grow.refl l) (.bl _)⟩
  · cases h
/-- is, is not: None and truth values -/
@[simp] def isD : D → D → Option Bool
  | .bl a, .bl b => some (decide (a = b))
  | d, .non => some (match d with | .non => true | _ => false)
  | _, _ => none
@[simp] def opIs (x y : D) : Option D := match isD x y with | some b => some (.bl b) | none => none
@[simp] def opIsNot (x y : D) : Option D := match isD x y with | some b => some (.bl (!b)) | none => none
def rIsD : R2 := fun x y H Q => (y = .non ∧ Q (.bl (decide (x = .non))) H) ∨ rIsB x y H Q
def rIsNotD : R2 := fun x y H Q => (y = .non ∧ Q (.bl (!decide (x = .non))) H) ∨ rNotB x y H Q
theorem op_isD {X : Cx} : OpR X (compareOp .Is) rIsD := op_isN.or op_isBl
theorem op_isNotD {X : Cx} : OpR X (compareOp .IsNot) rIsNotD := op_notN.or op_notBl
theorem isD_cases {H F : Hp} {v u : V} {d e : D} {b : Bool} (l : Same F H) (rd : Br g F H v d) (re : Br g F H u e) (h : isD d e = some b) : (u = .non ∧ b = decide (v = .non)) ∨ ∃ x y, v = .bl x ∧ u = .bl y ∧ b = decide (x = y) := by
  unfold isD at h
  split at h
  · cases h; cases rd.bl; cases re.bl
    exact .inr ⟨_, _, rfl, rfl, rfl⟩
  · cases h; cases re.non
    refine .inl ⟨rfl, ?_⟩
    rcases rd with rd | ⟨a, vs, ds, rfl, rfl, _⟩
    · cases rd <;> rfl
    · rfl
  · cases h
theorem vo_is : VO2 g rIsD opIs := by
  intro H F v u d e z l rd re h Q q
  unfold opIs at h
  split at h
  · rename_i b hb
    cases h
    rcases isD_cases l rd re hb with ⟨rfl, rfl⟩ | ⟨x, y, rfl, rfl, rfl⟩
    · exact .inl ⟨rfl, q _ _ _ (Grow.refl l) (.bl _)⟩
    · exact .inr ⟨x, y, rfl, rfl, q _ _ _ (Grow.refl l) (.bl _)⟩
  · cases h
theorem vo_isnot : VO2 g rIsNotD opIsNot := by
  intro H F v u d e z l rd re h Q q
  unfold opIsNot at h
  split at h
  · rename_i b hb
    cases h
    rcases isD_cases l rd re hb with ⟨rfl, rfl⟩ | ⟨x, y, rfl, rfl, rfl⟩
    · exact .inl ⟨rfl, q _ _ _ (Grow.refl l) (.bl _)⟩
    · exact .inr ⟨x, y, rfl, rfl, q _ _ _ (Grow.refl l) (.bl _)⟩
  · cases h
def flatD : D → Bool
  | .non | .bl _ | .int _ | .str _ => true
  | _ => false
def eqF : D → D → Bool
  | .non, .non => true
  | .bl a, .bl b => a == b
  | .bl a, .int b => (if a then 1 else 0) == b
  | .int a, .bl b => a == (if b then 1 else 0)
  | .int a, .int b => a == b
  | .str a, .str b => a == b
  | _, _ => false
theorem flat_rv {F : Hp} {v : V} {d : D} (r : Rv g F v d) (h : flatD d = true) : flatV v = true := by
  cases r <;> first | rfl | cases h
theorem eqF_rv {F : Hp} {v u : V} {d e : D} (r : Rv g F v d) (s : Rv g F u e) (h : flatD d = true) (h2 : flatD e = true) : eqV v u = eqF d e := by
  cases r <;> first | (cases s <;> first | rfl | cases h2) | cases h
theorem all_flat {F : Hp} : ∀ {vs : List V} {ds : List D}, Rl g F vs ds → ds.all flatD = true → vs.all flatV = true
  | _, _, .nil, _ => rfl
  | _, _, .cons r t, h => by
    rw [List.all_cons, Bool.and_eq_true] at h
    rw [List.all_cons, flat_rv r h.1, all_flat t h.2]; rfl
theorem any_eqF {F : Hp} {u : V} {e : D} (s : Rv g F u e) (h2 : flatD e = true) : ∀ {vs : List V} {ds : List D}, Rl g F vs ds → ds.all flatD = true → vs.any (fun y => eqV y u) = ds.any fun y => eqF y e
  | _, _, .nil, _ => rfl
  | _, _, .cons r t, h => by
    rw [List.all_cons, Bool.and_eq_true] at h
    rw [List.any_cons, List.any_cons, eqF_rv r s h.1 h2, any_eqF s h2 t h.2]
def inD (x y : D) : Option Bool := match y with
  | .lst ys => if flatD x && ys.all flatD then some (ys.any fun y => eqF y x) else
      match toPy x, toPys ys with
      | some p, some qs => if SeqAt.shaped p && SeqAt.shaped (.list qs) then some (qs.any fun z => PyData.eqv z p) else none
      | _, _ => none
  | .tup ys => if flatD x && ys.all flatD then some (ys.any fun y => eqF y x) else
      match toPy x, toPys ys with
      | some p, some qs => if SeqAt.shaped p && SeqAt.shaped (.tuple qs) then some (qs.any fun z => PyData.eqv z p) else none
      | _, _ => none
  | .str t => match x with | .str s => some (!(Builtin.Str.occurrences t s 0 t.length 1).isEmpty) | _ => none
  | _ => none
@[simp] def opIn (x y : D) : Option D := match inD x y with | some b => some (.bl b) | none => none
@[simp] def opNotIn (x y : D) : Option D := match inD x y with | some b => some (.bl (!b)) | none => none
def rNotInT (K : PySem.W.Frag) : R2 := fun x y H Q => ∃ d ds, Dp K H x d ∧ Dp K H y (.tuple ds) ∧ SeqAt.shaped d = true ∧ SeqAt.shaped (.tuple ds) = true ∧ Q (.bl (!(ds.any fun z => PyData.eqv z d))) H
theorem op_notInT {X : Cx} (hu : X.A.units + 65 < cLine) : OpR X (compareOp .NotIn) (rNotInT X.K) := by
  intro pins s σ H x y v u Q I rx ry hw
  obtain ⟨d, ds, hd, he, sd, se, q⟩ := hw
  obtain ⟨as, r1⟩ := Dp.reads I d x v hd rx
  obtain ⟨bs, r2⟩ := Dp.reads I (.tuple ds) y u he ry
  exact SeqAt.notIn_tuple_reads r2 r1 (SeqAt.canLay_of_shaped se) (SeqAt.canLay_of_shaped sd) (room_in_shaped sd hu) ⟨.bl _, H, I, rfl, q⟩
def rNotInA (K : PySem.W.Frag) : R2 := fun x y H Q => rIn K true x y H Q ∨ rNotInD K x y H Q ∨ rNotInT K x y H Q ∨ ∃ i j, x = .str i ∧ y = .str j ∧ Q (.bl (!(!(Builtin.Str.occurrences j i 0 j.length 1).isEmpty))) H
theorem op_notInA {X : Cx} (hu : X.A.units + 65 < cLine) : OpR X (compareOp .NotIn) (rNotInA X.K) := op_notIn_seq.or ((op_notInD hu).or ((op_notInT hu).or op_notIn_str))
theorem Br.flat {F H : Hp} {v : V} {d : D} (r : Br g F H v d) (h : flatD d = true) : Rv g F v d := by
  rcases r with r | ⟨_, _, _, _, rfl, _⟩
  · exact r
  · cases h
theorem inD_cases {H F : Hp} {v u : V} {d e : D} {b : Bool} (l : Same F H) (rd : Br g F H v d) (re : Br g F H u e) (h : inD d e = some b) :
    (∃ p xs, u = .ref p ∧ (SqL g.K H p xs ∨ SqT g.K H p xs) ∧ flatV v = true ∧ xs.all flatV = true ∧ inV v xs = b) ∨
    (∃ d ds, Dp g.K H v d ∧ Dp g.K H u (.list ds) ∧ SeqAt.shaped d = true ∧ SeqAt.shaped (.list ds) = true ∧ (ds.any fun z => PyData.eqv z d) = b) ∨
    (∃ d ds, Dp g.K H v d ∧ Dp g.K H u (.tuple ds) ∧ SeqAt.shaped d = true ∧ SeqAt.shaped (.tuple ds) = true ∧ (ds.any fun z => PyData.eqv z d) = b) ∨
    ∃ i j, v = .str i ∧ u = .str j ∧ (!(Builtin.Str.occurrences j i 0 j.length 1).isEmpty) = b := by
  unfold inD at h
  split at h
  · rename_i ys
    split at h
    · rename_i hf
      cases h
      obtain ⟨f1, f2⟩ := Bool.and_eq_true_iff.mp hf
      obtain ⟨a, vs, rfl, h1, r1⟩ := re.lst l
      exact .inl ⟨a, vs, rfl, .inl (sqL_of h1), flat_rv (rd.flat f1) f1, all_flat r1 f2, any_eqF (rd.flat f1) f1 r1 f2⟩
    · split at h
      · rename_i p qs e1 e2
        split at h
        · rename_i hs
          cases h
          obtain ⟨h1, h2⟩ := Bool.and_eq_true_iff.mp hs
          exact .inr (.inl ⟨p, qs, rd.dp l e1, re.dp l (by unfold toPy; rw [e2]), h1, h2, rfl⟩)
        · cases h
      · cases h
  · rename_i ys
    split at h
    · rename_i hf
      cases h
      obtain ⟨f1, f2⟩ := Bool.and_eq_true_iff.mp hf
      obtain ⟨a, vs, rfl, h1, r1⟩ := re.tup l
      exact .inl ⟨a, vs, rfl, .inr h1, flat_rv (rd.flat f1) f1, all_flat r1 f2, any_eqF (rd.flat f1) f1 r1 f2⟩
    · split at h
      · rename_i p qs e1 e2
        split at h
        · rename_i hs
          cases h
          obtain ⟨h1, h2⟩ := Bool.and_eq_true_iff.mp hs
          exact .inr (.inr (.inl ⟨p, qs, rd.dp l e1, re.dp l (by unfold toPy; rw [e2]), h1, h2, rfl⟩))
        · cases h
      · cases h
  · split at h
    · cases h
      exact .inr (.inr (.inr ⟨_, _, rd.str, re.str, rfl⟩))
    · cases h
  · cases h
theorem vo_notin : VO2 g (rNotInA g.K) opNotIn := by
  intro H F v u d e z l rd re h Q q
  unfold opNotIn at h
  split at h
  · rename_i b hb
    cases h
    rcases inD_cases l rd re hb with ⟨p, xs, e1, e2, e3, e4, rfl⟩ | ⟨p, ds, e1, e2, e3, e4, rfl⟩ | ⟨p, ds, e1, e2, e3, e4, rfl⟩ | ⟨i, j, e1, e2, rfl⟩
    · exact .inl ⟨p, xs, e1, e2, e3, e4, q _ _ _ (Grow.refl l) (.bl _)⟩
    · exact .inr (.inl ⟨p, ds, e1, e2, e3, e4, q _ _ _ (Grow.refl l) (.bl _)⟩)
    · exact .inr (.inr (.inl ⟨p, ds, e1, e2, e3, e4, q _ _ _ (Grow.refl l) (.bl _)⟩))
    · exact .inr (.inr (.inr ⟨i, j, e1, e2, q _ _ _ (Grow.refl l) (.bl _)⟩))
  · cases h
@[simp] def opIx : D → D → Option D
  | .lst xs, .int i => atI xs i
  | .tup xs, .int i => atI xs i
  | .str z, .int i => if z.length ≤ big then match atI z.cps.toList i with | some c => some (.str ⟨#[c]⟩) | none => none else none
  | _, _ => none
theorem atI_rl {F : Hp} {vs : List V} {ds : List D} {i : Int} {z : D} (r : Rl g F vs ds) (h : atI ds i = some z) : ∃ v, atI vs i = some v ∧ Rv g F v z := by
  unfold atI at h ⊢
  rw [r.length]
  cases e : ixN ds.length i with
  | none => rw [e] at h; cases h
  | some j =>
    rw [e] at h
    obtain ⟨v, h1, h2⟩ := r.get (show ds[j]? = some z from h)
    exact ⟨v, h1, h2⟩
theorem vo_ix : VO2 g (rIx g.K) opIx := by
  intro H F v u d e z l rd re h Q q
  unfold opIx at h
  split at h
  · cases re.int
    obtain ⟨a, vs, rfl, h1, r1⟩ := rd.lst l
    obtain ⟨w, h2, r2⟩ := atI_rl r1 h
    exact .inl ⟨a, vs, _, w, rfl, rfl, sqL_of h1, h2, q _ _ _ (Grow.refl l) r2⟩
  · cases re.int
    obtain ⟨a, vs, rfl, h1, r1⟩ := rd.tup l
    obtain ⟨w, h2, r2⟩ := atI_rl r1 h
    exact .inr (.inl ⟨a, vs, _, w, rfl, rfl, h1, h2, q _ _ _ (Grow.refl l) r2⟩)
  · split at h
    · rename_i hz
      split at h
      · rename_i c hc
        cases h; cases re.int; cases rd.str
        exact .inr (.inr ⟨_, _, c, rfl, rfl, by rw [← big_eq]; exact hz, hc, q _ _ _ (Grow.refl l) (.str _)⟩)
      · cases h
    · cases h
  · cases h
@[simp] def opLen : D → Option D
  | .lst xs => some (.int xs.length)
  | .tup xs => some (.int xs.length)
  | .str z => if z.length ≤ big then some (.int z.length) else none
  | _ => none
def rLenD (K : PySem.W.Frag) : List V → Hp → VK → Prop := fun xs H Q => (∃ p ys, xs = [.ref p] ∧ (SqL K H p ys ∨ SqT K H p ys) ∧ Q (.int ys.length) H) ∨ ∃ z, xs = [.str z] ∧ z.length ≤ sizeLine ∧ Q (.int z.length) H
theorem call_lenD {X : Cx} : CallR X (.builtin "len") (rLenD X.K) := call_len_seq.or call_len_str
theorem vo_len : VOC g (rLenD g.K) opLen := by
  intro H F v d z l rd h Q q
  unfold opLen at h
  split at h
  · cases h
    obtain ⟨a, vs, rfl, h1, r1⟩ := rd.lst l
    exact .inl ⟨a, vs, rfl, .inl (sqL_of h1), by rw [r1.length]; exact q _ _ _ (Grow.refl l) (.int _)⟩
  · cases h
    obtain ⟨a, vs, rfl, h1, r1⟩ := rd.tup l
    exact .inl ⟨a, vs, rfl, .inr h1, by rw [r1.length]; exact q _ _ _ (Grow.refl l) (.int _)⟩
  · split at h
    · rename_i hz
      cases h; cases rd.str
      exact .inr ⟨_, rfl, by rw [← big_eq]; exact hz, q _ _ _ (Grow.refl l) (.int _)⟩
    · cases h
  · cases h
@[simp] def opAbs : D → Option D
  | .int i => some (.int (if i < 0 then -i else i))
  | _ => none
theorem vo_abs : VOC g (fun xs H Q => ∃ i, xs = [.int i] ∧ Q (.int (if i < 0 then -i else i)) H) opAbs := by
  intro H F v d z l rd h Q q
  unfold opAbs at h
  split at h
  · cases h; cases rd.int; exact ⟨_, rfl, q _ _ _ (Grow.refl l) (.int _)⟩
  · cases h
@[simp] def opMax2 : D → D → Option D
  | .int i, .int j => some (.int (if j > i then j else i))
  | _, _ => none
@[simp] def opMin2 : D → D → Option D
  | .int i, .int j => some (.int (if j < i then j else i))
  | _, _ => none
theorem vo_min2 : VOC2 g (fun xs H Q => ∃ i j, xs = [.int i, .int j] ∧ Q (.int (if j < i then j else i)) H) opMin2 := by
  intro H F v u d e z l rd re h Q q
  unfold opMin2 at h
  split at h
  · cases h; cases rd.int; cases re.int; exact ⟨_, _, rfl, q _ _ _ (Grow.refl l) (.int _)⟩
  · cases h
@[simp] def opInt : D → Option D
  | .int i => some (.int i)
  | .bl b => some (.int (if b then 1 else 0))
  | _ => none
theorem vo_int : VOC g (fun xs H Q => (∃ i, xs = [.int i] ∧ Q (.int i) H) ∨ ∃ k, xs = [.bl k] ∧ Q (.int (if k then 1 else 0)) H) opInt := by
  intro H F v d z l rd h Q q
  unfold opInt at h
  split at h
  · cases h; cases rd.int; exact .inl ⟨_, rfl, q _ _ _ (Grow.refl l) (.int _)⟩
  · cases h; cases rd.bl; exact .inr ⟨_, rfl, q _ _ _ (Grow.refl l) (.int _)⟩
  · cases h
@[simp] def opStr : D → Option D
  | .int i => if i.natAbs.log2 < 1920 then some (.str (toString i : String)) else none
  | _ => none
@[simp] def opTuple : D → Option D
  | .lst xs => some (.tup xs)
  | .tup xs => some (.tup xs)
  | _ => none
theorem vo_tuple : VOC g (rTupN g.K) opTuple := by
  intro H F v d z l rd h Q q
  unfold opTuple at h
  split at h
  · cases h
    obtain ⟨a, vs, rfl, h1, r1⟩ := rd.lst l
    exact ⟨a, vs, rfl, .inl ⟨sqL_of h1, newT l r1 q⟩⟩
  · cases h
    rcases rd with rd | ⟨_, _, _, _, e, _⟩
    · obtain ⟨a, vs, rfl, h1, r1⟩ := Br.tup l (.inl rd)
      exact ⟨a, vs, rfl, .inr ⟨h1, q _ _ _ (Grow.refl l) rd⟩⟩
    · cases e
  · cases h
@[simp] def nList : D → Option (List D)
  | .lst xs => some xs
  | .tup xs => some xs
  | _ => none
theorem vn_list : VN1 g (fun v => (fun xs H Q => ∃ p ys, xs = [V.ref p] ∧ (SqL g.K H p ys ∨ SqT g.K H p ys) ∧ ∀ l, H l = none → Q (.ref l) (upd H l (.lst ys))) [v]) nList := by
  intro H F v d z l rd h Q q
  unfold nList at h
  split at h
  · cases h
    obtain ⟨a, vs, rfl, h1, r1⟩ := rd.lst l
    exact ⟨a, vs, rfl, .inl (sqL_of h1), fun p hp => q _ _ hp r1⟩
  · cases h
    obtain ⟨a, vs, rfl, h1, r1⟩ := rd.tup l
    exact ⟨a, vs, rfl, .inr h1, fun p hp => q _ _ hp r1⟩
  · cases h
def intsOf : List D → Option (List Int)
  | [] => some []
  | .int i :: r => match intsOf r with | some is => some (i :: is) | none => none
  | _ :: _ => none
theorem intsOf_eq : ∀ {ds : List D} {is : List Int}, intsOf ds = some is → ds = is.map D.int
  | [], _, e => by cases e; rfl
  | .int i :: r, _, e => by
    unfold intsOf at e
    split at e
    · rename_i js hj; cases e; rw [intsOf_eq hj]; rfl
    · cases e
def blsOf : List D → Option (List Bool)
  | [] => some []
  | .bl i :: r => match blsOf r with | some is => some (i :: is) | none => none
  | _ :: _ => none
@[simp] def onInts {α : Type} (f : List Int → Option α) : D → Option α
  | .lst ds => match intsOf ds with | some is => f is | none => none
  | _ => none
@[simp] def opSum : D → Option D := onInts fun is => some (.int is.sum)
def minL : List Int → Int
  | [] => 0
  | [x] => x
  | x :: r => if x ≤ minL r then x else minL r
def maxL : List Int → Int
  | [] => 0
  | [x] => x
  | x :: r => if maxL r ≤ x then x else maxL r
@[simp] def opMin : D → Option D := onInts fun is => if is.isEmpty then none else some (.int (minL is))
@[simp] def opMax : D → Option D := onInts fun is => if is.isEmpty then none else some (.int (maxL is))
@[simp] def onBls {α : Type} (f : List Bool → Option α) : D → Option α
  | .lst ds => match blsOf ds with | some is => f is | none => none
  | _ => none
@[simp] def opAll : D → Option D := onBls fun is => some (.bl (is.all id))
@[simp] def opAny : D → Option D := onBls fun is => some (.bl (is.any id))
end
end DL
namespace DL
open PySem PySem.Spec PyProof.Rows L2
@[simp] def dVar (i : Nat) : Den D := fun st => match st[i]? with
  | some (.sh d) => .ok d st
  | some (.ow ds) => .ok (.lst ds) (st.set i (.sh (.lst ds)))
  | some (.o2 dss) => .ok (.lst (dss.map .lst)) (st.set i (.sh (.lst (dss.map .lst))))
  | _ => .stuck
@[simp] def dRd (i : Nat) : Den D := fun st => match st[i]? with
  | some (.sh d) => .ok d st
  | some (.ow ds) => .ok (.lst ds) st
  | some (.rf _ ds) => .ok (.lst ds) st
  | _ => .stuck
@[simp] def dC (d : D) : Den D := retD d
@[simp] def dOp1 (op : D → Option D) (a : Den D) : Den D := bindD a fun x => liftO (op x)
@[simp] def dOp2 (op : D → D → Option D) (a b : Den D) : Den D := bindD a fun x => bindD b fun y => liftO (op x y)
/-- first b, then the name's content -/
@[simp] def dOp2n (op : D → D → Option D) (i : Nat) (b : Den D) : Den D := bindD (dRd i) fun _ => bindD b fun y => bindD (dRd i) fun x => liftO (op x y)
@[simp] def dOp2m (op : D → D → Option D) (a : Den D) (j : Nat) : Den D := bindD a fun x => bindD (dRd j) fun y => liftO (op x y)
@[simp] def dOp1n (op : D → Option D) (i : Nat) : Den D := bindD (dRd i) fun x => liftO (op x)
@[simp] def dN1n (op : D → Option (List D)) (i : Nat) : Den (List D) := bindD (dRd i) fun x => liftO (op x)
@[simp] def dN1 (op : D → Option (List D)) (a : Den D) : Den (List D) := bindD a fun x => liftO (op x)
@[simp] def dN2 (op : D → D → Option (List D)) (a b : Den D) : Den (List D) := bindD a fun x => bindD b fun y => liftO (op x y)
@[simp] def dFrz (a : Den (List D)) : Den D := bindD a fun ds => retD (.lst ds)
@[simp] def dNil : Den (List D) := retD []
@[simp] def dCons (a : Den D) (r : Den (List D)) : Den (List D) := bindD a fun x => bindD r fun xs => retD (x :: xs)
@[simp] def dTup (a : Den (List D)) : Den D := bindD a fun ds => liftO (if ds.length ≤ big then some (.tup ds) else none)
@[simp] def dLst (a : Den (List D)) : Den (List D) := bindD a fun ds => liftO (if ds.length ≤ big then some ds else none)
@[simp] def asB : D → Option Bool
  | .bl b => some b
  | _ => none
@[simp] def dTst (a : Den D) : Den Bool := bindD a fun x => liftO (asB x)
@[simp] def dVal (a : Den Bool) : Den D := bindD a fun b => retD (.bl b)
@[simp] def dAnd (a b : Den Bool) : Den Bool := bindD a fun x => if x then b else retD false
@[simp] def dOr (a b : Den Bool) : Den Bool := bindD a fun x => if x then retD true else b
@[simp] def dNot (a : Den Bool) : Den Bool := bindD a fun x => retD (!x)
@[simp] def dIf {α : Type} (t : Den Bool) (a b : Den α) : Den α := bindD t fun x => if x then a else b
@[simp] def dChain (op op' : D → D → Option D) (a b c : Den D) : Den D := bindD a fun x => bindD b fun y => bindD (liftO (op x y)) fun z => bindD (liftO (asB z)) fun k => if k then bindD c fun w => liftO (op' y w) else retD (.bl false)
section
variable {X : Cx} {g : G} {W : WX} {e a b c : Expr} {f h k : Den D} {t u : Den Bool} {P : Par} {σ : L2.St} {H F : Hp} {st : DSt}
theorem SRc.nth (s : SR g P σ H F st) {i : Nat} {sl : Slot} (h : st[i]? = some sl) : ∃ ov, σ[i]? = some ov := by
  have := s.len
  have hi : i < st.length := by
    rcases Nat.lt_or_ge i st.length with q | q
    · exact q
    · rw [List.getElem?_eq_none q] at h; cases h
  exact ⟨σ[i], by simp [this, hi]⟩
/-- an owned list becomes data -/
theorem SR.freeze {i : Nat} {ds : List D} (s : SR g P σ H F st) (h : st[i]? = some (.ow ds)) : ∃ a F', σ[i]? = some (some (.ref a)) ∧ Same F F' ∧ Rv g F' (.ref a) (.lst ds) ∧ SR g P σ H F' (st.set i (.sh (.lst ds))) := by
  obtain ⟨ov, hov⟩ := SRc.nth s h
  obtain ⟨O, c⟩ := s
  obtain ⟨a, vs, rfl, ho, hn, ha, r⟩ := c.sl i _ _ h hov
  have fa := (c.oo a i ho).1
  have sf : Same F (upd F a (.lst vs)) := fun b o e => by
    rw [upd_ne (fun z => by subst z; rw [fa] at e; cases e)]; exact e
  have rv : Rv g (upd F a (.lst vs)) (.ref a) (.lst ds) := .lst upd_same (r.mono sf)
  refine ⟨a, upd F a (.lst vs), hov, sf, rv, fun b => if b = a then none else O b, ?_⟩
  refine ⟨fun b o e => ?_, c.rr, fun b j e => ?_, fun b n => ?_, by rw [List.length_set]; exact c.len, fun j s ov e1 e2 => ?_⟩
  · by_cases hb : b = a
    · subst hb; rw [upd_same] at e; cases e; exact ha
    · rw [upd_ne hb] at e; exact c.le _ _ e
  · by_cases hb : b = a
    · subst hb; simp at e
    · simp only [if_neg hb] at e
      rw [upd_ne hb]; exact c.oo b j e
  · have hb : b ≠ a := fun z => hn (z ▸ n)
    rw [upd_ne hb]; exact c.no b n
  · by_cases hj : j = i
    · subst hj
      have hlt : j < st.length := by
        rcases Nat.lt_or_ge j st.length with q | q
        · exact q
        · rw [List.getElem?_eq_none q] at h; cases h
      rw [List.getElem?_set_self hlt] at e1
      cases e1
      rw [hov] at e2; cases e2
      exact ⟨_, rfl, rv⟩
    · rw [List.getElem?_set_ne (Ne.symm hj)] at e1
      exact (c.sl j s ov e1 e2).move rfl (fun b o => by
        have hb : b ≠ a := fun z => hj (by rw [z, ho] at o; exact (Option.some.inj o).symm)
        simp only [if_neg hb]; exact o) sf (fun _ _ _ h => h) fun _ _ h => h
theorem Rl.of_get {F : Hp} : ∀ {vs : List V} {ds : List D}, vs.length = ds.length → (∀ (j : Nat) (v : V) (d : D), vs[j]? = some v → ds[j]? = some d → Rv g F v d) → Rl g F vs ds
  | [], [], _, _ => .nil
  | [], _ :: _, h, _ => nomatch h
  | _ :: _, [], h, _ => nomatch h
  | v :: vs, d :: ds, h, k => .cons (k 0 v d rfl rfl) (Rl.of_get (by simpa using h) fun j v d e1 e2 => k (j + 1) v d (by simpa using e1) (by simpa using e2))
theorem lt_of_get {α : Type} {l : List α} {i : Nat} {x : α} (h : l[i]? = some x) : i < l.length := (List.getElem?_eq_some_iff.mp h).1
/-- a list of lists becomes data -/
theorem SR.freeze2 {i : Nat} {dss : List (List D)} (s : SR g P σ H F st) (h : st[i]? = some (.o2 dss)) : ∃ a F', σ[i]? = some (some (.ref a)) ∧ Same F F' ∧ Rv g F' (.ref a) (.lst (dss.map .lst)) ∧ SR g P σ H F' (st.set i (.sh (.lst (dss.map .lst)))) := by
  obtain ⟨ov, hov⟩ := SRc.nth s h
  obtain ⟨O, c⟩ := s
  obtain ⟨a, bs, rfl, ho, hn, ha, nd, na, hl, hr⟩ := c.sl i _ _ h hov
  have own : ∀ x, (x = a ∨ x ∈ bs) → O x = some i ∧ ¬ P.N x := fun x hx => by
    rcases hx with rfl | hx
    · exact ⟨ho, hn⟩
    · obtain ⟨j, hj, e⟩ := List.getElem_of_mem hx
      have e1 : bs[j]? = some x := by rw [List.getElem?_eq_getElem hj, e]
      obtain ⟨o, n, _⟩ := hr j x _ e1 (List.getElem?_eq_getElem (by rw [← hl]; exact hj))
      exact ⟨o, n⟩
  let F' : Hp := fun x => if x = a ∨ x ∈ bs then H x else F x
  have fin : ∀ x, (x = a ∨ x ∈ bs) → F' x = H x := fun x hx => if_pos hx
  have fout : ∀ x, ¬ (x = a ∨ x ∈ bs) → F' x = F x := fun x hx => if_neg hx
  have sf : Same F F' := fun x o e => by
    rw [fout x fun hx => by rw [(c.oo x i (own x hx).1).1] at e; cases e]; exact e
  have rv : Rv g F' (.ref a) (.lst (dss.map .lst)) := by
    refine .lst (vs := bs.map V.ref) (by rw [fin a (.inl rfl)]; exact ha) (Rl.of_get (by simp [hl]) fun j v d e1 e2 => ?_)
    rw [List.getElem?_map] at e1 e2
    cases hb : bs[j]? with
    | none => rw [hb] at e1; cases e1
    | some b =>
      cases hd : dss[j]? with
      | none => rw [hd] at e2; cases e2
      | some ds =>
        rw [hb] at e1; rw [hd] at e2
        cases e1; cases e2
        obtain ⟨_, _, vs, h1, r1⟩ := hr j b ds hb hd
        exact .lst (by rw [fin b (.inr (List.mem_of_getElem? hb))]; exact h1) (r1.mono sf)
  refine ⟨a, F', hov, sf, rv, fun x => if x = a ∨ x ∈ bs then none else O x, ?_⟩
  refine ⟨fun x o e => ?_, c.rr, fun x j e => ?_, fun x n => ?_, by rw [List.length_set]; exact c.len, fun j s ov e1 e2 => ?_⟩
  · by_cases hx : x = a ∨ x ∈ bs
    · rw [fin x hx] at e; exact e
    · rw [fout x hx] at e; exact c.le x o e
  · by_cases hx : x = a ∨ x ∈ bs
    · simp [hx] at e
    · simp only [if_neg hx] at e
      rw [fout x hx]; exact c.oo x j e
  · have hx : ¬ (x = a ∨ x ∈ bs) := fun hx => (own x hx).2 n
    rw [fout x hx]; exact c.no x n
  · by_cases hj : j = i
    · subst hj
      rw [List.getElem?_set_self (lt_of_get h)] at e1
      cases e1
      rw [hov] at e2; cases e2
      exact ⟨_, rfl, rv⟩
    · rw [List.getElem?_set_ne (Ne.symm hj)] at e1
      exact (c.sl j s ov e1 e2).move rfl (fun x o => by
        have hx : ¬ (x = a ∨ x ∈ bs) := fun hx => hj (by rw [(own x hx).1] at o; exact (Option.some.inj o).symm)
        simp only [if_neg hx]; exact o) sf (fun _ _ _ h => h) fun _ _ h => h
theorem ev_var {i : Nat} (he : PE X e (tVar i)) : PE X e (tE g W (dVar i)) := he.imp fun σ H Q ⟨P, F, st, s, o⟩ => by
  unfold dVar at o
  split at o
  · rename_i d hd
    obtain ⟨ov, hov⟩ := SRc.nth s hd
    obtain ⟨O, c⟩ := id s
    obtain ⟨v, rfl, r⟩ := c.sl i _ _ hd hov
    exact ⟨v, hov, o H F (Same.refl _) s v r⟩
  · rename_i ds hd
    obtain ⟨a, F', h1, sf, r, s'⟩ := s.freeze hd
    exact ⟨_, h1, o H F' sf s' _ r⟩
  · rename_i dss hd
    obtain ⟨a, F', h1, sf, r, s'⟩ := s.freeze2 hd
    exact ⟨_, h1, o H F' sf s' _ r⟩
  · exact o.elim
theorem rd_at {i : Nat} {d : D} {st' : DSt} (s : SR g P σ H F st) (h : dRd i st = .ok d st') : st' = st ∧ ∃ v, σ[i]? = some (some v) ∧ Br g F H v d := by
  unfold dRd at h
  split at h
  · rename_i d hd
    cases h
    obtain ⟨ov, hov⟩ := SRc.nth s hd
    obtain ⟨O, c⟩ := id s
    obtain ⟨v, rfl, r⟩ := c.sl i _ _ hd hov
    exact ⟨rfl, v, hov, .inl r⟩
  · rename_i ds hd
    cases h
    obtain ⟨ov, hov⟩ := SRc.nth s hd
    obtain ⟨O, c⟩ := id s
    obtain ⟨a, vs, rfl, ho, hn, ha, r⟩ := c.sl i _ _ hd hov
    exact ⟨rfl, _, hov, .inr ⟨a, vs, ds, rfl, rfl, ha, r⟩⟩
  · rename_i ds hd
    cases h
    obtain ⟨ov, hov⟩ := SRc.nth s hd
    obtain ⟨O, c⟩ := id s
    obtain ⟨a, vs, rfl, ho, hn, ha, r⟩ := c.sl i _ _ hd hov
    exact ⟨rfl, _, hov, .inr ⟨a, vs, ds, rfl, rfl, ha, r⟩⟩
  · cases h
theorem rd_no {i : Nat} {c : Str} {fs : List (Str × D)} {st st' : DSt} : dRd i st ≠ .exn c fs st' := by
  unfold dRd
  split <;> exact fun h => by cases h
theorem ev_c {v : V} {d : D} (he : PE X e (tC v)) (r : ∀ F, Rv g F v d) : PE X e (tE g W (dC d)) := he.imp fun σ H Q ⟨P, F, st, s, o⟩ => o H F (Same.refl _) s v (r F)
theorem ev_int {i : Int} (he : PE X e (tC (.int i))) : PE X e (tE g W (dC (.int i))) := ev_c he fun _ => .int i
theorem ev_bl {i : Bool} (he : PE X e (tC (.bl i))) : PE X e (tE g W (dC (.bl i))) := ev_c he fun _ => .bl i
theorem ev_non (he : PE X e (tC .non)) : PE X e (tE g W (dC .non)) := ev_c he fun _ => .non
theorem ev_str {i : Str} (he : PE X e (tC (.str i))) : PE X e (tE g W (dC (.str i))) := ev_c he fun _ => .str i
/-- the end of an operation on values -/
theorem fin1 {r : V → Hp → VK → Prop} {op : D → Option D} (vo : VO1 g r op) {v : V} {x : D} {Q : VK} (s : SR g P σ H F st) (rx : Br g F H v x) (o : Out g W P σ F (liftO (op x) st) fun d _ H' F' => ∀ v, Rv g F' v d → Q v H') : r v H Q := by
  obtain ⟨z, ez, q⟩ := o.lift
  exact vo H F v x z s.le rx ez Q fun v' H' F' gr rv => q H' F' gr.f (s.grow gr) v' rv
theorem fin2 {r : R2} {op : D → D → Option D} (vo : VO2 g r op) {v u : V} {x y : D} {Q : VK} (s : SR g P σ H F st) (rx : Br g F H v x) (ry : Br g F H u y) (o : Out g W P σ F (liftO (op x y) st) fun d _ H' F' => ∀ v, Rv g F' v d → Q v H') : r v u H Q := by
  obtain ⟨z, ez, q⟩ := o.lift
  exact vo H F v u x y z s.le rx ry ez Q fun v' H' F' gr rv => q H' F' gr.f (s.grow gr) v' rv
theorem ev2 {r : R2} {op : D → D → Option D} (vo : VO2 g r op) (he : PE X e (tOp r (tE g W f) (tE g W h))) : PE X e (tE g W (dOp2 op f h)) := he.imp fun σ H Q ⟨P, F, st, s, o⟩ =>
  ⟨P, F, st, s, o.bind.imp fun x st1 H1 F1 le1 s1 o1 v rx => ⟨P, F1, st1, s1, o1.bind.imp fun y st2 H2 F2 le2 s2 o2 u ry => fin2 vo s2 (.inl (rx.mono le2)) (.inl ry) o2⟩⟩
/-- a name's content, read -/
theorem Out.rd {i : Nat} {α : Type} {kk : D → Den α} {K : α → DSt → Hp → Hp → Prop} (s : SR g P σ H F st) (o : Out g W P σ F (bindD (dRd i) kk st) K) :
    ∃ v d, σ[i]? = some (some v) ∧ Br g F H v d ∧ Out g W P σ F (kk d st) K := by
  unfold bindD at o
  cases e : dRd i st with
  | ok d st' =>
    rw [e] at o
    obtain ⟨rfl, v, h1, h2⟩ := rd_at s e
    exact ⟨v, d, h1, h2, o⟩
  | exn c fs st' => exact (rd_no e).elim
  | stuck => rw [e] at o; exact o.elim
theorem ev2n {r : R2} {i : Nat} {op : D → D → Option D} (vo : VO2 g r op) (he : PE X e (tOp r (tVar i) (tE g W h))) : PE X e (tE g W (dOp2n op i h)) := he.imp fun σ H Q ⟨P, F, st, s, o⟩ => by
  obtain ⟨v, d, hv, _, o1⟩ := o.rd s
  refine ⟨v, hv, P, F, st, s, o1.bind.imp fun y st2 H2 F2 le2 s2 o2 u ry => ?_⟩
  obtain ⟨v', d', hv', rx, o3⟩ := o2.rd s2
  rw [hv] at hv'; cases hv'
  exact fin2 vo s2 rx (.inl ry) o3
theorem ev1 {r : V → Hp → VK → Prop} {op : D → Option D} (vo : VO1 g r op) (he : PE X e (tUn r (tE g W f))) : PE X e (tE g W (dOp1 op f)) := he.imp fun σ H Q ⟨P, F, st, s, o⟩ =>
  ⟨P, F, st, s, o.bind.imp fun x st1 H1 F1 le1 s1 o1 v rx => fin1 vo s1 (.inl rx) o1⟩
theorem evc1 {r : List V → Hp → VK → Prop} {op : D → Option D} (vo : VOC g r op) (he : PE X e (tCB r (tCons (tE g W f) tNil))) : PE X e (tE g W (dOp1 op f)) := he.imp fun σ H Q ⟨P, F, st, s, o⟩ =>
  ⟨P, F, st, s, o.bind.imp fun x st1 H1 F1 le1 s1 o1 v rx => fin1 vo s1 (.inl rx) o1⟩
theorem evc1n {r : List V → Hp → VK → Prop} {i : Nat} {op : D → Option D} (vo : VOC g r op) (he : PE X e (tCB r (tCons (tVar i) tNil))) : PE X e (tE g W (dOp1n op i)) := he.imp fun σ H Q ⟨P, F, st, s, o⟩ => by
  obtain ⟨v, d, hv, rx, o1⟩ := o.rd s
  exact ⟨v, hv, fin1 vo s rx o1⟩
theorem evc2 {r : List V → Hp → VK → Prop} {op : D → D → Option D} (vo : VOC2 g r op) (he : PE X e (tCB r (tCons (tE g W f) (tCons (tE g W h) tNil)))) : PE X e (tE g W (dOp2 op f h)) := he.imp fun σ H Q ⟨P, F, st, s, o⟩ =>
  ⟨P, F, st, s, o.bind.imp fun x st1 H1 F1 le1 s1 o1 v rx => ⟨P, F1, st1, s1, o1.bind.imp fun y st2 H2 F2 le2 s2 o2 u ry => fin2 vo s2 (.inl (rx.mono le2)) (.inl ry) o2⟩⟩
theorem SR.newx {p : Addr} {o : HO} (s : SR g P σ H F st) (h : H p = none) : SRx g P σ (upd H p o) F st p := by
  obtain ⟨O, c⟩ := s
  have f0 : F p = none := by
    cases e : F p with
    | none => rfl
    | some u => rw [c.le _ _ e] at h; cases h
  have r0 : P.R p = none := by
    cases e : P.R p with
    | none => rfl
    | some u => rw [c.rr _ _ e] at h; cases h
  refine ⟨O, c.grow (Grow.new0 c.le h), ?_, f0, r0, fun n => (c.no p n).2.1 h⟩
  cases e : O p with
  | none => rfl
  | some i => exact absurd h (c.oo p i e).2.2.1
theorem SRx.sr {p : Addr} (s : SRx g P σ H F st p) : SR g P σ H F st := let ⟨O, c, _⟩ := s; ⟨O, c⟩
theorem SRx.frz {p : Addr} {vs : List V} (s : SRx g P σ H F st p) (h : H p = some (.lst vs)) : Same F (upd F p (.lst vs)) ∧ SR g P σ H (upd F p (.lst vs)) st := by
  obtain ⟨O, c, o0, f0, r0, n0⟩ := s
  have sf : Same F (upd F p (.lst vs)) := fun b o e => by
    rw [upd_ne (fun z => by subst z; rw [f0] at e; cases e)]; exact e
  refine ⟨sf, O, fun b o e => ?_, c.rr, fun b j e => ?_, fun b n => ?_, c.len, fun j s ov e1 e2 => ?_⟩
  · by_cases hb : b = p
    · subst hb; rw [upd_same] at e; cases e; exact h
    · rw [upd_ne hb] at e; exact c.le _ _ e
  · have hb : b ≠ p := fun z => by rw [z, o0] at e; cases e
    rw [upd_ne hb]; exact c.oo b j e
  · have hb : b ≠ p := fun z => n0 (z ▸ n)
    rw [upd_ne hb]; exact c.no b n
  · exact (c.sl j s ov e1 e2).move rfl (fun _ h => h) sf (fun _ _ _ h => h) fun _ _ h => h
theorem finN {r : V → Hp → VK → Prop} {op : D → Option (List D)} (vo : VN1 g r op) {v : V} {x : D} {Q : VK} (s : SR g P σ H F st) (rx : Br g F H v x) (o : OutN g W P σ F (liftO (op x) st) Q) : r v H Q := by
  cases ez : op x with
  | none => rw [ez] at o; exact o.elim
  | some zs =>
    rw [ez] at o
    exact vo H F v x zs s.le rx ez Q fun p vs hp rv => o _ F p vs (Same.refl _) (s.newx hp) upd_same rv
theorem finN2 {r : R2} {op : D → D → Option (List D)} (vo : VN2 g r op) {v u : V} {x y : D} {Q : VK} (s : SR g P σ H F st) (rx : Br g F H v x) (ry : Br g F H u y) (o : OutN g W P σ F (liftO (op x y) st) Q) : r v u H Q := by
  cases ez : op x y with
  | none => rw [ez] at o; exact o.elim
  | some zs =>
    rw [ez] at o
    exact vo H F v u x y zs s.le rx ry ez Q fun p vs hp rv => o _ F p vs (Same.refl _) (s.newx hp) upd_same rv
theorem OutN.weak {r : Res (List D)} {Q : VK} {F' : Hp} (e : Same F F') (h : OutN g W P σ F r Q) : OutN g W P σ F' r Q := by
  cases r with
  | ok a st' => exact fun H' F2 p vs e2 s => h H' F2 p vs (e.trans e2) s
  | exn c fs st' => exact fun cls dd H' F2 e2 s => h cls dd H' F2 (e.trans e2) s
  | stuck => exact h
theorem OutN.bind {α : Type} {a : Den α} {ff : α → Den (List D)} {Q : VK} (h : OutN g W P σ F (bindD a ff st) Q) : Out g W P σ F (a st) (fun x st1 _ F1 => OutN g W P σ F1 (ff x st1) Q) := by
  unfold bindD at h
  revert h
  cases a st with
  | ok x st' => exact fun h H' F' e s => OutN.weak e h
  | exn c fs st' => exact fun h => h
  | stuck => exact fun h => h
theorem OutN.rd {i : Nat} {kk : D → Den (List D)} {Q : VK} (s : SR g P σ H F st) (o : OutN g W P σ F (bindD (dRd i) kk st) Q) :
    ∃ v d, σ[i]? = some (some v) ∧ Br g F H v d ∧ OutN g W P σ F (kk d st) Q := by
  unfold bindD at o
  cases e : dRd i st with
  | ok d st' =>
    rw [e] at o
    obtain ⟨rfl, v, h1, h2⟩ := rd_at s e
    exact ⟨v, d, h1, h2, o⟩
  | exn c fs st' => exact (rd_no e).elim
  | stuck => rw [e] at o; exact o.elim
theorem evN1 {r : List V → Hp → VK → Prop} {op : D → Option (List D)} (vo : VN1 g (fun v => r [v]) op) (he : PE X e (tCB r (tCons (tE g W f) tNil))) : PE X e (tN g W (dN1 op f)) := he.imp fun σ H Q ⟨P, F, st, s, o⟩ =>
  ⟨P, F, st, s, o.bind.imp fun x st1 H1 F1 le1 s1 o1 v rx => finN vo s1 (.inl rx) o1⟩
theorem evN1n {r : List V → Hp → VK → Prop} {i : Nat} {op : D → Option (List D)} (vo : VN1 g (fun v => r [v]) op) (he : PE X e (tCB r (tCons (tVar i) tNil))) : PE X e (tN g W (dN1n op i)) := he.imp fun σ H Q ⟨P, F, st, s, o⟩ => by
  obtain ⟨v, d, hv, rx, o1⟩ := o.rd s
  exact ⟨v, hv, finN vo s rx o1⟩
theorem evN2 {r : R2} {op : D → D → Option (List D)} (vo : VN2 g r op) (he : PE X e (tOp r (tE g W f) (tE g W h))) : PE X e (tN g W (dN2 op f h)) := he.imp fun σ H Q ⟨P, F, st, s, o⟩ =>
  ⟨P, F, st, s, o.bind.imp fun x st1 H1 F1 le1 s1 o1 v rx => ⟨P, F1, st1, s1, o1.bind.imp fun y st2 H2 F2 le2 s2 o2 u ry => finN2 vo s2 (.inl (rx.mono le2)) (.inl ry) o2⟩⟩
theorem ev_frz {fn : Den (List D)} (he : PE X e (tN g W fn)) : PE X e (tE g W (dFrz fn)) := he.imp fun σ H Q ⟨P, F, st, s, o⟩ => by
  refine ⟨P, F, st, s, ?_⟩
  unfold dFrz bindD at o
  revert o
  cases fn st with
  | ok ds st' => exact fun o H' F' p vs le sx hp r => o H' (upd F' p (.lst vs)) (le.trans (sx.frz hp).1) (sx.frz hp).2 _ (.lst upd_same (r.mono (sx.frz hp).1))
  | exn c fs st' => exact fun o => o
  | stuck => exact fun o => o
theorem ea_nil (ha : PA X [] tNil) : PA X [] (tA g W dNil) := ha.imp fun σ H Q ⟨P, F, st, s, o⟩ => o H F (Same.refl _) s [] .nil
theorem ea_nil' : PA X [] (tA g W dNil) := ea_nil pa_nil
theorem ea_cons {es : List Expr} {fr : Den (List D)} (he : PE X e (tE g W f)) (hr : PA X es (tA g W fr)) (hs : starEach (e :: es) X.env = (false, eval e X.env) :: starEach es X.env := by rfl) : PA X (e :: es) (tA g W (dCons f fr)) :=
  (pa_cons he hr hs).imp fun σ H Q ⟨P, F, st, s, o⟩ => ⟨P, F, st, s, o.bind.imp fun x st1 H1 F1 le1 s1 o1 v rx => ⟨P, F1, st1, s1, o1.bind.imp fun xs st2 H2 F2 le2 s2 o2 vs rxs => o2 H2 F2 (Same.refl _) s2 _ (.cons (rx.mono le2) rxs)⟩⟩
theorem ev_tup {fr : Den (List D)} (he : PE X e (tTupN (tA g W fr))) : PE X e (tE g W (dTup fr)) := he.imp fun σ H Q ⟨P, F, st, s, o⟩ =>
  ⟨P, F, st, s, o.bind.imp fun ds st1 H1 F1 le1 s1 o1 vs rx => by
    obtain ⟨z, ez, q⟩ := o1.lift
    split at ez
    · rename_i hl
      cases ez
      exact ⟨by rw [rx.length, ← big_eq]; exact hl, newT s1.le rx fun v' H' F' gr rv => q _ _ gr.f (s1.grow gr) _ rv⟩
    · cases ez⟩
theorem evN_lst {fr : Den (List D)} (he : PE X e (tLst (tA g W fr))) : PE X e (tN g W (dLst fr)) := he.imp fun σ H Q ⟨P, F, st, s, o⟩ =>
  ⟨P, F, st, s, o.bind.imp fun ds st1 H1 F1 le1 s1 o1 vs rx => by
    unfold liftO at o1
    split at o1
    · rename_i ds' ez
      split at ez
      · rename_i hl
        cases ez
        exact ⟨by rw [rx.length, ← big_eq]; exact hl, fun p hp => o1 _ F1 p vs (Same.refl _) (s1.newx hp) upd_same rx⟩
      · cases ez
    · exact o1.elim⟩
theorem asB_some {d : D} {b : Bool} (h : asB d = some b) : d = .bl b := by
  cases d <;> cases h; rfl
theorem et_tst (he : PT X e (tB (tE g W f))) : PT X e (tT g W (dTst f)) := he.imp fun σ H Q ⟨P, F, st, s, o⟩ =>
  ⟨P, F, st, s, o.bind.imp fun x st1 H1 F1 le1 s1 o1 v rx => by
    obtain ⟨z, ez, q⟩ := o1.lift
    cases asB_some ez
    cases rx
    exact ⟨_, rfl, q H1 F1 (Same.refl _) s1⟩⟩
theorem et_not (he : PT X e (tNot (tT g W t))) : PT X e (tT g W (dNot t)) := he.imp fun σ H Q ⟨P, F, st, s, o⟩ =>
  ⟨P, F, st, s, o.bind.imp fun x st1 H1 F1 le1 s1 o1 => o1 H1 F1 (Same.refl _) s1⟩
theorem et_and (he : PW X e (tAnd (tT g W t) (tT g W u))) : PW X e (tT g W (dAnd t u)) := he.imp fun σ H Q ⟨P, F, st, s, o⟩ =>
  ⟨P, F, st, s, o.bind.imp fun x st1 H1 F1 le1 s1 o1 => by
    cases x with
    | true => exact ⟨P, F1, st1, s1, o1⟩
    | false => exact o1 H1 F1 (Same.refl _) s1⟩
theorem et_or (he : PW X e (tOr (tT g W t) (tT g W u))) : PW X e (tT g W (dOr t u)) := he.imp fun σ H Q ⟨P, F, st, s, o⟩ =>
  ⟨P, F, st, s, o.bind.imp fun x st1 H1 F1 le1 s1 o1 => by
    cases x with
    | true => exact o1 H1 F1 (Same.refl _) s1
    | false => exact ⟨P, F1, st1, s1, o1⟩⟩
/-- and, or, not as values: all parts truth values -/
theorem ev_andV (he : PE X e (tAndV (tE g W f) (tE g W h))) : PE X e (tE g W (dIf (dTst f) h (dC (.bl false)))) := he.imp fun σ H Q ⟨P, F, st, s, o⟩ =>
  ⟨P, F, st, s, o.bind.bind.imp fun x st1 H1 F1 le1 s1 o1 v rx => by
    obtain ⟨z, ez, q⟩ := o1.lift
    cases asB_some ez
    cases rx
    refine ⟨z, rfl, ?_⟩
    cases z with
    | true => exact ⟨P, F1, st1, s1, q H1 F1 (Same.refl _) s1⟩
    | false => exact q H1 F1 (Same.refl _) s1 H1 F1 (Same.refl _) s1 _ (.bl false)⟩
theorem ev_notV (he : PE X e (tNotV (tE g W f))) : PE X e (tE g W (dVal (dNot (dTst f)))) := he.imp fun σ H Q ⟨P, F, st, s, o⟩ =>
  ⟨P, F, st, s, o.bind.bind.bind.imp fun x st1 H1 F1 le1 s1 o1 v rx => by
    obtain ⟨z, ez, q⟩ := o1.lift
    cases asB_some ez
    cases rx
    exact ⟨z, rfl, q H1 F1 (Same.refl _) s1 H1 F1 (Same.refl _) s1 H1 F1 (Same.refl _) s1 _ (.bl _)⟩⟩
theorem ev_ifE {tt : Den Bool} (he : PE X e (tIf (tT g W tt) (tE g W f) (tE g W h))) : PE X e (tE g W (dIf tt f h)) := he.imp fun σ H Q ⟨P, F, st, s, o⟩ =>
  ⟨P, F, st, s, o.bind.imp fun x st1 H1 F1 le1 s1 o1 => by
    cases x with
    | true => exact ⟨P, F1, st1, s1, o1⟩
    | false => exact ⟨P, F1, st1, s1, o1⟩⟩
theorem chain_imp {r r' : R2} {op op' : D → D → Option D} (vo : VO2 g r op) (vo' : VO2 g r' op') {Q : VK} {σ : L2.St} {H : Hp} (q : tE g W (dChain op op' f h k) σ H Q) : tChain r r' (tE g W f) (tE g W h) (tE g W k) σ H Q := by
  obtain ⟨P, F, st, s, o⟩ := q
  refine ⟨P, F, st, s, o.bind.imp fun x st1 H1 F1 le1 s1 o1 v rx => ⟨P, F1, st1, s1, o1.bind.imp fun y st2 H2 F2 le2 s2 o2 u ry => ?_⟩⟩
  obtain ⟨z, ez, q2⟩ := Out.lift o2.bind
  refine vo H2 F2 v u x y z s2.le (.inl (rx.mono le2)) (.inl ry) ez _ fun v' H' F' gr rv => ?_
  have q3 := q2 H' F' gr.f (s2.grow gr)
  obtain ⟨kb, ek, q4⟩ := Out.lift q3.bind
  cases asB_some ek
  cases rv
  refine ⟨kb, rfl, ?_⟩
  have q5 := q4 H' F' (Same.refl _) (s2.grow gr)
  cases kb with
  | true => exact ⟨P, F', st2, s2.grow gr, q5.bind.imp fun w st3 H3 F3 le3 s3 o3 vw rw' => fin2 vo' s3 (.inl ((ry.mono gr.f).mono le3)) (.inl rw') o3⟩
  | false => exact q5 H' F' (Same.refl _) (s2.grow gr) _ (.bl false)
theorem ev_chain {r r' : R2} {op op' : D → D → Option D} (vo : VO2 g r op) (vo' : VO2 g r' op') (he : PE X e (tChain r r' (tE g W f) (tE g W h) (tE g W k))) : PE X e (tE g W (dChain op op' f h k)) := he.imp fun _ _ _ q => chain_imp vo vo' q
/-- a comparison as a test -/
theorem et2 {r : R2} {op : D → D → Option D} (vo : VO2 g r op) (he : PT X e (tTest (tOp r (tE g W f) (tE g W h)))) : PT X e (tT g W (dTst (dOp2 op f h))) := et_tst (he.imp fun σ H Q ⟨P, F, st, s, o⟩ =>
  ⟨P, F, st, s, o.bind.imp fun x st1 H1 F1 le1 s1 o1 v rx => ⟨P, F1, st1, s1, o1.bind.imp fun y st2 H2 F2 le2 s2 o2 u ry => fin2 vo s2 (.inl (rx.mono le2)) (.inl ry) o2⟩⟩)
theorem et2m {r : R2} {j : Nat} {op : D → D → Option D} (vo : VO2 g r op) (he : PT X e (tTest (tOp r (tE g W f) (tVar j)))) : PT X e (tT g W (dTst (dOp2m op f j))) := et_tst (he.imp fun σ H Q ⟨P, F, st, s, o⟩ =>
  ⟨P, F, st, s, o.bind.imp fun x st1 H1 F1 le1 s1 o1 v rx => by
    obtain ⟨v', d', hv', ry, o3⟩ := o1.rd s1
    exact ⟨v', hv', fin2 vo s1 (.inl rx) ry o3⟩⟩)
end
end DL
namespace DL
open PySem PySem.Spec PyProof.Rows L2
inductive Fl where
  | nx | ret (d : D) | brk | cnt
abbrev DS := Den Fl
def OutS (g : G) (W : WX) (P : Par) (F : Hp) (r : Res Fl) (E : Ends) : Prop := match r with
  | .ok fl st' => ∀ σ' H' F', Same F F' → SR g P σ' H' F' st' → match fl with
    | .nx => E.nx σ' H'
    | .brk => E.bk σ' H'
    | .cnt => E.ct σ' H'
    | .ret d => ∀ v, Rv g F' v d → E.rt v H'
  | .exn c fs st' => ∀ cls dd σ' H' F', Same F F' → SR g P σ' H' F' st' → RepX g F' H' c fs cls dd → W cls dd σ' H'
  | .stuck => False
def tS (g : G) (W : WX) (f : DS) : TS := fun D σ H => ∃ P F st, SR g P σ H F st ∧ OutS g W P F (f st) D
@[simp] def slotSet (i : Nat) (s : Slot) (st : DSt) : Option DSt := match st[i]? with
  | some _ => some (st.set i s)
  | none => none
@[simp] def sExpr (f : Den D) : DS := bindD f fun _ => retD .nx
@[simp] def sRet (f : Den D) : DS := bindD f fun d => retD (.ret d)
@[simp] def sRetN : DS := retD (.ret .non)
@[simp] def sPass : DS := retD .nx
@[simp] def sBrk : DS := retD .brk
@[simp] def sCnt : DS := retD .cnt
@[simp] def putD (i : Nat) (s : Slot) : DS := fun st => match slotSet i s st with
  | some st' => .ok .nx st'
  | none => .stuck
@[simp] def sSet (i : Nat) (f : Den D) : DS := bindD f fun d => putD i (.sh d)
@[simp] def sOwn (i : Nat) (f : Den (List D)) : DS := bindD f fun ds => putD i (.ow ds)
@[simp] def sIf (t : Den Bool) (a b : DS) : DS := bindD t fun x => if x then a else b
@[simp] def sSeq (a b : DS) : DS := fun st => match a st with
  | .ok .nx st' => b st'
  | r => r
/-- targets: one name, some names -/
inductive Tg where
  | nm (i : Nat) | nms (is : List Nat)
def Tg.is : Tg → List Nat
  | .nm i => [i]
  | .nms is => is
@[simp] def setAll : List Nat → List D → DSt → Option DSt
  | [], [], st => some st
  | i :: is, d :: ds, st => match slotSet i (.sh d) st with
    | some st' => setAll is ds st'
    | none => none
  | _, _, _ => none
@[simp] def setT (t : Tg) (d : D) (st : DSt) : Option DSt := match t with
  | .nm i => slotSet i (.sh d) st
  | .nms is => match d with
    | .tup ds => setAll is ds st
    | _ => none
def setσ : List Nat → List V → L2.St → L2.St
  | i :: is, x :: xs, σ => setσ is xs (σ.set i (some x))
  | _, _, σ => σ
def tG (g : G) (t : Tg) : TG := fun v σ H Q => ∃ P F st d, SR g P σ H F st ∧ Rv g F v d ∧ ∃ st', setT t d st = some st' ∧ ∀ xs, SR g P (setσ t.is xs σ) H F st' → Q (setσ t.is xs σ) H
def loop (t : Tg) (body : DS) : List D → DS
  | [] => retD .nx
  | d :: ds => fun st => match setT t d st with
    | none => .stuck
    | some st1 => match body st1 with
      | .ok .nx st2 => loop t body ds st2
      | .ok .cnt st2 => loop t body ds st2
      | .ok .brk st2 => .ok .nx st2
      | r => r
@[simp] def sFor (t : Tg) (fi : Den (List D)) (body : DS) : DS := bindD fi fun ds => loop t body ds
def sWhile (t : Den Bool) (body : DS) : Nat → DS
  | 0 => fun _ => .stuck
  | n + 1 => fun st => match t st with
    | .ok true st1 => match body st1 with
      | .ok .nx st2 => sWhile t body n st2
      | .ok .cnt st2 => sWhile t body n st2
      | .ok .brk st2 => .ok .nx st2
      | r => r
    | .ok false st1 => .ok .nx st1
    | .exn c fs st' => .exn c fs st'
    | .stuck => .stuck
section
variable {X : Cx} {g : G} {W : WX} {P : Par} {σ : L2.St} {H F : Hp} {st : DSt} {e : Expr} {s : Stmt} {ss : List Stmt} {f : Den D} {t : Den Bool} {a b : DS}
theorem OutS.weak {r : Res Fl} {E : Ends} {F' : Hp} (e : Same F F') (h : OutS g W P F r E) : OutS g W P F' r E := by
  cases r with
  | ok a st' => exact fun σ' H' F2 e2 s => h σ' H' F2 (e.trans e2) s
  | exn c fs st' => exact fun cls dd σ' H' F2 e2 s => h cls dd σ' H' F2 (e.trans e2) s
  | stuck => exact h
theorem OutS.bind {α : Type} {a : Den α} {k : α → DS} {E : Ends} (h : OutS g W P F (bindD a k st) E) : Out g W P σ F (a st) (fun x st1 _ F1 => OutS g W P F1 (k x st1) E) := by
  unfold bindD at h
  revert h
  cases a st with
  | ok x st' => exact fun h H' F' e s => OutS.weak e h
  | exn c fs st' => exact fun h cls dd H' F' e s => h cls dd σ H' F' e s
  | stuck => exact fun h => h
/-- a slot is stored -/
theorem slotSet_some {i : Nat} {sl : Slot} {st' : DSt} (h : slotSet i sl st = some st') : i < st.length ∧ st' = st.set i sl := by
  unfold slotSet at h
  split at h
  · rename_i x hx
    cases h
    refine ⟨?_, rfl⟩
    rcases Nat.lt_or_ge i st.length with q | q
    · exact q
    · rw [List.getElem?_eq_none q] at hx; cases hx
  · cases h
theorem SR.put {i : Nat} {v : V} {d : D} (s : SR g P σ H F st) (r : Rv g F v d) (hi : i < st.length) : SR g P (σ.set i (some v)) H F (st.set i (.sh d)) := by
  obtain ⟨O, c⟩ := s
  refine ⟨fun b => if O b = some i then none else O b, c.le, c.rr, fun b j e => ?_, c.no, by rw [List.length_set, List.length_set]; exact c.len, fun j s ov e1 e2 => ?_⟩
  · by_cases hb : O b = some i
    · simp [hb] at e
    · simp only [if_neg hb] at e; exact c.oo b j e
  · by_cases hj : j = i
    · subst hj
      rw [List.getElem?_set_self hi] at e1
      rw [List.getElem?_set_self (by rw [c.len]; exact hi)] at e2
      cases e1; cases e2
      exact ⟨v, rfl, r⟩
    · rw [List.getElem?_set_ne (Ne.symm hj)] at e1 e2
      exact (c.sl j s ov e1 e2).move rfl (fun b o => by
        show (if O b = some i then none else O b) = some j
        rw [if_neg (by rw [o]; intro z; exact hj (Option.some.inj z))]; exact o) (Same.refl _) (fun _ _ _ h => h) fun _ _ h => h
theorem SRx.own {p : Addr} {i : Nat} {vs : List V} {ds : List D} (s : SRx g P σ H F st p) (h : H p = some (.lst vs)) (r : Rl g F vs ds) (hi : i < st.length) : SR g P (σ.set i (some (.ref p))) H F (st.set i (.ow ds)) := by
  obtain ⟨O, c, o0, f0, r0, n0⟩ := s
  refine ⟨fun b => if b = p then some i else if O b = some i then none else O b, c.le, c.rr, fun b j e => ?_, c.no, by rw [List.length_set, List.length_set]; exact c.len, fun j s ov e1 e2 => ?_⟩
  · by_cases hp : b = p
    · subst hp; exact ⟨f0, r0, NT.of h⟩
    · simp only [if_neg hp] at e
      by_cases hb : O b = some i
      · simp [hb] at e
      · simp only [if_neg hb] at e; exact c.oo b j e
  · by_cases hj : j = i
    · subst hj
      rw [List.getElem?_set_self hi] at e1
      rw [List.getElem?_set_self (by rw [c.len]; exact hi)] at e2
      cases e1; cases e2
      exact ⟨p, vs, rfl, by simp, n0, h, r⟩
    · rw [List.getElem?_set_ne (Ne.symm hj)] at e1 e2
      exact (c.sl j s ov e1 e2).move rfl (fun b o => by
        have hp : b ≠ p := fun z => by rw [z, o0] at o; cases o
        simp only [if_neg hp]
        rw [if_neg (by rw [o]; intro z; exact hj (Option.some.inj z))]; exact o) (Same.refl _) (fun _ _ _ h => h) fun _ _ h => h
theorem es_expr (he : PS X s (tDrop (tE g W f))) : PS X s (tS g W (sExpr f)) := he.imp fun D σ H ⟨P, F, st, s, o⟩ =>
  ⟨P, F, st, s, o.bind.imp fun x st1 H1 F1 le1 s1 o1 v rx => o1 σ H1 F1 (Same.refl _) s1⟩
theorem es_ret (he : PS X s (tRet (tE g W f))) : PS X s (tS g W (sRet f)) := he.imp fun D σ H ⟨P, F, st, s, o⟩ =>
  ⟨P, F, st, s, o.bind.imp fun x st1 H1 F1 le1 s1 o1 v rx => o1 σ H1 F1 (Same.refl _) s1 v rx⟩
theorem es_set {i : Nat} (he : PS X s (tAsg (tE g W f) (gName i))) : PS X s (tS g W (sSet i f)) := he.imp fun D σ H ⟨P, F, st, s, o⟩ =>
  ⟨P, F, st, s, o.bind.imp fun x st1 H1 F1 le1 s1 o1 v rx => by
    unfold putD at o1
    split at o1
    · rename_i st' h
      obtain ⟨hi, rfl⟩ := slotSet_some h
      exact o1 _ H1 F1 (Same.refl _) (s1.put rx hi)
    · exact o1.elim⟩
theorem es_own {i : Nat} {fn : Den (List D)} (he : PS X s (tAsg (tN g W fn) (gName i))) : PS X s (tS g W (sOwn i fn)) := he.imp fun D σ H ⟨P, F, st, s, o⟩ => by
  refine ⟨P, F, st, s, ?_⟩
  unfold sOwn bindD at o
  revert o
  cases fn st with
  | ok ds st' =>
    intro o H' F' p vs le sx hp r
    have o : OutS g W P F (putD i (.ow ds) st') D := o
    unfold putD at o
    split at o
    · rename_i st2 h
      obtain ⟨hi, rfl⟩ := slotSet_some h
      exact o _ H' F' le (sx.own hp r hi)
    · exact o.elim
  | exn c fs st' => exact fun o cls dd H' F' e s => o cls dd σ H' F' e s
  | stuck => exact fun o => o
theorem es_if (he : PS X s (tIfS (tT g W t) (tS g W a) (tS g W b))) : PS X s (tS g W (sIf t a b)) := he.imp fun D σ H ⟨P, F, st, s, o⟩ =>
  ⟨P, F, st, s, o.bind.imp fun x st1 H1 F1 le1 s1 o1 => by
    cases x with
    | true => exact ⟨P, F1, st1, s1, o1⟩
    | false => exact ⟨P, F1, st1, s1, o1⟩⟩
theorem seq_imp {D : Ends} (q : tS g W (sSeq a b) D σ H) : tSeq (tS g W a) (tS g W b) D σ H := by
  obtain ⟨P, F, st, s, o⟩ := q
  refine ⟨P, F, st, s, ?_⟩
  unfold sSeq at o
  revert o
  cases a st with
  | ok fl st' =>
    cases fl with
    | nx => exact fun o σ' H' F' le s' => ⟨P, F', st', s', OutS.weak le o⟩
    | ret d => exact fun o => o
    | brk => exact fun o => o
    | cnt => exact fun o => o
  | exn c fs st' => exact fun o => o
  | stuck => exact fun o => o
theorem ess_cons (h1 : PS X s (tS g W a)) (h2 : PSs X ss (tS g W b)) : PSs X (s :: ss) (tS g W (sSeq a b)) := (pss_cons h1 h2).imp fun _ _ _ q => seq_imp q
theorem ess_one (h1 : PS X s (tS g W a)) : PSs X [s] (tS g W a) := pss_one h1
theorem ess_nil : PSs X [] (tS g W sPass) := (pss_nil (X := X)).imp fun D σ H ⟨P, F, st, s, o⟩ => o σ H F (Same.refl _) s
theorem _root_.L2.PG.imp {X : Cx} {e : Expr} {t t' : TG} (h : PG X e t) (i : ∀ v σ H Q, t' v σ H Q → t v σ H Q) : PG X e t' := ⟨fun pins s σ H v u Q I r q => h.run pins s σ H v u Q I r (i v σ H Q q)⟩
theorem eg_nm {i : Nat} (h : PG X e (gName i)) : PG X e (tG g (.nm i)) := h.imp fun v σ H Q ⟨P, F, st, d, s, r, st', e, q⟩ => by
  obtain ⟨hi, rfl⟩ := slotSet_some e
  exact q [v] (s.put r hi)
def gNames : List Nat → TGs
  | [] => gNil
  | i :: is => gCons (gName i) (gNames is)
theorem gNames_imp : ∀ (is : List Nat) (vs : List V) (ds : List D) (σ : L2.St) (H F : Hp) (st st' : DSt) (Q : L2.St → Hp → Prop), SR g P σ H F st → Rl g F vs ds → setAll is ds st = some st' → (∀ xs, SR g P (setσ is xs σ) H F st' → Q (setσ is xs σ) H) → gNames is vs σ H Q
  | [], vs, ds, σ, H, F, st, st', Q, s, r, e, q => by
    cases ds with
    | nil => cases r; cases e; exact ⟨rfl, q [] s⟩
    | cons d ds => cases e
  | i :: is, vs, ds, σ, H, F, st, st', Q, s, r, e, q => by
    cases ds with
    | nil => cases e
    | cons d ds =>
      cases r with
      | cons r1 rs =>
        unfold setAll at e
        split at e
        · rename_i st1 h1
          obtain ⟨hi, rfl⟩ := slotSet_some h1
          exact ⟨_, _, rfl, gNames_imp is _ ds _ H F _ st' Q (s.put r1 hi) rs e fun xs => q (_ :: xs)⟩
        · cases e
theorem setAll_length : ∀ {is : List Nat} {ds : List D} {st st' : DSt}, setAll is ds st = some st' → ds.length = is.length
  | [], [], _, _, _ => rfl
  | [], _ :: _, _, _, e => by cases e
  | _ :: _, [], _, _, e => by cases e
  | i :: is, d :: ds, st, st', e => by
    unfold setAll at e
    split at e
    · rw [List.length_cons, List.length_cons, setAll_length e]
    · cases e
theorem eg_nms {is : List Nat} {n : Nat} (h : PG X e (gTup g.K n (gNames is))) (hn : n = is.length) : PG X e (tG g (.nms is)) := h.imp fun v σ H Q ⟨P, F, st, d, s, r, st', e, q⟩ => by
  cases d with
  | tup ds =>
    obtain ⟨a, vs, rfl, h1, r1⟩ := Br.tup s.le (.inl r)
    exact ⟨a, vs, rfl, h1, by rw [r1.length, setAll_length e, hn], gNames_imp is vs ds σ H F st st' Q s r1 e q⟩
  | _ => cases e
/-- what a turn gives: a thing that is known; a tuple that stands there or is new -/
def Yl (g : G) (F H H' : Hp) (x : V) (d : D) : Prop := (H' = H ∧ Rv g F x d) ∨
  ∃ (q : Addr) (ws : List V) (es : List D), x = .ref q ∧ d = .tup es ∧ Rl g F ws es ∧ g.tk = false ∧ ((H' = H ∧ H q = some (.tup ws)) ∨ (H q = none ∧ H' = upd H q (.tup ws)))
theorem SR.frzT {q : Addr} {ws : List V} (s : SR g P σ H F st) (h : H q = some (.tup ws)) : Same F (upd F q (.tup ws)) ∧ SR g P σ H (upd F q (.tup ws)) st := by
  obtain ⟨O, c⟩ := s
  have sf : Same F (upd F q (.tup ws)) := fun b o e => by
    by_cases hb : b = q
    · subst hb; rw [upd_same]; rw [c.le _ _ e] at h; exact h.symm
    · rw [upd_ne hb]; exact e
  refine ⟨sf, O, fun b o e => ?_, c.rr, fun b j e => ?_, fun b n => ?_, c.len, fun j s ov e1 e2 => (c.sl j s ov e1 e2).move rfl (fun _ h => h) sf (fun _ _ _ h => h) fun _ _ h => h⟩
  · by_cases hb : b = q
    · subst hb; rw [upd_same] at e; rw [← e]; exact h
    · rw [upd_ne hb] at e; exact c.le _ _ e
  · have hb : b ≠ q := fun z => (c.oo b j e).2.2.2 ws (by rw [z]; exact h)
    rw [upd_ne hb]; exact c.oo b j e
  · have hb : b ≠ q := fun z => (c.no b n).2.2 ws (by rw [z]; exact h)
    rw [upd_ne hb]; exact c.no b n
theorem SR.yl {F0 H' : Hp} {x : V} {d : D} (s : SR g P σ H F st) (le : Same F0 F) (y : Yl g F0 H H' x d) : ∃ F', Same F F' ∧ SR g P σ H' F' st ∧ Rv g F' x d := by
  rcases y with ⟨rfl, r⟩ | ⟨q, ws, es, rfl, rfl, r, tk, ⟨rfl, h⟩ | ⟨h, rfl⟩⟩
  · exact ⟨F, Same.refl _, s, r.mono le⟩
  · obtain ⟨sf, s'⟩ := s.frzT h
    exact ⟨_, sf, s', .tup (.inl (.inl upd_same)) (by unfold TkP; rw [tk]; exact upd_same) (r.mono (le.trans sf))⟩
  · exact ⟨_, (Grow.new s.le h).f, s.grow (Grow.new s.le h), .tup (.inl (.inl upd_same)) (by unfold TkP; rw [tk]; exact upd_same) (r.mono (le.trans (Grow.new s.le h).f))⟩
structure Wk (g : G) (J : It) (F : Hp) (ds : List D) : Prop where
  stop : ∀ H', Same F H' → J.stop ds.length H'
  go : ∀ i H', Same F H' → i < ds.length → J.go i H'
  yld : ∀ i H' x H'', Same F H' → i < ds.length → J.yld i H' x H'' → ∃ d, ds[i]? = some d ∧ Yl g F H' H'' x d
def tI (g : G) (W : WX) (fi : Den (List D)) : TI := fun σ H R => ∃ P F st, SR g P σ H F st ∧ Out g W P σ F (fi st) fun ds _ H' F' => ∀ J, Wk g J F' ds → R J H'
theorem _root_.L2.PI.imp {X : Cx} {tg it : Expr} {w w' : TI} (h : PI X tg it w) (i : ∀ σ H R, w' σ H R → w σ H R) : PI X tg it w' := ⟨fun pins s σ H R I q => h.run pins s σ H R I (i σ H R q)⟩
@[simp] def itemsOf : D → Option (List D)
  | .lst xs => some xs
  | .tup xs => some xs
  | _ => none
@[simp] def dItems (f : Den D) : Den (List D) := bindD f fun d => liftO (itemsOf d)
@[simp] def rangeL (n : Int) : Option (List D) := if n.natAbs ≤ big then some ((List.range n.toNat).map fun k : Nat => D.int (k : Int)) else none
@[simp] def rangeL2 (m n : Int) : Option (List D) := if m.natAbs ≤ big ∧ n.natAbs ≤ big then some ((List.range (n - m).toNat).map fun k => D.int (m + (k : Nat))) else none
@[simp] def rngD : D → Option (List D)
  | .int n => rangeL n
  | _ => none
@[simp] def rngD2 : D → D → Option (List D)
  | .int m, .int n => rangeL2 m n
  | _, _ => none
@[simp] def dRng (f : Den D) : Den (List D) := bindD f fun d => liftO (rngD d)
@[simp] def dRng2 (f h : Den D) : Den (List D) := bindD f fun d => bindD h fun d2 => liftO (rngD2 d d2)
theorem wk_l {F : Hp} {a : Addr} {vs : List V} {ds : List D} (h : F a = some (.lst vs)) (r : Rl g F vs ds) : Wk g (Itl g.K a) F ds where
  stop := fun H' le => ⟨vs, sqL_of (le _ _ h), by rw [r.length]; exact Nat.le_refl _⟩
  go := fun i H' le hi => ⟨vs, vs[i]'(by rw [r.length]; exact hi), sqL_of (le _ _ h), by simp [r.length, hi]⟩
  yld := fun i H' x H'' le hi y => by
    obtain ⟨e, y⟩ := y
    obtain ⟨d, h1, h2⟩ := r.get' (y vs (sqL_of (le _ _ h)))
    exact ⟨d, h1, .inl ⟨e, h2⟩⟩
theorem wk_t {F : Hp} {a : Addr} {vs : List V} {ds : List D} (h : SqT g.K F a vs) (r : Rl g F vs ds) : Wk g (Itt g.K a) F ds where
  stop := fun H' le => ⟨vs, sqT_mono le h, by rw [r.length]; exact Nat.le_refl _⟩
  go := fun i H' le hi => ⟨vs, vs[i]'(by rw [r.length]; exact hi), sqT_mono le h, by simp [r.length, hi]⟩
  yld := fun i H' x H'' le hi y => by
    obtain ⟨e, y⟩ := y
    obtain ⟨d, h1, h2⟩ := r.get' (y vs (sqT_mono le h))
    exact ⟨d, h1, .inl ⟨e, h2⟩⟩
theorem wk_r (F : Hp) (lo : Int) (n : Nat) : Wk g (Itr lo n) F ((List.range n).map fun k => D.int (lo + (k : Nat))) where
  stop := fun H' le => by show n ≤ _; simp
  go := fun i H' le hi => by show i < n; simpa using hi
  yld := fun i H' x H'' le hi y => by
    obtain ⟨e, y⟩ := y
    refine ⟨.int (lo + i), ?_, .inl ⟨e, ?_⟩⟩
    · have : i < n := by simpa using hi
      simp [this]
    · rw [y]; exact .int _
def iAny (K : PySem.W.Frag) (tl : TE) : TI := fun σ H R => tl σ H fun x H1 => ∃ a, x = .ref a ∧ (((∃ xs, SqL K H1 a xs) ∧ R (Itl K a) H1) ∨ ((∃ xs, SqT K H1 a xs) ∧ R (Itt K a) H1))
theorem pi_any {tg l : Expr} {tl : TE} (hl : PE X l tl) : PI X tg l (iAny X.K tl) := by
  refine ⟨fun pins s σ H R I h => ?_⟩
  refine thn (hl.run pins s σ H _ I h) fun v s1 ⟨x, H1, I1, r1, q1⟩ => ?_
  obtain ⟨a, e, q1⟩ := q1
  subst e
  cases r1
  rcases q1 with ⟨⟨xs, hq⟩, q⟩ | ⟨⟨xs, hq⟩, q⟩
  · obtain ⟨its, rv, p, hz⟩ := I1.list hq
    refine wpAny_pyIter_list p.isList ?_
    refine ⟨s1.heap.objs.size, [s1.heap.objs.size], _, _, H1, rfl, I1.kept (t' := s1.toks) fun b o e => Heap.get?_push_of_some _ e, turn_list a _, ⟨_, Heap.get?_push_size _ rfl, rfl, rfl⟩, fun b hb => ?_, q⟩
    have e : b = s1.heap.objs.size := by simpa using hb
    subst e
    exact I1.fpOk (Nat.le_refl _) (I1.hok.fresh (Nat.le_refl _))
  · obtain ⟨its, rv, p, hz⟩ := I1.tuple hq
    refine wpAny_pyIter_tuple (show s1.heap.IsTuple a its.toArray from p) ?_
    refine ⟨s1.heap.objs.size, [s1.heap.objs.size], _, _, H1, rfl, I1.kept (t' := s1.toks) fun b o e => Heap.get?_push_of_some _ e, turn_tuple a _, ⟨_, Heap.get?_push_size _ rfl, rfl, rfl⟩, fun b hb => ?_, q⟩
    have e : b = s1.heap.objs.size := by simpa using hb
    subst e
    exact I1.fpOk (Nat.le_refl _) (I1.hok.fresh (Nat.le_refl _))
theorem ei_any {tg it : Expr} (h : PI X tg it (iAny g.K (tE g W f))) : PI X tg it (tI g W (dItems f)) := h.imp fun σ H R ⟨P, F, st, s, o⟩ =>
  ⟨P, F, st, s, o.bind.imp fun d st1 H1 F1 le1 s1 o1 v rx => by
    obtain ⟨ds, ez, q⟩ := o1.lift
    have q := q H1 F1 (Same.refl _) s1
    cases d with
    | lst xs =>
      cases ez
      obtain ⟨a, vs, rfl, h1, r1⟩ := Br.lst (H := F1) (Same.refl _) (.inl rx)
      exact ⟨a, rfl, .inl ⟨⟨vs, sqL_of (s1.le _ _ h1)⟩, q _ (wk_l h1 r1)⟩⟩
    | tup xs =>
      cases ez
      obtain ⟨a, vs, rfl, h1, r1⟩ := Br.tup (H := F1) (Same.refl _) (.inl rx)
      exact ⟨a, rfl, .inr ⟨⟨vs, sqT_mono s1.le h1⟩, q _ (wk_t h1 r1)⟩⟩
    | _ => cases ez⟩
theorem ei_rng {tg it : Expr} (h : PI X tg it (iRng1 (tCons (tE g W f) tNil))) : PI X tg it (tI g W (dRng f)) := h.imp fun σ H R ⟨P, F, st, s, o⟩ =>
  ⟨P, F, st, s, o.bind.imp fun d st1 H1 F1 le1 s1 o1 v rx => by
    obtain ⟨ds, ez, q⟩ := o1.lift
    have q := q H1 F1 (Same.refl _) s1
    cases d with
    | int n =>
      cases rx
      simp only [rngD, rangeL] at ez
      split at ez
      · rename_i hn
        cases ez
        have hb : big = 16777216 := rfl
        have := wk_r (g := g) F1 0 n.toNat
        simp only [Int.zero_add] at this
        exact ⟨n, rfl, by omega, by omega, q _ this⟩
      · cases ez
    | _ => cases ez⟩
theorem es_for {tgt : Tg} {fi : Den (List D)} (he : PS X s (tFor (tI g W fi) (tG g tgt) (tS g W a))) : PS X s (tS g W (sFor tgt fi a)) := he.imp fun E σ H ⟨P, F, st, s, o⟩ =>
  ⟨P, F, st, s, o.bind.imp fun ds st1 H1 F1 le1 s1 o1 J wk => by
    refine ⟨fun i m σ H => m = ds.length - i ∧ i ≤ ds.length ∧ ∃ F' st', Same F1 F' ∧ SR g P σ H F' st' ∧ OutS g W P F' (loop tgt a (ds.drop i) st') E, ⟨ds.length, by simp, Nat.zero_le _, F1, st1, Same.refl _, s1, by simpa using o1⟩, ?_⟩
    rintro i m σ H ⟨rfl, hi, F', st', le, s', o'⟩
    by_cases hlt : i < ds.length
    · refine .inr ⟨wk.go i H (le.trans s'.le) hlt, fun σ H => ∃ F' st', Same F1 F' ∧ SR g P σ H F' st' ∧ OutS g W P F' (loop tgt a (ds.drop (i + 1)) st') E, fun σ' H' p' => ⟨ds.length - (i + 1), by omega, rfl, hlt, p'⟩, fun x H' y => ?_⟩
      obtain ⟨d, hd, yy⟩ := wk.yld i H x H' (le.trans s'.le) hlt y
      obtain ⟨F', le2, s', rd⟩ := s'.yl le yy
      have le := le.trans le2
      have o' := OutS.weak le2 o'
      have hdr : ds.drop i = d :: ds.drop (i + 1) := by
        rw [List.drop_eq_getElem_cons hlt]
        have : ds[i] = d := by
          have := List.getElem?_eq_getElem hlt
          rw [hd] at this; exact (Option.some.inj this).symm
        rw [this]
      rw [hdr] at o'
      unfold loop at o'
      split at o'
      · exact o'.elim
      · rename_i st2 h2
        refine ⟨P, F', st', d, s', rd, st2, h2, fun xs s2 => ⟨P, F', st2, s2, ?_⟩⟩
        revert o'
        cases a st2 with
        | ok fl st3 =>
          cases fl with
          | nx => exact fun o' σ3 H3 F3 le3 s3 => ⟨F3, st3, le.trans le3, s3, OutS.weak le3 o'⟩
          | cnt => exact fun o' σ3 H3 F3 le3 s3 => ⟨F3, st3, le.trans le3, s3, OutS.weak le3 o'⟩
          | brk => exact fun o' => o'
          | ret d => exact fun o' => o'
        | exn c fs st3 => exact fun o' => o'
        | stuck => exact fun o' => o'
    · have e : i = ds.length := by omega
      subst e
      rw [List.drop_length] at o'
      exact .inl ⟨wk.stop H (le.trans s'.le), o' σ H F' (Same.refl _) s'⟩⟩
theorem es_while {n : Nat} (he : PS X s (tWhile (tT g W t) (tS g W a))) : PS X s (tS g W (sWhile t a n)) := he.imp fun E σ H ⟨P, F, st, s, o⟩ => by
  refine ⟨fun m σ H => ∃ F' st', SR g P σ H F' st' ∧ OutS g W P F' (sWhile t a m st') E, ⟨n, F, st, s, o⟩, ?_⟩
  rintro m σ H ⟨F', st', s', o'⟩
  cases m with
  | zero => exact o'.elim
  | succ m =>
    refine ⟨P, F', st', s', ?_⟩
    unfold sWhile at o'
    revert o'
    cases t st' with
    | ok b st1 =>
      cases b with
      | true =>
        intro o' H1 F1 le1 s1
        show ∃ N : L2.St → Hp → Prop, _ ∧ _
        refine ⟨fun σ H => ∃ F' st', SR g P σ H F' st' ∧ OutS g W P F' (sWhile t a m st') E, fun σ' H' p' => ⟨m, Nat.lt_succ_self _, p'⟩, P, F1, st1, s1, ?_⟩
        revert o'
        simp only
        cases a st1 with
        | ok fl st3 =>
          cases fl with
          | nx => exact fun o' σ3 H3 F3 le3 s3 => ⟨F3, st3, s3, OutS.weak (le1.trans le3) o'⟩
          | cnt => exact fun o' σ3 H3 F3 le3 s3 => ⟨F3, st3, s3, OutS.weak (le1.trans le3) o'⟩
          | brk => exact fun o' => OutS.weak le1 o'
          | ret d => exact fun o' => OutS.weak le1 o'
        | exn c fs st3 => exact fun o' => OutS.weak le1 o'
        | stuck => exact fun o' => o'
      | false => exact fun o' H1 F1 le1 s1 => o' σ H1 F1 le1 s1
    | exn c fs st1 => exact fun o' cls dd H1 F1 le1 s1 => o' cls dd σ H1 F1 le1 s1
    | stuck => exact fun o' => o'
end
end DL
namespace DL
open PySem PySem.Spec PyProof.Rows L2
@[simp] def dOw (i : Nat) : Den (List D) := fun st => match st[i]? with
  | some (.ow ds) => .ok ds st
  | some (.rf _ ds) => .ok ds st
  | _ => .stuck
@[simp] def setOw (i : Nat) (ds : List D) : Den Unit := fun st => match st[i]? with
  | some (.ow _) => .ok () (st.set i (.ow ds))
  | some (.rf k _) => .ok () (st.set i (.rf k ds))
  | _ => .stuck
@[simp] def mutD {α : Type} (i : Nat) (fn : List D → Option (α × List D)) : Den α := bindD (dOw i) fun ds => bindD (liftO (fn ds)) fun r => bindD (setOw i r.2) fun _ => retD r.1
@[simp] def dAppend (i : Nat) (f : Den D) : Den D := bindD (dOw i) fun _ => bindD f fun y => mutD i fun ds => if ds.length < big then some (.non, ds ++ [y]) else none
@[simp] def popAt (ds : List D) (i : Int) : Option (D × List D) := match seqIndex? i ds.length with
  | some k => match ds[k]? with | some y => if i.natAbs ≤ big then some (y, ds.eraseIdx k) else none | none => none
  | none => none
@[simp] def dPopAt (i : Nat) (f : Den D) : Den D := bindD (dOw i) fun _ => bindD f fun y => match y with
  | .int k => mutD i fun ds => popAt ds k
  | _ => fun _ => .stuck
@[simp] def dPop (i : Nat) : Den D := mutD i fun ds => match ds[ds.length - 1]? with | some y => some (y, ds.dropLast) | none => none
@[simp] def sStore (i : Nat) (ix e : Den D) : DS := bindD e fun v => bindD (dRd i) fun _ => bindD ix fun k => match k with
  | .int k => bindD (mutD i fun ds => match ixN ds.length k with | some j => some ((), ds.set j v) | none => none) fun _ => retD .nx
  | _ => fun _ => .stuck
section
variable {X : Cx} {g : G} {W : WX} {P : Par} {σ : L2.St} {H F : Hp} {st : DSt} {e : Expr} {s : Stmt} {ss : List Stmt} {f h : Den D} {t : Den Bool} {a b : DS}
/-- what an owned slot is; it may be changed -/
theorem SR.owned {i : Nat} {ds : List D} {st' : DSt} (s : SR g P σ H F st) (e : dOw i st = .ok ds st') : st' = st ∧ ∃ a vs, σ[i]? = some (some (.ref a)) ∧ H a = some (.lst vs) ∧ Rl g F vs ds ∧ F a = none ∧ P.R a = none ∧
    ∀ (H' F' : Hp) (vs' : List V) (ds' : List D), Same F F' → Same F' H' → (∀ b, NT H b → F b = none → F' b = none) → (∀ b o, b ≠ a → H b = some o → H' b = some o) → H' a = some (.lst vs') → F' a = none → Rl g F' vs' ds' →
      ∃ st2, setOw i ds' st = .ok () st2 ∧ SR g P σ H' F' st2 := by
  have key : ∀ (mk : List D → Slot) (ds0 : List D), st[i]? = some (mk ds0) → (mk = .ow ∨ ∃ k, mk = .rf k) → ∃ a vs, σ[i]? = some (some (.ref a)) ∧ H a = some (.lst vs) ∧ Rl g F vs ds0 ∧ F a = none ∧ P.R a = none ∧
      ∀ (H' F' : Hp) (vs' : List V) (ds' : List D), Same F F' → Same F' H' → (∀ b, NT H b → F b = none → F' b = none) → (∀ b o, b ≠ a → H b = some o → H' b = some o) → H' a = some (.lst vs') → F' a = none → Rl g F' vs' ds' →
        SR g P σ H' F' (st.set i (mk ds')) := by
    intro mk ds0 hd hk
    obtain ⟨ov, hov⟩ := SRc.nth s hd
    obtain ⟨O, c⟩ := s
    have q0 := c.sl i _ _ hd hov
    have hi : i < st.length := by
      rcases Nat.lt_or_ge i st.length with q | q
      · exact q
      · rw [List.getElem?_eq_none q] at hd; cases hd
    have ⟨a, vs, e1, ho, ha, r, mkok⟩ : ∃ a vs, ov = some (.ref a) ∧ O a = some i ∧ H a = some (.lst vs) ∧ Rl g F vs ds0 ∧ ∀ F' H' vs' ds', H' a = some (.lst vs') → Rl g F' vs' ds' → SlotOk g P O F' H' i (mk ds') ov := by
      rcases hk with rfl | ⟨k, rfl⟩
      · obtain ⟨a, vs, rfl, ho, hn, ha, r⟩ := q0
        exact ⟨a, vs, rfl, ho, ha, r, fun F' H' vs' ds' h1 h2 => ⟨a, vs', rfl, ho, hn, h1, h2⟩⟩
      · obtain ⟨a, vs, rfl, hb, ho, ha, r⟩ := q0
        exact ⟨a, vs, rfl, ho, ha, r, fun F' H' vs' ds' h1 h2 => ⟨a, vs', rfl, hb, ho, h1, h2⟩⟩
    subst e1
    refine ⟨a, vs, hov, ha, r, (c.oo a i ho).1, (c.oo a i ho).2.1, fun H' F' vs' ds' sf sfh nf sh hva fa rr => ⟨O, sfh, fun b o e => ?_, fun b j e => ?_, fun b n => ?_, by rw [List.length_set]; exact c.len, fun j s ov e1 e2 => ?_⟩⟩
    · have hb : b ≠ a := fun z => by rw [z, (c.oo a i ho).2.1] at e; cases e
      exact sh b o hb (c.rr _ _ e)
    · refine ⟨nf b (c.oo b j e).2.2 (c.oo b j e).1, (c.oo b j e).2.1, ?_⟩
      by_cases hb : b = a
      · subst hb; exact NT.of hva
      · exact NT.move (c.oo b j e).2.2 fun u hu => sh b u hb hu
    · refine ⟨nf b (c.no b n).2 (c.no b n).1, ?_⟩
      by_cases hb : b = a
      · subst hb; exact NT.of hva
      · exact NT.move (c.no b n).2 fun u hu => sh b u hb hu
    · by_cases hj : j = i
      · subst hj
        rw [List.getElem?_set_self hi] at e1
        cases e1
        rw [hov] at e2; cases e2
        exact mkok F' H' vs' ds' hva rr
      · rw [List.getElem?_set_ne (Ne.symm hj)] at e1
        exact (c.sl j s ov e1 e2).move rfl (fun _ h => h) sf (fun b o ho' h => sh b o (fun z => hj (by rw [z, ho] at ho'; exact (Option.some.inj ho').symm)) h) fun _ _ h => h
  unfold dOw at e
  split at e
  · rename_i ds0 hd
    cases e
    obtain ⟨a, vs, h1, h2, h3, h4, h5, h6⟩ := key .ow ds hd (.inl rfl)
    exact ⟨rfl, a, vs, h1, h2, h3, h4, h5, fun H' F' vs' ds' a1 a2 a3 a4 a5 a6 a7 => ⟨_, by unfold setOw; rw [hd], h6 H' F' vs' ds' a1 a2 a3 a4 a5 a6 a7⟩⟩
  · rename_i k ds0 hd
    cases e
    obtain ⟨a, vs, h1, h2, h3, h4, h5, h6⟩ := key (.rf k) ds hd (.inr ⟨k, rfl⟩)
    exact ⟨rfl, a, vs, h1, h2, h3, h4, h5, fun H' F' vs' ds' a1 a2 a3 a4 a5 a6 a7 => ⟨_, by unfold setOw; rw [hd], h6 H' F' vs' ds' a1 a2 a3 a4 a5 a6 a7⟩⟩
  · cases e
theorem dOw_no {i : Nat} {c : Str} {fs : List (Str × D)} {st st' : DSt} : dOw i st ≠ .exn c fs st' := by
  unfold dOw
  split <;> exact fun h => by cases h
theorem Out.ow {i : Nat} {α : Type} {kk : List D → Den α} {K : α → DSt → Hp → Hp → Prop} (o : Out g W P σ F (bindD (dOw i) kk st) K) : ∃ ds, dOw i st = .ok ds st ∧ Out g W P σ F (kk ds st) K := by
  unfold bindD at o
  cases e : dOw i st with
  | ok d st' =>
    rw [e] at o
    have : st' = st := by
      unfold dOw at e
      split at e <;> cases e <;> rfl
    subst this
    exact ⟨d, rfl, o⟩
  | exn c fs st' => exact (dOw_no e).elim
  | stuck => rw [e] at o; exact o.elim
/-- a list changed in place, nothing else -/
theorem Out.mut {α : Type} {i : Nat} {fn : List D → Option (α × List D)} {K : α → DSt → Hp → Hp → Prop} (s : SR g P σ H F st) (o : Out g W P σ F (mutD i fn st) K) :
    ∃ a vs ds r, σ[i]? = some (some (.ref a)) ∧ H a = some (.lst vs) ∧ Rl g F vs ds ∧ fn ds = some r ∧ ∀ vs', Rl g F vs' r.2 → ∃ st2, SR g P σ (upd H a (.lst vs')) F st2 ∧ K r.1 st2 (upd H a (.lst vs')) F := by
  obtain ⟨ds, e, o1⟩ := Out.ow o
  obtain ⟨_, a, vs, h1, h2, h3, h4, h5, h6⟩ := s.owned e
  have o1 : Out g W P σ F (bindD (liftO (fn ds)) (fun r => bindD (setOw i r.2) fun _ => retD r.1) st) K := o1
  cases er : fn ds with
  | none => rw [er] at o1; exact o1.elim
  | some r =>
    rw [er] at o1
    refine ⟨a, vs, ds, r, h1, h2, h3, er, fun vs' rr => ?_⟩
    have sfh : Same F (upd H a (.lst vs')) := fun b o e => by
      rw [upd_ne (fun z => by subst z; rw [h4] at e; cases e)]; exact s.le _ _ e
    obtain ⟨st2, e2, s2⟩ := h6 (upd H a (.lst vs')) F vs' r.2 (Same.refl _) sfh (fun b _ h => h) (fun b o hb e => by rw [upd_ne hb]; exact e) upd_same h4 rr
    refine ⟨st2, s2, ?_⟩
    have o2 : Out g W P σ F (bindD (setOw i r.2) (fun _ => retD r.1) st) K := o1
    unfold bindD at o2
    rw [e2] at o2
    exact o2 _ _ (Same.refl _) s2
theorem ev_append {i : Nat} (he : PE X e (tBM g.K "list" rAppend (tVar i) (tCons (tE g W f) tNil))) : PE X e (tE g W (dAppend i f)) := he.imp fun σ H Q ⟨P, F, st, s, o⟩ => by
  obtain ⟨ds, e, o1⟩ := Out.ow o
  obtain ⟨_, a, vs, h1, h2, h3, h4, h5, h6⟩ := s.owned e
  refine ⟨_, h1, .inl ⟨rfl, vs, sqL_of h2⟩, P, F, st, s, o1.bind.imp fun y st1 H1 F1 le1 s1 o2 v rv => ?_⟩
  obtain ⟨a', vs', ds', r, g1, g2, g3, g4, g5⟩ := Out.mut s1 o2
  rw [h1] at g1; cases g1
  split at g4
  · rename_i hl
    cases g4
    obtain ⟨st2, s2, k⟩ := g5 (vs' ++ [v]) (g3.append (.cons rv .nil))
    exact ⟨a, vs', v, rfl, rfl, g2, by rw [g3.length, ← big_eq]; exact hl, k _ .non⟩
  · cases g4
theorem ev_popAt {i : Nat} (he : PE X e (tBM g.K "list" rPopAt (tVar i) (tCons (tE g W f) tNil))) : PE X e (tE g W (dPopAt i f)) := he.imp fun σ H Q ⟨P, F, st, s, o⟩ => by
  obtain ⟨ds, e, o1⟩ := Out.ow o
  obtain ⟨_, a, vs, h1, h2, h3, h4, h5, h6⟩ := s.owned e
  refine ⟨_, h1, .inl ⟨rfl, vs, sqL_of h2⟩, P, F, st, s, o1.bind.imp fun y st1 H1 F1 le1 s1 o2 v rv => ?_⟩
  cases y with
  | int k =>
    cases rv
    obtain ⟨a', vs', ds', r, g1, g2, g3, g4, g5⟩ := Out.mut s1 o2
    rw [h1] at g1; cases g1
    unfold popAt at g4
    split at g4
    · rename_i j hj
      split at g4
      · rename_i y hy
        split at g4
        · rename_i hk
          cases g4
          have hb : big = 16777216 := rfl
          obtain ⟨w, hw, rw'⟩ := g3.get hy
          obtain ⟨st2, s2, kk⟩ := g5 (vs'.eraseIdx j) (g3.eraseIdx j)
          exact ⟨a, vs', k, j, w, rfl, rfl, g2, by omega, by omega, by rw [g3.length]; exact hj, hw, kk _ rw'⟩
        · cases g4
      · cases g4
    · cases g4
  | _ => exact o2.elim
theorem ev_pop {i : Nat} (he : PE X e (tBM0 g.K "list" rPop (tVar i))) : PE X e (tE g W (dPop i)) := he.imp fun σ H Q ⟨P, F, st, s, o⟩ => by
  obtain ⟨a', vs', ds', r, g1, g2, g3, g4, g5⟩ := Out.mut s o
  split at g4
  · rename_i y hy
    cases g4
    obtain ⟨w, hw, rw'⟩ := g3.get hy
    obtain ⟨st2, s2, kk⟩ := g5 vs'.dropLast (by rw [List.dropLast_eq_take, List.dropLast_eq_take, g3.length]; exact g3.take _)
    exact ⟨_, g1, .inl ⟨rfl, vs', sqL_of g2⟩, a', vs', w, rfl, rfl, g2, by rw [g3.length]; exact hw, kk _ rw'⟩
  · cases g4
theorem es_store {i : Nat} (he : PS X s (tAsg (tE g W f) (gSub (tVar i) (tE g W h) rSetL))) : PS X s (tS g W (sStore i h f)) := he.imp fun D σ H ⟨P, F, st, s, o⟩ =>
  ⟨P, F, st, s, o.bind.imp fun x st1 H1 F1 le1 s1 o1 v rx => by
    have o1 : OutS g W P F1 (bindD (dRd i) (fun _ => bindD h fun k => match k with
      | .int k => bindD (mutD i fun ds => match ixN ds.length k with | some j => some ((), ds.set j x) | none => none) fun _ => retD .nx
      | _ => fun _ => .stuck) st1) D := o1
    obtain ⟨v0, d0, hv0, _, o2⟩ := Out.rd s1 (OutS.bind o1 (σ := σ) |> fun (q : Out g W P σ F1 (dRd i st1) _) => (by
      revert q
      unfold bindD
      cases ed : dRd i st1 with
      | ok d st' => exact fun q => q
      | exn c fs st' => exact fun q => q
      | stuck => exact fun q => q : Out g W P σ F1 (bindD (dRd i) (fun d => retD d) st1) (fun d st' _ F1 => OutS g W P F1 ((bindD h fun k => match k with
      | .int k => bindD (mutD i fun ds => match ixN ds.length k with | some j => some ((), ds.set j x) | none => none) fun _ => retD .nx
      | _ => fun _ => .stuck) st') D)))
    have o3 := o2 H1 F1 (Same.refl _) s1
    refine ⟨v0, hv0, P, F1, st1, s1, o3.bind.imp fun k st2 H2 F2 le2 s2 o4 vk rk => ?_⟩
    cases k with
    | int k =>
      cases rk
      have o5 := OutS.bind o4 (σ := σ)
      obtain ⟨a', vs', ds', r, g1, g2, g3, g4, g5⟩ := Out.mut s2 o5
      rw [hv0] at g1; cases g1
      split at g4
      · rename_i j hj
        cases g4
        obtain ⟨st3, s3, kk⟩ := g5 (vs'.set j v) (g3.set (rx.mono le2) j)
        exact ⟨a', vs', k, j, rfl, rfl, g2, by rw [g3.length]; exact hj, kk σ _ F2 (Same.refl _) s3⟩
      · cases g4
    | _ => exact o4.elim⟩
def spD (g : G) (df : List D → M D) : Sp := fun vs H Q E => ∃ F ds, Same F H ∧ Rl g F vs ds ∧ match df ds with
  | .ok d => ∀ v H' F', Grow H F H' F' → Rv g F' v d → Q v H'
  | .exn c fs => ∀ cls dd H' F', Grow H F H' F' → RepX g F' H' c fs cls dd → E cls dd H'
  | .stuck => False
@[simp] def dCall (df : List D → M D) (fa : Den (List D)) : Den D := bindD fa fun ds => liftM' (df ds)
theorem call_fin {df : List D → M D} {vs : List V} {ds : List D} {Q : VK} {E : XK} (s : SR g P σ H F st) (r : Rl g F vs ds) (hE : ∀ cls dd H', W cls dd σ H' → E cls dd H') (o : Out g W P σ F (liftM' (df ds) st) fun d _ H' F' => ∀ v, Rv g F' v d → Q v H') : spD g df vs H Q E := by
  refine ⟨F, ds, s.le, r, ?_⟩
  revert o
  unfold liftM'
  cases df ds with
  | ok d => exact fun o v H' F' gr rv => o H' F' gr.f (s.grow gr) v rv
  | exn c fs => exact fun o cls dd H' F' gr rx => hE _ _ _ (o cls dd H' F' gr.f (s.grow gr) rx)
  | stuck => exact fun o => o
theorem ev_call {df : List D → M D} {fa : Den (List D)} (he : PE X e (tCallS (spD g df) (WE W) (tA g W fa))) : PE X e (tE g W (dCall df fa)) := he.imp fun σ H Q ⟨P, F, st, s, o⟩ =>
  ⟨P, F, st, s, o.bind.imp fun ds st1 H1 F1 le1 s1 o1 vs rs => call_fin s1 rs (fun _ _ _ h => h) o1⟩
/-- .. whose first argument is a list that the function changes -/
def spR (g : G) (df : List D → List D → M (D × List D)) : Sp := fun vs H Q _ => ∃ F a ws ss us ds, vs = .ref a :: us ∧ Same F H ∧ F a = none ∧ H a = some (.lst ws) ∧ Rl g F ws ss ∧ Rl g F us ds ∧ match df ss ds with
  | .ok r => ∀ v H' F' ws', Same F F' → Same F' H' → (∀ b, NT H b → F b = none → F' b = none) → (∀ b o, b ≠ a → H b = some o → H' b = some o) → H' a = some (.lst ws') → F' a = none → Rl g F' ws' r.2 → Rv g F' v r.1 → Q v H'
  | _ => False
@[simp] def dCallR (df : List D → List D → M (D × List D)) (i : Nat) (fa : Den (List D)) : Den D := bindD (dOw i) fun _ => bindD fa fun ds => bindD (dOw i) fun ss => bindD (liftM' (df ss ds)) fun r => bindD (setOw i r.2) fun _ => retD r.1
theorem ev_callR {df : List D → List D → M (D × List D)} (nox : ∀ ss ds c fs, df ss ds ≠ .exn c fs) {i : Nat} {fa : Den (List D)} (he : PE X e (tCallS (spR g df) (WE W) (tCons (tVar i) (tA g W fa)))) : PE X e (tE g W (dCallR df i fa)) := he.imp fun σ H Q ⟨P, F, st, s, o⟩ => by
  obtain ⟨ds0, e0, o1⟩ := Out.ow o
  obtain ⟨_, a, vs, h1, h2, h3, h4, h5, h6⟩ := s.owned e0
  refine ⟨_, h1, P, F, st, s, o1.bind.imp fun ds st1 H1 F1 le1 s1 o2 us ru => ?_⟩
  obtain ⟨ss, e1, o3⟩ := Out.ow o2
  obtain ⟨_, a', ws, g1, g2, g3, g4, g5, g6⟩ := s1.owned e1
  rw [h1] at g1; cases g1
  refine ⟨F1, a, ws, ss, us, ds, rfl, s1.le, g4, g2, g3, ru, ?_⟩
  have nx := nox ss ds
  revert o3 nx
  cases df ss ds with
  | ok r =>
    intro o3 nx v H' F' ws' a1 a2 a3 a4 a5 a6 a7 rv
    obtain ⟨st2, e2, s2⟩ := g6 H' F' ws' r.2 a1 a2 a3 a4 a5 a6 a7
    have o4 : Out g W P σ F1 (bindD (setOw i r.2) (fun _ => retD r.1) st1) fun d _ H' F' => ∀ v, Rv g F' v d → Q v H' := o3
    unfold bindD at o4
    rw [e2] at o4
    exact o4 H' F' a1 s2 v rv
  | exn c fs => exact fun _ nx => (nx c fs rfl).elim
  | stuck => exact fun o3 => o3.elim
/-- a body's meaning as a function of its arguments: n slots -/
def runF (m n : Nat) (f : DS) (ds : List D) : M D := if ds.length = m then match f (ds.map Slot.sh ++ List.replicate (n - ds.length) .no) with
  | .ok (.ret d) _ => .ok d
  | .ok .nx _ => .ok .non
  | .exn c fs _ => .exn c fs
  | _ => .stuck
  else .stuck
theorem getElem_start {N : List Str} {vs : List V} {i : Nat} {ov : Option V} (h : (L2.start N vs)[i]? = some ov) : ∀ v, vs[i]? = some v → ov = some v := by
  intro v hv
  unfold L2.start at h
  have hi : i < vs.length := by
    rcases Nat.lt_or_ge i vs.length with q | q
    · exact q
    · rw [List.getElem?_eq_none q] at hv; cases hv
  rw [List.getElem?_append_left (by simpa using hi), List.getElem?_map, hv] at h
  exact (Option.some.inj h).symm
theorem init_sl {O : Addr → Option Nat} {N : List Str} {vs : List V} {ds : List D} (r : Rl g F vs ds) (n : Nat) : ∀ i s ov, (ds.map Slot.sh ++ List.replicate n Slot.no)[i]? = some s → (L2.start N vs)[i]? = some ov → SlotOk g P O F H i s ov := by
  intro i s ov e1 e2
  rcases Nat.lt_or_ge i ds.length with hi | hi
  · rw [List.getElem?_append_left (by simpa using hi), List.getElem?_map, List.getElem?_eq_getElem hi] at e1
    cases e1
    obtain ⟨v, hv, rv⟩ := r.get (List.getElem?_eq_getElem hi)
    exact ⟨v, getElem_start e2 v hv, rv⟩
  · rw [List.getElem?_append_right (by simpa using hi)] at e1
    have : s = Slot.no := by
      have := List.mem_of_getElem? e1
      exact (List.mem_replicate.mp this).2
    subst this
    trivial
/-- THE RULE for a def of data -/
theorem body_ok {N ps : List Str} {f : DS} {n : Nat} {vs : List V} {Q : VK} {E : XK} (hn : n = N.length) (hp : ps.length ≤ N.length) (hl : vs.length = ps.length) (h : spD g (runF ps.length n f) vs H Q E) :
    tS g (fun cls dd _ H => E cls dd H) f { nx := fun _ H' => Q .non H', rt := Q } (L2.start N vs) H := by
  obtain ⟨F, ds, le, r, h⟩ := h
  refine ⟨⟨[], H, fun a => NT H a ∧ F a = none⟩, F, ds.map Slot.sh ++ List.replicate (n - ds.length) .no, ⟨fun _ => none, le, Same.refl _, (fun _ _ e => nomatch e), fun a h => ⟨h.2, h.1⟩, ?_, init_sl r _⟩, ?_⟩
  · have := r.length
    unfold L2.start
    simp only [List.length_append, List.length_map, List.length_replicate]
    omega
  · have gr : ∀ {σ' : L2.St} {H' F' : Hp} {st' : DSt}, Same F F' → SR g ⟨[], H, fun a => NT H a ∧ F a = none⟩ σ' H' F' st' → Grow H F H' F' := fun le ⟨O, c⟩ => ⟨c.rr, le, c.le, fun a h1 h2 => (c.no a ⟨h1, h2⟩).1⟩
    unfold runF at h
    rw [if_pos (by rw [← r.length]; exact hl)] at h
    revert h
    cases f (ds.map Slot.sh ++ List.replicate (n - ds.length) .no) with
    | ok fl st' =>
      cases fl with
      | nx => exact fun h σ' H' F' le s => h .non H' F' (gr le s) .non
      | ret d => exact fun h σ' H' F' le s v rv => h v H' F' (gr le s) rv
      | brk => exact fun h => h.elim
      | cnt => exact fun h => h.elim
    | exn c fs st' => exact fun h cls dd σ' H' F' le s rx => h cls dd H' F' (gr le s) rx
    | stuck => exact fun h => h.elim
/-- .. with a list that it changes, its first argument -/
def runR (m n : Nat) (f : DS) (ss : List D) (ds : List D) : M (D × List D) := if ds.length + 1 = m then match f (.rf 0 ss :: (ds.map Slot.sh ++ List.replicate (n - ds.length - 1) .no)) with
  | .ok (.ret d) (.rf 0 ss' :: _) => .ok (d, ss')
  | .ok .nx (.rf 0 ss' :: _) => .ok (.non, ss')
  | _ => .stuck
  else .stuck
theorem runR_nox (m n : Nat) (f : DS) : ∀ ss ds c fs, runR m n f ss ds ≠ .exn c fs := by
  intro ss ds c fs h
  unfold runR at h
  split at h
  · split at h <;> cases h
  · cases h
theorem start_cons {x : Str} {N : List Str} {v : V} {vs : List V} : L2.start (x :: N) (v :: vs) = some v :: L2.start N vs := by
  unfold L2.start
  simp
theorem body_okR {x : Str} {N ps : List Str} {f : DS} {n : Nat} {vs : List V} {Q : VK} {E : XK} (hn : n = (x :: N).length) (hp : ps.length ≤ (x :: N).length) (hl : vs.length = ps.length) (h : spR g (runR ps.length n f) vs H Q E) :
    tS g (fun cls dd _ H => E cls dd H) f { nx := fun _ H' => Q .non H', rt := Q } (L2.start (x :: N) vs) H := by
  obtain ⟨F, a, ws, ss, us, ds, rfl, le, fa, ha, rs, r, h⟩ := h
  have hln := r.length
  rw [start_cons]
  refine ⟨⟨[a], fun b => if b = a then none else H b, fun b => NT H b ∧ F b = none⟩, F, .rf 0 ss :: (ds.map Slot.sh ++ List.replicate (n - ds.length - 1) .no), ⟨fun b => if b = a then some 0 else none, le, fun b o e => ?_, fun b i e => ?_, fun a h => ⟨h.2, h.1⟩, ?_, fun i s ov e1 e2 => ?_⟩, ?_⟩
  · by_cases hb : b = a
    · subst hb; simp at e
    · simpa [hb] using e
  · by_cases hb : b = a
    · subst hb; exact ⟨fa, by simp, NT.of ha⟩
    · simp [hb] at e
  · unfold L2.start
    simp only [List.length_append, List.length_map, List.length_replicate, List.length_cons] at *
    omega
  · cases i with
    | zero =>
      simp at e1 e2
      subst e1; subst e2
      exact ⟨a, ws, rfl, rfl, by simp, ha, rs⟩
    | succ i =>
      have q := init_sl (P := ⟨[a], fun b => if b = a then none else H b, fun b => NT H b ∧ F b = none⟩) (H := H) (O := fun b => if b = a then some 0 else none) (N := N) r (n - ds.length - 1) i s ov (by simpa using e1) (by simpa using e2)
      have hs : s = .no ∨ ∃ d, s = .sh d := by
        have e1 : (ds.map Slot.sh ++ List.replicate (n - ds.length - 1) Slot.no)[i]? = some s := by simpa using e1
        rcases List.mem_append.mp (List.mem_of_getElem? e1) with h | h
        · obtain ⟨d, _, e⟩ := List.mem_map.mp h
          exact .inr ⟨d, e.symm⟩
        · exact .inl (List.mem_replicate.mp h).2
      rcases hs with rfl | ⟨d, rfl⟩
      · trivial
      · exact q
  · have gr : ∀ {σ' : L2.St} {H' F' : Hp} {ss' : List D} {st' : DSt} {d : D}, Same F F' → SR g ⟨[a], fun b => if b = a then none else H b, fun b => NT H b ∧ F b = none⟩ σ' H' F' (.rf 0 ss' :: st') →
        (∀ v H' F' ws', Same F F' → Same F' H' → (∀ b, NT H b → F b = none → F' b = none) → (∀ b o, b ≠ a → H b = some o → H' b = some o) → H' a = some (.lst ws') → F' a = none → Rl g F' ws' ss' → Rv g F' v d → Q v H') → ∀ v, Rv g F' v d → Q v H' := fun {σ' H' F' ss' st' d} le s k v rv => by
      obtain ⟨ov, hov⟩ := SRc.nth (i := 0) s rfl
      obtain ⟨O, c⟩ := s
      obtain ⟨a', ws', e1, e2, e3, e4, e5⟩ := c.sl 0 _ _ rfl hov
      have : a' = a := by simpa using e2.symm
      subst this
      refine k v H' F' ws' le c.le (fun b h1 h2 => (c.no b ⟨h1, h2⟩).1) (fun b o hb e => c.rr b o (by simp [hb, e])) e4 (c.oo _ _ e3).1 e5 rv
    unfold runR at h
    rw [if_pos (by simp only [List.length_cons] at hl; omega)] at h
    revert h
    cases f (.rf 0 ss :: (ds.map Slot.sh ++ List.replicate (n - ds.length - 1) .no)) with
    | ok fl st' =>
      cases fl with
      | nx =>
        cases st' with
        | nil => exact fun h => h.elim
        | cons s0 st' =>
          cases s0 with
          | rf k ss' =>
            cases k with
            | zero => exact fun h σ' H' F' le s => gr le s h .non .non
            | succ k => exact fun h => h.elim
          | _ => exact fun h => h.elim
      | ret d =>
        cases st' with
        | nil => exact fun h => h.elim
        | cons s0 st' =>
          cases s0 with
          | rf k ss' =>
            cases k with
            | zero => exact fun h σ' H' F' le s v rv => gr le s h v rv
            | succ k => exact fun h => h.elim
          | _ => exact fun h => h.elim
      | brk => exact fun h => h.elim
      | cnt => exact fun h => h.elim
    | exn c fs st' => exact fun h => h.elim
    | stuck => exact fun h => h.elim
theorem spD_len {m n : Nat} {f : DS} {vs : List V} {Q : VK} {E : XK} (h : spD g (runF m n f) vs H Q E) : vs.length = m := by
  obtain ⟨F, ds, le, r, h⟩ := h
  rw [r.length]
  by_cases hm : ds.length = m
  · exact hm
  · unfold runF at h
    rw [if_neg hm] at h
    exact h.elim
theorem spR_len {m n : Nat} {f : DS} {vs : List V} {Q : VK} {E : XK} (h : spR g (runR m n f) vs H Q E) : vs.length = m := by
  obtain ⟨F, a, ws, ss, us, ds, rfl, le, fa, ha, rs, r, h⟩ := h
  rw [List.length_cons, r.length]
  by_cases hm : ds.length + 1 = m
  · exact hm
  · unfold runR at h
    rw [if_neg hm] at h
    exact h.elim
end
end DL
namespace DL
open PySem PySem.Spec PyProof.Rows L2
def wipeD (st : DSt) : List Nat → DSt
  | [] => st
  | v :: vs => (wipeD st vs).set v .no
/-- the names of the block have their old content again -/
def backD (st0 st : DSt) : List Nat → DSt
  | [] => st
  | v :: vs => (backD st0 st vs).set v ((st0[v]?).getD .no)
def plainAt (st : DSt) (v : Nat) : Bool := match st[v]? with
  | some .no => true
  | some (.sh _) => true
  | _ => false
def compGo (vs : List Nat) (t : Tg) (test : Den Bool) (elt : Den D) : List D → Den (List D)
  | [] => retD []
  | d :: ds => fun st => match setT t d st with
    | none => .stuck
    | some st1 => match test st1 with
      | .ok true st2 => match elt st2 with
        | .ok y st3 => match compGo vs t test elt ds (wipeD st3 vs) with
          | .ok ys st4 => .ok (y :: ys) st4
          | _ => .stuck
        | _ => .stuck
      | .ok false st2 => compGo vs t test elt ds (wipeD st2 vs)
      | _ => .stuck
def dComp (vs : List Nat) (t : Tg) (fi : Den (List D)) (test : Den Bool) (elt : Den D) : Den (List D) := bindD fi fun ds => fun st =>
  if ds.length ≤ big ∧ vs.all (plainAt st) = true then
    match compGo vs t test elt ds (wipeD st vs) with
    | .ok ys st' => .ok ys (backD st st' vs)
    | _ => .stuck
  else .stuck
def WN : WX := fun _ _ _ _ => False
@[simp] def dYes : Den Bool := retD true
section
variable {X : Cx} {g : G} {W : WX} {P : Par} {σ : L2.St} {H F : Hp} {st : DSt} {e : Expr}
theorem wipeD_length (st : DSt) : ∀ vs : List Nat, (wipeD st vs).length = st.length
  | [] => rfl
  | v :: vs => by unfold wipeD; rw [List.length_set, wipeD_length st vs]
theorem backD_length (st0 st : DSt) : ∀ vs : List Nat, (backD st0 st vs).length = st.length
  | [] => rfl
  | v :: vs => by unfold backD; rw [List.length_set, backD_length st0 st vs]
theorem wipeD_in {st : DSt} {i : Nat} : ∀ {vs : List Nat}, i ∈ vs → ∀ s, (wipeD st vs)[i]? = some s → s = .no
  | v :: vs, h, s, e => by
    unfold wipeD at e
    by_cases hv : v = i
    · subst hv
      by_cases hl : v < (wipeD st vs).length
      · rw [List.getElem?_set_self hl] at e; cases e; rfl
      · rw [List.getElem?_eq_none (by simpa using hl)] at e; cases e
    · rw [List.getElem?_set_ne hv] at e
      rcases List.mem_cons.mp h with h | h
      · exact absurd h.symm hv
      · exact wipeD_in h s e
theorem wipeD_out {st : DSt} {i : Nat} : ∀ {vs : List Nat}, i ∉ vs → (wipeD st vs)[i]? = st[i]?
  | [], _ => rfl
  | v :: vs, h => by
    unfold wipeD
    rw [List.getElem?_set_ne (fun z => h (by rw [← z]; exact List.mem_cons_self))]
    exact wipeD_out fun z => h (List.mem_cons_of_mem _ z)
theorem wipe_out {σ : L2.St} {i : Nat} : ∀ {vs : List Nat}, i ∉ vs → (wipe σ vs)[i]? = σ[i]?
  | [], _ => rfl
  | v :: vs, h => by
    unfold wipe
    rw [List.getElem?_set_ne (fun z => h (by rw [← z]; exact List.mem_cons_self))]
    exact wipe_out fun z => h (List.mem_cons_of_mem _ z)
theorem backD_out {st0 st : DSt} {i : Nat} : ∀ {vs : List Nat}, i ∉ vs → (backD st0 st vs)[i]? = st[i]?
  | [], _ => rfl
  | v :: vs, h => by
    unfold backD
    rw [List.getElem?_set_ne (fun z => h (by rw [← z]; exact List.mem_cons_self))]
    exact backD_out fun z => h (List.mem_cons_of_mem _ z)
theorem backD_in {st0 st : DSt} {i : Nat} : ∀ {vs : List Nat}, i ∈ vs → ∀ s, (backD st0 st vs)[i]? = some s → s = (st0[i]?).getD .no
  | v :: vs, h, s, e => by
    unfold backD at e
    by_cases hv : v = i
    · subst hv
      by_cases hl : v < (backD st0 st vs).length
      · rw [List.getElem?_set_self hl] at e; cases e; rfl
      · rw [List.getElem?_eq_none (by simpa using hl)] at e; cases e
    · rw [List.getElem?_set_ne hv] at e
      rcases List.mem_cons.mp h with h | h
      · exact absurd h.symm hv
      · exact backD_in h s e
theorem SR.wipe (s : SR g P σ H F st) (vs : List Nat) : SR g P (wipe σ vs) H F (wipeD st vs) := by
  obtain ⟨O, c⟩ := s
  refine ⟨O, c.le, c.rr, c.oo, c.no, by rw [wipe_length, wipeD_length]; exact c.len, fun i s ov e1 e2 => ?_⟩
  by_cases hi : i ∈ vs
  · rw [wipeD_in hi s e1]; trivial
  · rw [wipeD_out hi] at e1
    rw [wipe_out hi] at e2
    exact c.sl i s ov e1 e2
theorem wipe_set {σ : L2.St} {i : Nat} {x : Option V} : ∀ {vs : List Nat}, i ∈ vs → wipe (σ.set i x) vs = wipe σ vs := by
  intro vs hi
  apply List.ext_getElem?
  intro j
  by_cases hj : j ∈ vs
  · have key : ∀ (τ : L2.St) (vs : List Nat), j ∈ vs → (L2.wipe τ vs)[j]? = if j < τ.length then some none else none := by
      intro τ vs
      induction vs with
      | nil => intro h; cases h
      | cons v vs ih =>
        intro h
        unfold L2.wipe
        by_cases hv : v = j
        · subst hv
          by_cases hl : v < τ.length
          · rw [List.getElem?_set_self (by rw [wipe_length]; exact hl), if_pos hl]
          · rw [List.getElem?_eq_none (by simp [wipe_length]; omega), if_neg hl]
        · rw [List.getElem?_set_ne hv]
          rcases List.mem_cons.mp h with h | h
          · exact absurd h.symm hv
          · exact ih h
    rw [key _ _ hj, key _ _ hj, List.length_set]
  · have hij : i ≠ j := fun z => hj (z ▸ hi)
    rw [wipe_out hj, wipe_out hj, List.getElem?_set_ne hij]
theorem wipe_setσ : ∀ {is : List Nat} {xs : List V} {σ : L2.St} {vs : List Nat}, (∀ i ∈ is, i ∈ vs) → wipe (setσ is xs σ) vs = wipe σ vs
  | [], xs, σ, vs, _ => by unfold setσ; rfl
  | i :: is, [], σ, vs, _ => by unfold setσ; rfl
  | i :: is, x :: xs, σ, vs, h => by
    unfold setσ
    rw [wipe_setσ fun j hj => h j (List.mem_cons_of_mem _ hj), wipe_set (h i List.mem_cons_self)]
theorem wipe_wipe (σ : L2.St) (vs : List Nat) : L2.wipe (L2.wipe σ vs) vs = L2.wipe σ vs := by
  have key : ∀ (τ : L2.St) (ws : List Nat), (∀ v ∈ ws, v ∈ vs) → L2.wipe (L2.wipe τ ws) vs = L2.wipe τ vs := by
    intro τ ws
    induction ws with
    | nil => intro _; rfl
    | cons w ws ih =>
      intro h
      show L2.wipe ((L2.wipe τ ws).set w none) vs = _
      rw [wipe_set (h w List.mem_cons_self)]
      exact ih fun v hv => h v (List.mem_cons_of_mem _ hv)
  exact key σ vs fun _ h => h
/-- the new list is guarded while the elements are worked out -/
def gd (P : Par) (D : Addr) (acc : List V) : Par := ⟨P.B, upd P.R D (.lst acc), fun a => P.N a ∨ a = D⟩
theorem SR.guard {D : Addr} {o : HO} {acc : List V} (s : SR g P σ H F st) (h : H D = none) : SR g (gd P D acc) σ (upd H D (.lst acc)) F st := by
  obtain ⟨O, c, o0, f0, r0, n0⟩ := s.newx (o := .lst acc) h
  refine ⟨O, c.le, fun b u e => ?_, fun b i e => ⟨(c.oo b i e).1, ?_, (c.oo b i e).2.2⟩, fun b n => ?_, c.len, fun i s ov e1 e2 => ?_⟩
  · have e : upd P.R D (.lst acc) b = some u := e
    by_cases hb : b = D
    · subst hb; rw [upd_same] at e; rw [← e]; exact upd_same
    · rw [upd_ne hb] at e; exact c.rr b u e
  · have hb : b ≠ D := fun z => by rw [z, o0] at e; cases e
    show upd P.R D (.lst acc) b = none
    rw [upd_ne hb]; exact (c.oo b i e).2.1
  · rcases n with n | rfl
    · exact c.no b n
    · exact ⟨f0, NT.of upd_same⟩
  · exact (c.sl i s ov e1 e2).move rfl (fun _ h => h) (Same.refl _) (fun _ _ _ h => h) fun b o n => fun z => Or.elim z n fun z => by rw [z, o0] at o; cases o
theorem SR.guard_at {D : Addr} {acc : List V} (s : SR g (gd P D acc) σ H F st) : H D = some (.lst acc) := by
  obtain ⟨O, c⟩ := s
  exact c.rr D _ upd_same
theorem SR.reguard {D : Addr} {acc acc' : List V} (s : SR g (gd P D acc) σ H F st) : SR g (gd P D acc') σ (upd H D (.lst acc')) F st := by
  obtain ⟨O, c⟩ := s
  have o0 : O D = none := by
    cases e : O D with
    | none => rfl
    | some i =>
      have := (c.oo D i e).2.1
      have z : upd P.R D (.lst acc) D = none := this
      rw [upd_same] at z; cases z
  have f0 := (c.no D (.inr rfl)).1
  refine ⟨O, fun b u e => ?_, fun b u e => ?_, fun b i e => ?_, fun b n => ?_, c.len, fun i s ov e1 e2 => ?_⟩
  · rw [upd_ne (fun z => by rw [z, f0] at e; cases e)]; exact c.le b u e
  · have e : upd P.R D (.lst acc') b = some u := e
    by_cases hb : b = D
    · subst hb; rw [upd_same] at e; rw [← e]; exact upd_same
    · rw [upd_ne hb] at e ⊢
      exact c.rr b u (by show upd P.R D (.lst acc) b = some u; rw [upd_ne hb]; exact e)
  · have hb : b ≠ D := fun z => by rw [z, o0] at e; cases e
    obtain ⟨h1, h2, h3⟩ := c.oo b i e
    have h2 : upd P.R D (.lst acc) b = none := h2
    rw [upd_ne hb] at h2
    exact ⟨h1, by show upd P.R D (.lst acc') b = none; rw [upd_ne hb]; exact h2, NT.upd hb h3⟩
  · refine ⟨(c.no b n).1, ?_⟩
    by_cases hb : b = D
    · subst hb; exact NT.of upd_same
    · exact NT.upd hb (c.no b n).2
  · exact (c.sl i s ov e1 e2).move rfl (fun _ h => h) (Same.refl _) (fun b o ho h => by rw [upd_ne (fun z => by rw [z, o0] at ho; cases ho)]; exact h) fun _ _ n => n
/-- behind the comprehension -/
theorem SR.unguard {D : Addr} {acc : List V} {H0 F0 : Hp} {st0 : DSt} {vs : List Nat} (s : SR g (gd P D acc) (L2.wipe σ vs) H F st) (s0 : SR g P σ H0 F0 st0) (h0 : H0 D = none) (le : Same F0 F) (hl : st.length = st0.length) (hp : vs.all (plainAt st0) = true) :
    SRx g P σ H F (backD st0 st vs) D := by
  obtain ⟨O, c⟩ := s
  have o0 : O D = none := by
    cases e : O D with
    | none => rfl
    | some i =>
      have z : upd P.R D (.lst acc) D = none := (c.oo D i e).2.1
      rw [upd_same] at z; cases z
  obtain ⟨_, _, _, _, r0, n0⟩ := s0.newx (o := .lst acc) h0
  refine ⟨O, ⟨c.le, fun b u e => ?_, fun b i e => ?_, fun b n => c.no b (.inl n), ?_, fun i sl ov e1 e2 => ?_⟩, o0, (c.no D (.inr rfl)).1, r0, n0⟩
  · have hb : b ≠ D := fun z => by rw [z, r0] at e; cases e
    exact c.rr b u (by show upd P.R D (.lst acc) b = some u; rw [upd_ne hb]; exact e)
  · have hb : b ≠ D := fun z => by rw [z, o0] at e; cases e
    obtain ⟨h1, h2, h3⟩ := c.oo b i e
    have h2 : upd P.R D (.lst acc) b = none := h2
    rw [upd_ne hb] at h2
    exact ⟨h1, h2, h3⟩
  · rw [backD_length]
    have := c.len
    rw [wipe_length] at this
    exact this
  · by_cases hi : i ∈ vs
    · have es := backD_in hi sl e1
      have hpl := List.all_eq_true.mp hp i hi
      unfold plainAt at hpl
      cases e0 : st0[i]? with
      | none => rw [e0] at es; subst es; trivial
      | some s0' =>
        rw [e0] at es hpl
        simp only [Option.getD_some] at es
        subst es
        cases sl with
        | no => trivial
        | sh d =>
          obtain ⟨O0, c0⟩ := s0
          obtain ⟨v, ev, r⟩ := c0.sl i _ ov e0 e2
          exact ⟨v, ev, r.mono le⟩
        | ow ds => cases hpl
        | rf k ds => cases hpl
        | oi k c ns ds => cases hpl
        | o2 dss => cases hpl
        | _ => cases hpl
    · rw [backD_out hi] at e1
      exact (c.sl i sl ov e1 (by rw [wipe_out hi]; exact e2)).move rfl (fun _ h => h) (Same.refl _) (fun _ _ _ h => h) fun _ _ n z => n (.inl z)
theorem comp_imp {vs : List Nat} {t : Tg} {fi : Den (List D)} {test : Den Bool} {elt : Den D} {Q : VK} (hv : ∀ i ∈ t.is, i ∈ vs) (q : tN g W (dComp vs t fi test elt) σ H Q) :
    tLc (tI g W fi) (tG g t) (tT g WN test) (tE g WN elt) vs σ H Q := by
  obtain ⟨P, F, st, s, o⟩ := q
  refine ⟨P, F, st, s, o.bind.imp fun ds st1 H1 F1 le1 s1 o1 J wk D hD => ?_⟩
  split at o1
  · rename_i hc
    obtain ⟨hbig, hpl⟩ := hc
    -- the rest of the walk, from the i-th turn on
    refine ⟨fun i m H => m = ds.length - i ∧ i ≤ ds.length ∧ ∃ F' st' accV acc, Same F1 F' ∧ SR g (gd P D accV) (L2.wipe σ vs) H F' st' ∧ Rl g F' accV acc ∧ acc.length ≤ i ∧ st'.length = st1.length ∧
      ∃ ys stE, compGo vs t test elt (ds.drop i) st' = .ok ys stE ∧ compGo vs t test elt ds (wipeD st1 vs) = .ok (acc ++ ys) stE, ?_, ?_⟩
    · split at o1
      · rename_i ys stE hgo
        exact ⟨ds.length, by simp, Nat.zero_le _, F1, wipeD st1 vs, [], [], Same.refl _, ((s1.wipe vs).guard (o := .lst []) hD), .nil, Nat.zero_le _, wipeD_length _ _, ys, stE, by simpa using hgo, by simpa using hgo⟩
      · exact o1.elim
    · rintro i m H2 ⟨rfl, hi, F', st', accV, acc, le, s', racc, hacc, hlen, ys, stE, hgo, hall⟩
      by_cases hlt : i < ds.length
      · obtain ⟨d0, hd0⟩ : ∃ d, ds[i]? = some d := ⟨ds[i], List.getElem?_eq_getElem hlt⟩
        have hdr : ds.drop i = d0 :: ds.drop (i + 1) := by
          rw [List.drop_eq_getElem_cons hlt]
          have := List.getElem?_eq_getElem hlt
          rw [hd0] at this; rw [← Option.some.inj this]
        rw [hdr] at hgo
        refine .inr ⟨wk.go i H2 (le.trans s'.le) hlt, fun H => ∃ F' st' accV acc, Same F1 F' ∧ SR g (gd P D accV) (L2.wipe σ vs) H F' st' ∧ Rl g F' accV acc ∧ acc.length ≤ i + 1 ∧ st'.length = st1.length ∧
          ∃ ys stE, compGo vs t test elt (ds.drop (i + 1)) st' = .ok ys stE ∧ compGo vs t test elt ds (wipeD st1 vs) = .ok (acc ++ ys) stE, fun H' nx => ⟨ds.length - (i + 1), by omega, rfl, hlt, nx⟩, fun x H' y => ?_⟩
        obtain ⟨d, hd, yy⟩ := wk.yld i H2 x H' (le.trans s'.le) hlt y
        obtain ⟨F', le2, s', rd⟩ := s'.yl le yy
        have le := le.trans le2
        have racc := racc.mono le2
        rw [hd0] at hd; cases hd
        unfold compGo at hgo
        cases hset : setT t d0 st' with
        | none => rw [hset] at hgo; cases hgo
        | some st2 =>
          rw [hset] at hgo
          refine ⟨gd P D accV, F', st', d0, s', rd, st2, hset, fun xs s2 => ⟨?_, ?_⟩⟩
          · rw [wipe_setσ hv, wipe_wipe]
          · refine ⟨gd P D accV, F', st2, s2, ?_⟩
            simp only at hgo
            have lenW : ∀ {σ' : L2.St} {H' F' : Hp} {st3 : DSt}, SR g (gd P D accV) (setσ t.is xs (L2.wipe σ vs)) H' F' st3 → (wipeD st3 vs).length = st1.length := fun {σ' H' F' st3} s3 => by
              rw [wipeD_length]
              have a1 := s3.len
              have a2 := s2.len
              have a3 := s'.len
              have a4 : st2.length = st'.length := by
                have : ∀ is ds (st st' : DSt), setAll is ds st = some st' → st'.length = st.length := by
                  intro is
                  induction is with
                  | nil => intro ds st st' e; cases ds with | nil => cases e; rfl | cons d ds => cases e
                  | cons i is ih =>
                    intro ds st st' e
                    cases ds with
                    | nil => cases e
                    | cons d ds =>
                      unfold setAll at e
                      split at e
                      · rename_i sti hsi
                        obtain ⟨_, rfl⟩ := slotSet_some hsi
                        rw [ih _ _ _ e, List.length_set]
                      · cases e
                unfold setT at hset
                cases t with
                | nm i => obtain ⟨_, rfl⟩ := slotSet_some hset; rw [List.length_set]
                | nms is =>
                  cases d0 with
                  | tup ds => exact this _ _ _ _ hset
                  | _ => cases hset
              omega
            have wp : ∀ {H' F' : Hp} {st3 : DSt}, SR g (gd P D accV) (setσ t.is xs (L2.wipe σ vs)) H' F' st3 → SR g (gd P D accV) (L2.wipe σ vs) H' F' (wipeD st3 vs) := fun {H' F' st3} s3 => by
              have := s3.wipe vs
              rw [wipe_setσ hv, wipe_wipe] at this
              exact this
            revert hgo
            cases test st2 with
            | ok b st3 =>
              intro hgo H3 F3 le3 s3
              cases b with
              | true =>
                rw [if_pos rfl]
                refine ⟨gd P D accV, F3, st3, s3, ?_⟩
                simp only at hgo
                revert hgo
                cases elt st3 with
                | ok y st4 =>
                  intro hgo H4 F4 le4 s4 v rv
                  simp only at hgo
                  have hD4 := s4.guard_at
                  have hb : big = sizeLine := big_eq
                  refine ⟨accV, hD4, by rw [racc.length, ← hb]; omega, F4, wipeD st4 vs, accV ++ [v], acc ++ [y], (le.trans le3).trans le4, (wp s4).reguard, (racc.mono (le3.trans le4)).append (.cons rv .nil), by simp; omega, lenW (σ' := σ) s4, ?_⟩
                  revert hgo
                  cases hr : compGo vs t test elt (ds.drop (i + 1)) (wipeD st4 vs) with
                  | ok ys' st5 =>
                    intro hgo
                    simp only at hgo
                    cases hgo
                    exact ⟨ys', _, rfl, by rw [List.append_assoc]; exact hall⟩
                  | exn c fs st5 => intro hgo; cases hgo
                  | stuck => intro hgo; cases hgo
                | exn c fs st4 => intro hgo; cases hgo
                | stuck => intro hgo; cases hgo
              | false =>
                rw [if_neg Bool.false_ne_true]
                exact ⟨F3, wipeD st3 vs, accV, acc, le.trans le3, wp s3, racc.mono le3, by omega, lenW (σ' := σ) s3, ys, stE, hgo, hall⟩
            | exn c fs st3 => intro hgo; cases hgo
            | stuck => intro hgo; cases hgo
      · have e : i = ds.length := by omega
        subst e
        rw [List.drop_length] at hgo
        cases hgo
        refine .inl ⟨wk.stop H2 (le.trans s'.le), ?_⟩
        rw [hall] at o1
        rw [List.append_nil] at o1
        exact o1 H2 F' D accV le (s'.unguard s1 hD le hlen hpl) s'.guard_at racc
  · exact o1.elim
theorem ev_comp {vs : List Nat} {t : Tg} {fi : Den (List D)} {test : Den Bool} {elt : Den D} (he : PE X e (tLc (tI g W fi) (tG g t) (tT g WN test) (tE g WN elt) vs)) (hv : ∀ i ∈ t.is, i ∈ vs := by decide) : PE X e (tN g W (dComp vs t fi test elt)) := he.imp fun _ _ _ q => comp_imp hv q
end
end DL
namespace DL
open PySem PySem.Spec PyProof.Rows L2
def tyName : D → Option String
  | .non => some "NoneType"
  | .bl _ => some "bool"
  | .int _ => some "int"
  | .str _ => some "str"
  | .lst _ => some "list"
  | .tup _ => some "tuple"
  | _ => none
/-- the built-in type T of a value; a truth value is an int -/
@[simp] def isTy (T : String) : D → Option Bool
  | .non => some (T == "NoneType")
  | .bl _ => some (T == "bool" || T == "int")
  | .int _ => some (T == "int")
  | .str _ => some (T == "str")
  | .lst _ => some (T == "list")
  | .tup _ => some (T == "tuple")
  | _ => none
def okTy (T : String) : Bool := T == "int" || T == "bool" || T == "str" || T == "list" || T == "tuple"
theorem kit_tys {T : String} (h : okTy T = true) {d : D} {b : Bool} (e : isTy T d = some b) : ∃ tn, tyName d = some tn ∧ ∀ K, PySem.W.kitOne K (.type tn) (.type T) = some b := by
  have hT : T = "int" ∨ T = "bool" ∨ T = "str" ∨ T = "list" ∨ T = "tuple" := by
    simpa [okTy, or_assoc] using h
  have key : ∀ tn b, kitB tn T = some b → ∀ K, PySem.W.kitOne K (.type tn) (.type T) = some b := fun tn b h K => kit_ty h
  rcases hT with rfl | rfl | rfl | rfl | rfl <;> cases d <;> cases e <;> first
    | exact ⟨_, rfl, key _ _ (by decide +kernel)⟩
theorem tyX_of {g : G} {H F : Hp} {v : V} {d : D} {tn : String} (l : Same F H) (r : Br g F H v d) (e : tyName d = some tn) : TyX g.K H v (.type tn) := by
  cases d with
  | non => cases e; cases r.non; exact .base .non
  | bl b => cases e; cases r.bl; exact .base (.bl b)
  | int b => cases e; cases r.int; exact .base (.int b)
  | str b => cases e; cases r.str; exact .base (.str b)
  | lst xs => cases e; obtain ⟨a, vs, rfl, h, _⟩ := r.lst l; exact .base (.lst h)
  | tup xs =>
    cases e
    obtain ⟨a, vs, rfl, h, _⟩ := r.tup l
    rcases h with (h | ⟨o, h⟩) | ⟨o, its, n, h1, h2, _⟩
    · exact .base (.tup h)
    · exact .fTuple h
    · exact .kTuple h1 h2
  | ins c ns ds => cases e
  | scr ns => cases e
@[simp] def opIsi (T : String) (d : D) : Option D := match isTy T d with | some b => some (.bl b) | none => none
theorem vo_isi {g : G} {T : String} (h : okTy T = true) : VO1 g (fun v => rIsi g.K [v, .ty T]) (opIsi T) := by
  intro H F v d z l rd hz Q q
  unfold opIsi at hz
  split at hz
  · rename_i b hb
    cases hz
    obtain ⟨tn, e1, e2⟩ := kit_tys h hb
    exact ⟨v, .ty T, .type tn, .type T, b, rfl, .ty T, tyX_of l rd e1, e2 _, q _ _ _ (Grow.refl l) (.bl _)⟩
  · cases hz
@[simp] def opIsi2 (T U : String) (d : D) : Option D := match isTy T d, isTy U d with | some b, some c => some (.bl (b || c)) | _, _ => none
theorem vo_isi2 {g : G} {T U : String} (h : okTy T = true) (h' : okTy U = true) : ∀ (H F : Hp) (v : V) (d z : D), Same F H → Br g F H v d → opIsi2 T U d = some z → ∀ Q : VK, (∀ H' F', Grow H F H' F' → ∀ v', Rv g F' v' z → Q v' H') → ∀ p, H p = none → rIsiT g.K [v, .ref p] (upd H p (.tup [.ty T, .ty U])) Q := by
  intro H F v d z l rd hz Q q p hp
  unfold opIsi2 at hz
  split at hz
  · rename_i b c hb hc
    cases hz
    obtain ⟨tn, e1, e2⟩ := kit_tys h hb
    obtain ⟨tn', e1', e2'⟩ := kit_tys h' hc
    rw [e1] at e1'; cases e1'
    have gr := Grow.new0 (o := .tup [.ty T, .ty U]) l hp
    have rd' : Br g F (upd H p (.tup [.ty T, .ty U])) v d := by
      rcases rd with rd | ⟨a, vs, ds, e1, e2, h1, r⟩
      · exact .inl rd
      · exact .inr ⟨a, vs, ds, e1, e2, gr.h _ _ h1, r⟩
    refine ⟨v, p, [.ty T, .ty U], .type tn, [.type T, .type U], b || c, rfl, upd_same, .cons (.ty T) (.cons (.ty U) .nil), tyX_of gr.i rd' e1, ?_, q _ _ gr _ (.bl _)⟩
    refine kitAny_cons (e2 _) (fun hb => kitAny_cons (e2' _) (fun hc => by rw [hb, hc]; exact kitAny_nil) fun hc => by rw [hc]; simp) fun hb => by rw [hb]; rfl
  · cases hz
@[simp] def opIsC (c : Str) : D → Option D
  | .ins c' _ _ => if c' = c then some (.bl true) else none
  | d => match tyName d with | some _ => some (.bl false) | none => none
@[simp] def getN : List Str → List D → Str → Option D
  | n :: ns, d :: ds, f => if f == n then some d else getN ns ds f
  | _, _, _ => none
theorem getN_rl {g : G} {F : Hp} {f : Str} {z : D} : ∀ {ns : List Str} {vs : List V} {ds : List D}, Rl g F vs ds → getN ns ds f = some z → ∃ v, (ns.zip vs).lookup f = some v ∧ Rv g F v z
  | [], _, _, _, e => by cases e
  | n :: ns, _, _, .nil, e => by cases e
  | n :: ns, v :: vs, d :: ds, .cons r t, e => by
    unfold getN at e
    rw [List.zip_cons_cons, List.lookup_cons]
    cases hf : f == n with
    | true => rw [hf] at e; cases e; exact ⟨v, rfl, r⟩
    | false => rw [hf] at e; exact getN_rl t e
@[simp] def opFld (c f : Str) : D → Option D
  | .ins c' ns ds => if c' = c then getN ns ds f else none
  | _ => none
structure ClsF (g : G) (c : Str) (C : Addr) : Prop where
  gC : g.mg c = some (.ref C)
  cl : Cls g.K C
theorem vo_fld {g : G} {c f : Str} {C : Addr} (k : ClsF g c C) (na : NoAttr g.K C f) {H F : Hp} {v : V} {d z : D} (l : Same F H) (rd : Rv g F v d) (hz : opFld c f d = some z) :
    ∃ a dx fs v', v = .ref a ∧ H a = some (.ins C dx fs) ∧ fs.lookup f = some v' ∧ Rv g F v' z := by
  cases d with
  | ins c' ns ds =>
    simp only [opFld] at hz
    split at hz
    · rename_i hc
      subst hc
      cases rd with
      | ins h1 h2 h3 h4 =>
        rw [k.gC] at h2
        cases h2
        obtain ⟨v', e1, e2⟩ := getN_rl h4 hz
        exact ⟨_, _, _, v', rfl, l _ _ h1, e1, e2⟩
    · cases hz
  | _ => cases hz
section
variable {X : Cx} {g : G} {W : WX} {P : Par} {σ : L2.St} {H F : Hp} {st : DSt} {e : Expr} {s : Stmt} {ss : List Stmt} {f h : Den D}
theorem ev_fld {c n : Str} {C : Addr} (k : ClsF g c C) (na : NoAttr g.K C n) (he : PE X e (tFld g.K (tE g W f) n)) : PE X e (tE g W (dOp1 (opFld c n) f)) := he.imp fun σ H Q ⟨P, F, st, s, o⟩ =>
  ⟨P, F, st, s, o.bind.imp fun x st1 H1 F1 le1 s1 o1 v rx => by
    obtain ⟨z, ez, q⟩ := o1.lift
    obtain ⟨a, dx, fs, v', rfl, h1, h2, h3⟩ := vo_fld k na s1.le rx ez
    exact ⟨a, C, dx, fs, v', rfl, h1, k.cl, na, h2, q H1 F1 (Same.refl _) s1 v' h3⟩⟩
/-- isinstance(x, T), isinstance(x, (T, U)), isinstance(x, C) -/
theorem ev_isi {T : String} (h : okTy T = true) (he : PE X e (tCB (rIsi g.K) (tCons (tE g W f) (tCons (tC (.ty T)) tNil)))) : PE X e (tE g W (dOp1 (opIsi T) f)) := he.imp fun σ H Q ⟨P, F, st, s, o⟩ =>
  ⟨P, F, st, s, o.bind.imp fun x st1 H1 F1 le1 s1 o1 v rx => fin1 (vo_isi h) s1 (.inl rx) o1⟩
theorem ev_isi2 {T U : String} (h : okTy T = true) (h' : okTy U = true) (he : PE X e (tCB (rIsiT g.K) (tCons (tE g W f) (tCons (tTup (tCons (tC (.ty T)) (tCons (tC (.ty U)) tNil))) tNil)))) : PE X e (tE g W (dOp1 (opIsi2 T U) f)) := he.imp fun σ H Q ⟨P, F, st, s, o⟩ =>
  ⟨P, F, st, s, o.bind.imp fun x st1 H1 F1 le1 s1 o1 v rx => by
    obtain ⟨z, ez, q⟩ := o1.lift
    exact ⟨by show 2 ≤ sizeLine; decide, fun p hp => vo_isi2 h h' H1 F1 v x z s1.le (.inl rx) ez Q (fun H' F' gr v' rv => q H' F' gr.f (s1.grow gr) v' rv) p hp⟩⟩
def tO (g : G) (W : WX) (fo : Den (Option Int)) : TO := fun σ H Q => ∃ P F st, SR g P σ H F st ∧ Out g W P σ F (fo st) fun o _ H' _ => Q o H'
@[simp] def asI : D → Option Int
  | .int i => some i
  | _ => none
@[simp] def dNoP : Den (Option Int) := retD none
@[simp] def dPart (f : Den D) : Den (Option Int) := bindD f fun d => liftO (match asI d with | some i => some (some i) | none => none)
theorem _root_.L2.PO.imp {X : Cx} {e : Option Expr} {t t' : TO} (h : PO X e t) (i : ∀ σ H Q, t' σ H Q → t σ H Q) : PO X e t' := ⟨fun pins s σ H Q I q => h.run pins s σ H Q I (i σ H Q q)⟩
theorem eo_none : PO X none (tO g W dNoP) := (po_none (X := X)).imp fun σ H Q ⟨P, F, st, s, o⟩ => o H F (Same.refl _) s
theorem eo_some {e : Expr} (he : PE X e (tE g W f)) : PO X (some e) (tO g W (dPart f)) := (po_some he).imp fun σ H Q ⟨P, F, st, s, o⟩ =>
  ⟨P, F, st, s, o.bind.imp fun x st1 H1 F1 le1 s1 o1 v rx => by
    obtain ⟨z, ez, q⟩ := o1.lift
    cases x with
    | int i => cases ez; cases rx; exact ⟨i, rfl, q H1 F1 (Same.refl _) s1⟩
    | _ => cases ez⟩
def cutD {α : Type} (xs : List α) (lo hi : Option Int) : List α := (xs.drop (HT.sIx xs.length 0 lo)).take (HT.sIx xs.length xs.length hi - HT.sIx xs.length 0 lo)
theorem cut_rl {vs : List V} {ds : List D} (lo hi : Option Int) (r : Rl g F vs ds) : Rl g F (cutV vs lo hi) (cutD ds lo hi) := by
  unfold cutV cutD
  rw [r.length]
  exact (r.drop _).take _
@[simp] def opSl (d : D) (lo hi : Option Int) : Option D := match d with
  | .lst xs => some (.lst (cutD xs lo hi))
  | .tup xs => some (.tup (cutD xs lo hi))
  | .scr ns => some (.lst (cutD (ns.map D.int) lo hi))
  | _ => none
def rSlD (K : PySem.W.Frag) : V → Option Int → Option Int → Hp → VK → Prop := fun x lo hi H Q => rSlL K x lo hi H Q ∨ rSlN K x lo hi H Q
theorem sl_D : SlR X (rSlD X.K) := sl_list.or sl_tupN
theorem fin_sl {v : V} {x : D} {lo hi : Option Int} {Q : VK} (s : SR g P σ H F st) (rx : Br g F H v x) (o : Out g W P σ F (liftO (opSl x lo hi) st) fun d _ H' F' => ∀ v, Rv g F' v d → Q v H') : rSlD g.K v lo hi H Q := by
  obtain ⟨z, ez, q⟩ := o.lift
  cases x with
  | lst xs =>
    cases ez
    obtain ⟨a, vs, rfl, h1, r1⟩ := rx.lst s.le
    exact .inl ⟨a, vs, rfl, sqL_of h1, fun p hp => q _ _ (Grow.new s.le hp).f (s.grow (Grow.new s.le hp)) _ (.lst upd_same ((cut_rl lo hi r1).mono (Grow.new s.le hp).f))⟩
  | tup xs =>
    cases ez
    obtain ⟨a, vs, rfl, h1, r1⟩ := rx.tup s.le
    refine .inr ⟨a, vs, rfl, h1, fun hw => ?_, fun _ => newT s.le (cut_rl lo hi r1) fun v' H' F' gr rv => q _ _ gr.f (s.grow gr) _ rv⟩
    rw [r1.length] at hw
    have e : cutD xs lo hi = xs := by
      unfold cutD
      rw [hw.1, hw.2]
      simp
    rw [e] at q
    rcases rx with rx | ⟨_, _, _, _, z, _⟩
    · exact q H F (Same.refl _) s _ rx
    · cases z
  | scr ns =>
    cases ez
    rcases rx with rx | ⟨_, _, _, _, z, _⟩
    · cases rx with
      | scr h1 =>
        exact .inl ⟨_, _, rfl, sqL_mono s.le h1, fun p hp => q _ _ (Grow.new s.le hp).f (s.grow (Grow.new s.le hp)) _ (.lst upd_same (cut_rl lo hi (Rl.of_ints ns)))⟩
    · cases z
  | _ => cases ez
@[simp] def dSl (a : Den D) (lo hi : Den (Option Int)) : Den D := bindD a fun x => bindD lo fun l => bindD hi fun u => liftO (opSl x l u)
@[simp] def dSln (i : Nat) (lo hi : Den (Option Int)) : Den D := bindD (dRd i) fun _ => bindD lo fun l => bindD hi fun u => bindD (dRd i) fun x => liftO (opSl x l u)
theorem ev_sln {i : Nat} {lo hi : Den (Option Int)} (he : PE X e (tSl (rSlD g.K) (tVar i) (tO g W lo) (tO g W hi))) : PE X e (tE g W (dSln i lo hi)) := he.imp fun σ H Q ⟨P, F, st, s, o⟩ => by
  obtain ⟨v, d, hv, _, o1⟩ := o.rd s
  refine ⟨v, hv, P, F, st, s, o1.bind.imp fun l st2 H2 F2 le2 s2 o2 => ⟨P, F2, st2, s2, o2.bind.imp fun u st3 H3 F3 le3 s3 o3 => ?_⟩⟩
  obtain ⟨v', d', hv', rx, o4⟩ := o3.rd s3
  rw [hv] at hv'; cases hv'
  exact fin_sl s3 rx o4
theorem rgV_rl (F : Hp) (a b : Int) : Rl g F (rgV a b) ((List.range (b - a).toNat).map fun k => D.int (a + (k : Nat))) := by
  unfold rgV
  generalize List.range (b - a).toNat = l
  induction l with
  | nil => exact .nil
  | cons x l ih => exact .cons (.int _) ih
@[simp] def dRg1 (f : Den D) : Den (Int × Int) := bindD f fun d => liftO (match asI d with | some n => if n.natAbs ≤ big then some (0, n) else none | none => none)
@[simp] def dRg2 (f h : Den D) : Den (Int × Int) := bindD f fun d => bindD h fun e => liftO (match asI d, asI e with | some m, some n => if 0 ≤ m ∧ m ≤ big ∧ 0 ≤ n ∧ n ≤ big then some (m, n) else none | _, _ => none)
def rgL (r : Int × Int) : List D := (List.range (r.2 - r.1).toNat).map fun k => D.int (r.1 + (k : Nat))
@[simp] def dLstRg (f : Den (Int × Int)) : Den (List D) := bindD f fun r => if r.2 ≤ big then retD (rgL r) else fun _ => .stuck
@[simp] def dTupRg (f : Den (Int × Int)) : Den D := bindD f fun r => if r.2 ≤ big then retD (.tup (rgL r)) else fun _ => .stuck
theorem rg_ok {r : Int × Int} (h0 : r.1 = 0 ∧ r.2.natAbs ≤ big ∨ 0 ≤ r.1 ∧ r.1 ≤ big ∧ 0 ≤ r.2 ∧ r.2 ≤ big) : RgOk r.1 r.2 := by
  have : big = 16777216 := rfl
  rcases h0 with ⟨h0, h1⟩ | ⟨h0, h1, h2, h3⟩
  · rw [h0]; exact ⟨by omega, by omega, by omega, by omega, by omega⟩
  · exact ⟨by omega, by omega, by omega, by omega, by omega⟩
def PRgImp (X : Cx) (e : Expr) (t t' : L2.St → Hp → (Int → Int → Hp → Prop) → Prop) (h : PRg X e t) (i : ∀ σ H Q, t' σ H Q → t σ H Q) : PRg X e t' := fun pins s σ H Q I q => h pins s σ H Q I (i σ H Q q)
/-- .. with what makes them good -/
def tRgK (g : G) (W : WX) (f : Den (Int × Int)) : L2.St → Hp → (Int → Int → Hp → Prop) → Prop := fun σ H Q => ∃ P F st, SR g P σ H F st ∧ Out g W P σ F (f st) fun r _ H' _ => RgOk r.1 r.2 → Q r.1 r.2 H'
theorem erg1 (he : PRg X e (tRg1 (tE g W f))) : PRg X e (tRgK g W (dRg1 f)) := PRgImp X e _ _ he fun σ H Q ⟨P, F, st, s, o⟩ =>
  ⟨P, F, st, s, o.bind.imp fun x st1 H1 F1 le1 s1 o1 v rx => by
    obtain ⟨z, ez, q⟩ := o1.lift
    cases x with
    | int n =>
      simp only [asI] at ez
      split at ez
      · rename_i hn
        cases ez; cases rx
        exact ⟨n, rfl, q H1 F1 (Same.refl _) s1 (rg_ok (.inl ⟨rfl, hn⟩))⟩
      · cases ez
    | _ => cases ez⟩
theorem evN_rg {fr : Den (Int × Int)} (he : PE X e (tLstRg (tRgK g W fr))) : PE X e (tN g W (dLstRg fr)) := he.imp fun σ H Q ⟨P, F, st, s, o⟩ =>
  ⟨P, F, st, s, o.bind.imp fun r st1 H1 F1 le1 s1 o1 ok => ⟨ok, fun p hp => by
    split at o1
    · exact o1 _ F1 p _ (Same.refl _) (s1.newx hp) upd_same (rgV_rl F1 r.1 r.2)
    · exact o1.elim⟩⟩
theorem ev_tupRg {fr : Den (Int × Int)} (he : PE X e (tTupRgN (tRgK g W fr))) : PE X e (tE g W (dTupRg fr)) := he.imp fun σ H Q ⟨P, F, st, s, o⟩ =>
  ⟨P, F, st, s, o.bind.imp fun r st1 H1 F1 le1 s1 o1 ok => ⟨ok, by
    split at o1
    · exact newT s1.le (rgV_rl F1 r.1 r.2) fun v' H' F' gr rv => o1 _ _ gr.f (s1.grow gr) _ rv
    · exact o1.elim⟩⟩
@[simp] def dMeth (c : Str) (m : Str) (df : List D → M D) (a : Den D) (fa : Den (List D)) : Den D := bindD a fun x => match x with
  | .ins c' ns ds => if c' = c ∧ (getN ns ds m).isNone ∧ ns.length = ds.length then bindD fa fun ys => fun st => match df (x :: ys) with | .ok d => .ok d st | _ => .stuck else fun _ => .stuck
  | _ => fun _ => .stuck
end
section
variable {P : Program} {w : World} {K : PySem.W.Frag} {mg : Str → Option Value} {base : Heap} {x qual : Str} {params : Arguments} {body : List Stmt} {scope : Scope} {f : Addr} {fd : FuncData} {N ps : List Str} {k : Nat}
theorem fn_data {b : DS} (F : FunD K x qual params body scope [] [] f fd) (S : FnScope N ps scope) (hp : ps.length ≤ N.length)
    (hbody : ∀ (cdv : Value) (A : Around) (outer : List Env) (s : Shared) (H : Hp) (E : XK), Room k (A.deeper (envOfC qual scope s.heap.objs.size f cdv)) →
      Takes (cxOf (L2.CX P w) P w K mg base N qual scope f cdv A outer s H E) (fun cls dd _ H => E cls dd H) →
      PassesOwn (model P w) (cxOf (L2.CX P w) P w K mg base N qual scope f cdv A outer s H E).A (cxOf (L2.CX P w) P w K mg base N qual scope f cdv A outer s H E).env (cxOf (L2.CX P w) P w K mg base N qual scope f cdv A outer s H E).xe →
      PSs (cxOf (L2.CX P w) P w K mg base N qual scope f cdv A outer s H E) body (tS ⟨K, mg, none, tk⟩ (fun cls dd _ H => E cls dd H) b)) :
    FnOk P w K mg base (L2.CX P w) (k + 1) f fd ps (spD ⟨K, mg, none, tk⟩ (runF ps.length N.length b)) :=
  F.ok S (fun vs H Q E h => spD_len h) fun cdv A outer s H vs Q E hr h => ⟨_, hbody cdv A outer s H E hr (takes_of rfl rfl rfl rfl) (passes_of rfl), body_ok rfl hp (spD_len h) h⟩
theorem fn_dataR {y : Str} {b : DS} (F : FunD K x qual params body scope [] [] f fd) (S : FnScope (y :: N) ps scope) (hp : ps.length ≤ (y :: N).length)
    (hbody : ∀ (cdv : Value) (A : Around) (outer : List Env) (s : Shared) (H : Hp) (E : XK), Room k (A.deeper (envOfC qual scope s.heap.objs.size f cdv)) →
      Takes (cxOf (L2.CX P w) P w K mg base (y :: N) qual scope f cdv A outer s H E) (fun cls dd _ H => E cls dd H) →
      PassesOwn (model P w) (cxOf (L2.CX P w) P w K mg base (y :: N) qual scope f cdv A outer s H E).A (cxOf (L2.CX P w) P w K mg base (y :: N) qual scope f cdv A outer s H E).env (cxOf (L2.CX P w) P w K mg base (y :: N) qual scope f cdv A outer s H E).xe →
      PSs (cxOf (L2.CX P w) P w K mg base (y :: N) qual scope f cdv A outer s H E) body (tS ⟨K, mg, none, tk⟩ (fun cls dd _ H => E cls dd H) b)) :
    FnOk P w K mg base (L2.CX P w) (k + 1) f fd ps (spR ⟨K, mg, none, tk⟩ (runR ps.length (y :: N).length b)) :=
  F.ok S (fun vs H Q E h => spR_len h) fun cdv A outer s H vs Q E hr h => ⟨_, hbody cdv A outer s H E hr (takes_of rfl rfl rfl rfl) (passes_of rfl), body_okR rfl hp (spR_len h) h⟩
end
end DL
namespace DL
open PySem PySem.Spec PyProof.Rows L2
@[simp] def sSelf (i : Nat) (cn n : Str) (f : Den D) : DS := bindD f fun v => fun st => match st[i]? with
  | some (.oi k c ns ds) => if c ≠ cn ∨ n ∈ ns ∨ ns.length ≠ ds.length ∨ 100 ≤ ns.length then .stuck else .ok .nx (st.set i (.oi k c (ns ++ [n]) (ds ++ [v])))
  | _ => .stuck
theorem putF_new {f : Str} {v : V} : ∀ {ns : List Str} {vs : List V}, f ∉ ns → ns.length = vs.length → putF f v (ns.zip vs) = (ns ++ [f]).zip (vs ++ [v])
  | [], [], _, _ => rfl
  | n :: ns, [], _, e => by cases e
  | [], v :: vs, _, e => by cases e
  | n :: ns, u :: vs, h, e => by
    have hn : n ≠ f := fun z => h (by rw [z]; exact List.mem_cons_self)
    show putF f v ((n, u) :: ns.zip vs) = (n, u) :: ((ns ++ [f]).zip (vs ++ [v]))
    unfold putF
    rw [if_neg hn, putF_new (fun z => h (List.mem_cons_of_mem _ z)) (by simpa using e)]
def spI (g : G) (c : Str) (df : List D → M (List Str × List D)) : Sp := fun vs H Q E => ∃ F a C dx us ds, vs = .ref a :: us ∧ Same F H ∧ F a = none ∧ g.mg c = some (.ref C) ∧ H a = some (.ins C dx []) ∧ Rl g F us ds ∧ match df ds with
  | .ok r => ∀ H' F' ws' dx', Same F F' → Same F' H' → (∀ b, NT H b → F b = none → F' b = none) → (∀ b o, b ≠ a → H b = some o → H' b = some o) → H' a = some (.ins C dx' (r.1.zip ws')) → F' a = none → r.1.length = ws'.length → Rl g F' ws' r.2 → Q .non H'
  | .exn c fs => ∀ cls dd H' F', Same F F' → Same F' H' → (∀ b, NT H b → F b = none → F' b = none) → (∀ b o, b ≠ a → H b = some o → H' b = some o) → RepX g F' H' c fs cls dd → E cls dd H'
  | .stuck => False
def runI (c : Str) (m n : Nat) (f : DS) (ds : List D) : M (List Str × List D) := if ds.length + 1 = m then match f (.oi 0 c [] [] :: (ds.map Slot.sh ++ List.replicate (n - ds.length - 1) .no)) with
  | .ok .nx (.oi 0 c' ns xs :: _) => if c' = c then .ok (ns, xs) else .stuck
  | .exn c fs _ => .exn c fs
  | _ => .stuck
  else .stuck
@[simp] def makeM (c : Str) (df : List D → M (List Str × List D)) (ds : List D) : M D := match df ds with
  | .ok r => .ok (.ins c r.1 r.2)
  | .exn c fs => .exn c fs
  | .stuck => .stuck
section
variable {X : Cx} {g : G} {W : WX} {P : Par} {σ : L2.St} {H F : Hp} {st : DSt} {e : Expr} {s : Stmt} {ss : List Stmt} {f h : Den D}
theorem spI_len {c : Str} {m n : Nat} {f : DS} {vs : List V} {Q : VK} {E : XK} (h : spI g c (runI c m n f) vs H Q E) : vs.length = m := by
  obtain ⟨F, a, C, dx, us, ds, rfl, le, fa, hc, ha, r, h⟩ := h
  rw [List.length_cons, r.length]
  by_cases hm : ds.length + 1 = m
  · exact hm
  · unfold runI at h
    rw [if_neg hm] at h
    exact h.elim
theorem es_self {i : Nat} {n c : Str} {C : Addr} (k : ClsF g c C) (na : NoAttr g.K C n) (he : PS X s (sFld g.K (tVar i) (tE g W f) n)) : PS X s (tS g W (sSelf i c n f)) := he.imp fun D σ H ⟨P, F, st, s, o⟩ => by
  refine ⟨P, F, st, s, OutS.bind o |>.imp fun v st1 H1 F1 le1 s1 o1 vv rv => ?_⟩
  split at o1
  · rename_i k1 c1 ns ds h1
    split at o1
    · exact o1.elim
    · rename_i hns
      have hcc : c1 = c := by
        rcases Classical.em (c1 = c) with z | z
        · exact z
        · exact absurd (.inl z) hns
      have hn1 : n ∉ ns := fun z => hns (.inr (.inl z))
      have hn2 : ns.length = ds.length := by
        rcases Nat.decEq ns.length ds.length with z | z
        · exact absurd (.inr (.inr (.inl z))) hns
        · exact z
      have hn3 : ns.length < 100 := by
        rcases Nat.lt_or_ge ns.length 100 with z | z
        · exact z
        · exact absurd (.inr (.inr (.inr z))) hns
      obtain ⟨ov, hov⟩ := SRc.nth s1 h1
      obtain ⟨O, c0⟩ := id s1
      obtain ⟨a, C1, dx, vs, rfl, hb, ho, hm, hl, ha, r⟩ := c0.sl i _ _ h1 hov
      subst hcc
      rw [k.gC] at hm
      cases hm
      refine ⟨_, hov, a, C, dx, ns.zip vs, rfl, ha, k.cl, na, ?_, ?_⟩
      · rw [List.length_zip]; omega
      · rw [putF_new hn1 hl]
        have gr : ∀ b o, b ≠ a → H1 b = some o → upd H1 a (.ins C dx ((ns ++ [n]).zip (vs ++ [vv]))) b = some o := fun b o hb e => by rw [upd_ne hb]; exact e
        refine o1 σ _ F1 (Same.refl _) ⟨O, fun b o e => ?_, fun b o e => ?_, fun b j e => ?_, fun b nb => ?_, by rw [List.length_set]; exact c0.len, fun j sl ov e1 e2 => ?_⟩
        · rw [upd_ne (fun z => by subst z; rw [(c0.oo b i ho).1] at e; cases e)]; exact c0.le b o e
        · rw [upd_ne (fun z => by subst z; rw [(c0.oo b i ho).2.1] at e; cases e)]; exact c0.rr b o e
        · refine ⟨(c0.oo b j e).1, (c0.oo b j e).2.1, ?_⟩
          by_cases hb : b = a
          · subst hb; exact NT.of upd_same
          · exact NT.upd hb (c0.oo b j e).2.2
        · refine ⟨(c0.no b nb).1, ?_⟩
          by_cases hb : b = a
          · subst hb; exact NT.of upd_same
          · exact NT.upd hb (c0.no b nb).2
        · have hi : i < st1.length := by
            rcases Nat.lt_or_ge i st1.length with q | q
            · exact q
            · rw [List.getElem?_eq_none q] at h1; cases h1
          by_cases hj : j = i
          · subst hj
            rw [List.getElem?_set_self hi] at e1
            cases e1
            rw [hov] at e2; cases e2
            exact ⟨a, C, dx, vs ++ [vv], rfl, hb, ho, k.gC, by simp [hl], upd_same, r.append (.cons rv .nil)⟩
          · rw [List.getElem?_set_ne (Ne.symm hj)] at e1
            exact (c0.sl j sl ov e1 e2).move rfl (fun _ h => h) (Same.refl _) (fun b o ho' h => gr b o (fun z => hj (by rw [z, ho] at ho'; exact (Option.some.inj ho').symm)) h) fun _ _ h => h
  · exact o1.elim
theorem body_okI {x c : Str} {N ps : List Str} {f : DS} {n : Nat} {vs : List V} {Q : VK} {E : XK} (hn : n = (x :: N).length) (hp : ps.length ≤ (x :: N).length) (hl : vs.length = ps.length) (h : spI g c (runI c ps.length n f) vs H Q E) :
    tS g (fun cls dd _ H => E cls dd H) f { nx := fun _ H' => Q .non H', rt := Q } (L2.start (x :: N) vs) H := by
  obtain ⟨F, a, C, dx, us, ds, rfl, le, fa, hc, ha, r, h⟩ := h
  have hln := r.length
  rw [start_cons]
  refine ⟨⟨[a], fun b => if b = a then none else H b, fun b => NT H b ∧ F b = none⟩, F, .oi 0 c [] [] :: (ds.map Slot.sh ++ List.replicate (n - ds.length - 1) .no), ⟨fun b => if b = a then some 0 else none, le, fun b o e => ?_, fun b i e => ?_, fun a h => ⟨h.2, h.1⟩, ?_, fun i s ov e1 e2 => ?_⟩, ?_⟩
  · by_cases hb : b = a
    · subst hb; simp at e
    · simpa [hb] using e
  · by_cases hb : b = a
    · subst hb; exact ⟨fa, by simp, NT.of ha⟩
    · simp [hb] at e
  · unfold L2.start
    simp only [List.length_append, List.length_map, List.length_replicate, List.length_cons] at *
    omega
  · cases i with
    | zero =>
      simp at e1 e2
      subst e1; subst e2
      exact ⟨a, C, dx, [], rfl, rfl, by simp, hc, rfl, ha, .nil⟩
    | succ i =>
      have q := init_sl (P := ⟨[a], fun b => if b = a then none else H b, fun b => NT H b ∧ F b = none⟩) (H := H) (O := fun b => if b = a then some 0 else none) (N := N) r (n - ds.length - 1) i s ov (by simpa using e1) (by simpa using e2)
      have hs : s = .no ∨ ∃ d, s = .sh d := by
        have e1 : (ds.map Slot.sh ++ List.replicate (n - ds.length - 1) Slot.no)[i]? = some s := by simpa using e1
        rcases List.mem_append.mp (List.mem_of_getElem? e1) with h | h
        · obtain ⟨d, _, e⟩ := List.mem_map.mp h
          exact .inr ⟨d, e.symm⟩
        · exact .inl (List.mem_replicate.mp h).2
      rcases hs with rfl | ⟨d, rfl⟩
      · trivial
      · exact q
  · unfold runI at h
    rw [if_pos (by simp only [List.length_cons] at hl; omega)] at h
    revert h
    cases f (.oi 0 c [] [] :: (ds.map Slot.sh ++ List.replicate (n - ds.length - 1) .no)) with
    | ok fl st' =>
      cases fl with
      | nx =>
        cases st' with
        | nil => exact fun h => h.elim
        | cons s0 st' =>
          cases s0 with
          | oi k c' ns xs =>
            cases k with
            | zero =>
              intro h σ' H' F' le s
              simp only at h
              split at h
              · rename_i r hr
                split at hr
                · rename_i hcc
                  cases hr
                  subst hcc
                  obtain ⟨ov, hov⟩ := SRc.nth (i := 0) s rfl
                  obtain ⟨O, c0⟩ := s
                  obtain ⟨a', C', dx', ws', e1, e2, e3, e4, e5, e6, e7⟩ := c0.sl 0 _ _ rfl hov
                  have : a' = a := by simpa using e2.symm
                  subst this
                  rw [hc] at e4
                  cases e4
                  exact h H' F' ws' dx' le c0.le (fun b h1 h2 => (c0.no b ⟨h1, h2⟩).1) (fun b o hb e => c0.rr b o (by simp [hb, e])) e6 (c0.oo _ _ e3).1 e5 e7
                · cases hr
              · rename_i hr
                split at hr <;> cases hr
              · exact h.elim
            | succ k => exact fun h => h.elim
          | _ => exact fun h => h.elim
      | ret d => exact fun h => h.elim
      | brk => exact fun h => h.elim
      | cnt => exact fun h => h.elim
    | exn c fs st' =>
      intro h cls dd σ' H' F' le s rx
      obtain ⟨O, c0⟩ := s
      exact h cls dd H' F' le c0.le (fun b h1 h2 => (c0.no b ⟨h1, h2⟩).1) (fun b o hb e => c0.rr b o (by simp [hb, e])) rx
    | stuck => exact fun h => h.elim
theorem run_makeS {k : Nat} {f C : Addr} {fd : FuncData} {ps : List Str} {sp : Sp} {E : L2.St → XK} {pins : List (Addr × Obj)} {σ : L2.St} {H : Hp} {s : Shared} {Q : VK} {us : List Value} {vs : List V} (M : Mk X.K C f) (F : FnOk X.prog X.w X.K X.mg X.base (L2.CX X.prog X.w) k f fd ps sp) (hr : Room (k + 1) X.A) (hb : Binds X.K fd ps [])
    (hx : PassesAt (L2.CX X.prog X.w) X σ (E σ)) (I : Inv X pins σ H s) (r : Vals vs us)
    (h : ∀ x dx, H x = none → H dx = none → dx ≠ x → sp (.ref x :: vs) (upd (upd H dx (.own x)) x (.ins C dx [])) (fun v H2 => v = .non ∧ Q (.ref x) H2) (E σ)) :
    wpAny (model X.prog X.w) X.A (call (.ref C) us) (EP X pins σ Q) X.xe s := by
  have hq := h (s.heap.objs.size + 1) s.heap.objs.size (I.hok.fresh (Nat.le_succ _)) (I.hok.fresh (Nat.le_refl _)) (Nat.ne_of_lt (Nat.lt_succ_self _))
  have I2 := Inv.made (C := C) I
  have r2 : Vals (V.ref (s.heap.objs.size + 1) :: vs) (Value.ref (s.heap.objs.size + 1) :: us) := .cons rfl r
  have hl : (Value.ref (s.heap.objs.size + 1) :: us).length = ps.length := by
    have e := r2.length
    rw [F.len _ _ _ _ hq] at e
    exact e.symm
  have b := hb _ (Value.ref (s.heap.objs.size + 1) :: us) I2.kIn (by rw [List.append_nil]; exact hl)
  rw [List.append_nil] at b
  refine wpAny_call (make_map (f := f) I.kIn M.makes M.init (beq_iff_eq.mp M.fn) (codeAny_mono (F.run _ X.stack _ _ ⟨Value.ref (s.heap.objs.size + 1) :: us, []⟩ (Value.ref (s.heap.objs.size + 1) :: us) _ _ (E σ) (hr.make C us [])
    (I2.env0.make C us []) b r2 hq) fun r s' hq' => ?_))
  cases r with
  | error e => exact hx pins _ _ e s' I2 hq'
  | ok fl =>
    cases fl with
    | ret u =>
      obtain ⟨v, H', I3, rv, ev, q3⟩ := I2.after hq'
      subst ev
      exact ⟨rv, ⟨V.ref (s.heap.objs.size + 1), H', I3, rfl, q3⟩⟩
    | next => exact False.elim hq'
    | brk => exact False.elim hq'
    | cont => exact False.elim hq'
def tMakeS (C : Addr) (sp : Sp) (E : L2.St → XK) (t : TA) : TE := fun σ H Q => t σ H fun vs H1 => ∀ x dx, H1 x = none → H1 dx = none → dx ≠ x →
  sp (.ref x :: vs) (upd (upd H1 dx (.own x)) x (.ins C dx [])) (fun v H2 => v = .non ∧ Q (.ref x) H2) (E σ)
theorem pe_makeS {k : Nat} {f C : Addr} {fd : FuncData} {ps : List Str} {sp : Sp} {E : L2.St → XK} {x : Str} {p pos : Pos} {e : Expr} {es : List Expr} {t : TA} (M : Mk X.K C f) (F : FnOk X.prog X.w X.K X.mg X.base (L2.CX X.prog X.w) k f fd ps sp) (hr : Room (k + 1) X.A) (hg : Gl X x) (hm : X.mg x = some (.ref C)) (hb : Binds X.K fd ps []) (hx : ∀ σ, PassesAt (L2.CX X.prog X.w) X σ (E σ))
    (ha : PA X (e :: es) t) (hdb : (x == ("__debug__" : Str)) = false := by decide) (he : starEach (e :: es) X.env = (false, eval e X.env) :: starEach es X.env := by rfl) (hpl : (backTo pos (starEach es X.env)).any (·.1) = false := by rfl) :
    PE X (.Call (.Name x p) (e :: es) [] pos) (tMakeS C sp E t) := by
  refine ⟨fun pins s σ H Q I h => ?_⟩
  refine wpAny_Call_Name_kw (ld_glob I hg hm ?_ hdb)
  refine PySem.W.callWith_K (h₀ := X.base) I.ok.mod.kin M.kp (thn (ha.run pos pins s σ H _ I h) fun us s1 ⟨vs, H1, I1, r, q⟩ => ⟨I1.kIn, ?_⟩) he hpl
  exact run_makeS M F hr hb (hx σ) I1 r q
theorem ev_make {c : Str} {C : Addr} {df : List D → M (List Str × List D)} {fa : Den (List D)} (k : g.mg c = some (.ref C)) (he : PE X e (tMakeS C (spI g c df) (WE W) (tA g W fa))) : PE X e (tE g W (dCall (makeM c df) fa)) := he.imp fun σ H Q ⟨P, F, st, s, o⟩ =>
  ⟨P, F, st, s, o.bind.imp fun ds st1 H1 F1 le1 s1 o1 vs rs x dx hx hdx hne => by
    have hn1 : ∀ {b : Addr} {o : HO}, H1 b = some o → b ≠ x ∧ b ≠ dx := fun e => ⟨(fun z => by subst z; rw [hx] at e; cases e), (fun z => by subst z; rw [hdx] at e; cases e)⟩
    have up : Same H1 (upd (upd H1 dx (.own x)) x (.ins C dx [])) := fun b o e => by rw [upd_ne (hn1 e).1, upd_ne (hn1 e).2]; exact e
    have f0 : F1 x = none := by
      cases e : F1 x with
      | none => rfl
      | some o => rw [s1.le _ _ e] at hx; cases hx
    have nf : ∀ {b : Addr}, NT H1 b → NT (upd (upd H1 dx (.own x)) x (.ins C dx [])) b := fun h => NT.same up h
    refine ⟨F1, x, C, dx, vs, ds, rfl, s1.le.trans up, f0, k, upd_same, rs, ?_⟩
    revert o1
    unfold makeM liftM'
    cases df ds with
    | ok r =>
      intro o1 H' F' ws' dx' a1 a2 a3 a4 a5 a6 a7 a8
      refine ⟨rfl, ?_⟩
      have sf : Same F' (upd F' x (.ins C dx' (r.1.zip ws'))) := fun b o e => by rw [upd_ne (fun z => by subst z; rw [a6] at e; cases e)]; exact e
      have gr : Grow H1 F1 H' (upd F' x (.ins C dx' (r.1.zip ws'))) := by
        refine ⟨fun b o e => a4 b o (hn1 e).1 (up b o e), a1.trans sf, fun b o e => ?_, fun b h1 h2 => ?_⟩
        · by_cases hb : b = x
          · subst hb; rw [upd_same] at e; cases e; exact a5
          · rw [upd_ne hb] at e; exact a2 b o e
        · obtain ⟨u, hu⟩ := h1.get
          rw [upd_ne (hn1 hu).1]
          exact a3 b (nf h1) h2
      exact o1 H' _ gr.f (s1.grow gr) _ (.ins upd_same k a7 (a8.mono sf))
    | exn c' fs =>
      intro o1 cls dd H' F' a1 a2 a3 a4 rx
      have gr : Grow H1 F1 H' F' := ⟨fun b o e => a4 b o (hn1 e).1 (up b o e), a1, a2, fun b h1 h2 => a3 b (nf h1) h2⟩
      exact o1 cls dd H' F' a1 (s1.grow gr) rx
    | stuck => exact fun o1 => o1.elim⟩
@[simp] def sAsg (t : Tg) (f : Den D) : DS := bindD f fun d => fun st => match setT t d st with
  | some st' => .ok .nx st'
  | none => .stuck
theorem es_asg {t : Tg} (he : PS X s (tAsg (tE g W f) (tG g t))) : PS X s (tS g W (sAsg t f)) := he.imp fun D σ H ⟨P, F, st, s, o⟩ =>
  ⟨P, F, st, s, OutS.bind o |>.imp fun d st1 H1 F1 le1 s1 o1 v rv => by
    cases hs : setT t d st1 with
    | none => rw [hs] at o1; exact o1.elim
    | some st2 =>
      rw [hs] at o1
      exact ⟨P, F1, st1, d, s1, rv, st2, hs, fun xs s2 => o1 _ _ F1 (Same.refl _) s2⟩⟩
@[simp] def sPar (i j : Nat) (f h : Den D) : DS := bindD f fun x => bindD h fun y => fun st => match slotSet i (.sh x) st with
  | some st1 => match slotSet j (.sh y) st1 with
    | some st2 => .ok .nx st2
    | none => .stuck
  | none => .stuck
@[simp] def sPar3 (i j l : Nat) (f h k : Den D) : DS := bindD f fun x => bindD h fun y => bindD k fun z => fun st => match slotSet i (.sh x) st with
  | some st1 => match slotSet j (.sh y) st1 with
    | some st2 => match slotSet l (.sh z) st2 with
      | some st3 => .ok .nx st3
      | none => .stuck
    | none => .stuck
  | none => .stuck
end
section
variable {P : Program} {w : World} {K : PySem.W.Frag} {mg : Str → Option Value} {base : Heap} {x qual : Str} {params : Arguments} {body : List Stmt} {scope : Scope} {f : Addr} {fd : FuncData} {N ps : List Str} {k : Nat}
theorem fn_init {y c : Str} {b : DS} (F : FunD K x qual params body scope [] [] f fd) (S : FnScope (y :: N) ps scope) (hp : ps.length ≤ (y :: N).length)
    (hbody : ∀ (cdv : Value) (A : Around) (outer : List Env) (s : Shared) (H : Hp) (E : XK), Room k (A.deeper (envOfC qual scope s.heap.objs.size f cdv)) →
      Takes (cxOf (L2.CX P w) P w K mg base (y :: N) qual scope f cdv A outer s H E) (fun cls dd _ H => E cls dd H) →
      PassesOwn (model P w) (cxOf (L2.CX P w) P w K mg base (y :: N) qual scope f cdv A outer s H E).A (cxOf (L2.CX P w) P w K mg base (y :: N) qual scope f cdv A outer s H E).env (cxOf (L2.CX P w) P w K mg base (y :: N) qual scope f cdv A outer s H E).xe →
      PSs (cxOf (L2.CX P w) P w K mg base (y :: N) qual scope f cdv A outer s H E) body (tS ⟨K, mg, none, tk⟩ (fun cls dd _ H => E cls dd H) b)) :
    FnOk P w K mg base (L2.CX P w) (k + 1) f fd ps (spI ⟨K, mg, none, tk⟩ c (runI c ps.length (y :: N).length b)) :=
  F.ok S (fun vs H Q E h => spI_len h) fun cdv A outer s H vs Q E hr h => ⟨_, hbody cdv A outer s H E hr (takes_of rfl rfl rfl rfl) (passes_of rfl), body_okI rfl hp (spI_len h) h⟩
end
end DL
namespace DL
open PySem PySem.Spec PyProof.Rows L2
def tSO (g : G) (W : WX) (a : DS) (fn : Den (List D)) : TS := fun E σ H => ∃ P F st, SR g P σ H F st ∧ match a st with
  | .ok .nx st' => (match fn st' with
    | .ok ds st2 => ∀ σ' H' F' p vs, Same F F' → SRx g P σ' H' F' st2 p → H' p = some (.lst vs) → Rl g F' vs ds → E.rt (.ref p) H'
    | _ => False)
  | _ => False
def runO (m n : Nat) (a : DS) (fn : Den (List D)) (ds : List D) : Option (List D) := if ds.length = m then match a (ds.map Slot.sh ++ List.replicate (n - ds.length) .no) with
  | .ok .nx st' => (match fn st' with
    | .ok zs _ => some zs
    | _ => none)
  | _ => none
  else none
def spO (g : G) (df : List D → Option (List D)) : Sp := fun vs H Q _ => ∃ F ds zs, Same F H ∧ Rl g F vs ds ∧ df ds = some zs ∧ ∀ p vs' H' F', Grow H F H' F' → H p = none → H' p = some (.lst vs') → F' p = none → Rl g F' vs' zs → Q (.ref p) H'
@[simp] def dCallO (df : List D → Option (List D)) (fa : Den (List D)) : Den (List D) := bindD fa fun ds => liftO (df ds)
section
variable {X : Cx} {g : G} {W : WX} {P : Par} {σ : L2.St} {H F : Hp} {st : DSt} {e : Expr} {s : Stmt} {ss : List Stmt} {f h : Den D} {a b : DS} {fn : Den (List D)}
theorem essO_one (he : PS X s (tRet (tN g W fn))) : PSs X [s] (tSO g W sPass fn) := (pss_one he).imp fun E σ H ⟨P, F, st, s, o⟩ => by
  refine ⟨P, F, st, s, ?_⟩
  have o : (match fn st with
    | .ok ds st2 => ∀ σ' H' F' p vs, Same F F' → SRx g P σ' H' F' st2 p → H' p = some (.lst vs) → Rl g F' vs ds → E.rt (.ref p) H'
    | _ => False) := o
  revert o
  unfold OutN
  cases fn st with
  | ok ds st2 => exact fun o H' F' p vs => o σ H' F' p vs
  | exn c fs st2 => exact fun o => o.elim
  | stuck => exact fun o => o.elim
theorem essO_cons (h1 : PS X s (tS g W a)) (h2 : PSs X ss (tSO g W b fn)) : PSs X (s :: ss) (tSO g W (sSeq a b) fn) := (pss_cons h1 h2).imp fun E σ H ⟨P, F, st, s, o⟩ => by
  refine ⟨P, F, st, s, ?_⟩
  unfold sSeq at o
  revert o
  cases a st with
  | ok fl st1 =>
    cases fl with
    | nx =>
      intro o σ1 H1 F1 le1 s1
      refine ⟨P, F1, st1, s1, ?_⟩
      simp only at o
      revert o
      cases b st1 with
      | ok fl st2 =>
        cases fl with
        | nx =>
          simp only
          cases fn st2 with
          | ok ds st3 => exact fun o σ' H' F' p vs le => o σ' H' F' p vs (le1.trans le)
          | exn c fs st3 => exact fun o => o
          | stuck => exact fun o => o
        | _ => exact fun o => o
      | _ => exact fun o => o
    | _ => exact fun o => o.elim
  | _ => exact fun o => o.elim
theorem body_okO {N ps : List Str} {n : Nat} {vs : List V} {Q : VK} {E : XK} (hn : n = N.length) (hp : ps.length ≤ N.length) (hl : vs.length = ps.length) (h : spO g (runO ps.length n a fn) vs H Q E) :
    tSO g (fun cls dd _ H => E cls dd H) a fn { nx := fun _ H' => Q .non H', rt := Q } (L2.start N vs) H := by
  obtain ⟨F, ds, zs, le, r, h, k⟩ := h
  refine ⟨⟨[], H, fun a => NT H a ∧ F a = none⟩, F, ds.map Slot.sh ++ List.replicate (n - ds.length) .no, ⟨fun _ => none, le, Same.refl _, (fun _ _ e => nomatch e), fun a h => ⟨h.2, h.1⟩, ?_, init_sl r _⟩, ?_⟩
  · have := r.length
    unfold L2.start
    simp only [List.length_append, List.length_map, List.length_replicate]
    omega
  · unfold runO at h
    rw [if_pos (by rw [← r.length]; exact hl)] at h
    revert h
    cases a (ds.map Slot.sh ++ List.replicate (n - ds.length) .no) with
    | ok fl st' =>
      cases fl with
      | nx =>
        simp only
        cases fn st' with
        | ok zs' st2 =>
          intro h σ' H' F' p vs' le s hp rr
          cases h
          obtain ⟨O, c, o0, f0, r0, n0⟩ := s
          exact k p vs' H' F' ⟨c.rr, le, c.le, fun a h1 h2 => (c.no a ⟨h1, h2⟩).1⟩ r0 hp f0 rr
        | exn c fs st2 => exact fun h => nomatch h
        | stuck => exact fun h => nomatch h
      | _ => exact fun h => nomatch h
    | exn c fs st2 => exact fun h => nomatch h
    | stuck => exact fun h => nomatch h
theorem ev_callO {df : List D → Option (List D)} {E : L2.St → XK} {fa : Den (List D)} (he : PE X e (tCallS (spO g df) E (tA g W fa))) : PE X e (tN g W (dCallO df fa)) := he.imp fun σ H Q ⟨P, F, st, s, o⟩ =>
  ⟨P, F, st, s, o.bind.imp fun ds st1 H1 F1 le1 s1 o1 vs rs => by
    cases hz : df ds with
    | none => rw [hz] at o1; exact o1.elim
    | some zs =>
      rw [hz] at o1
      refine ⟨F1, ds, zs, s1.le, rs, hz, fun p vs' H' F' gr hp hp' fp rr => o1 H' F' p vs' gr.f ?_ hp' rr⟩
      obtain ⟨O, c⟩ := s1
      refine ⟨O, c.grow gr, ?_, fp, ?_, fun n => (c.no p n).2.1 hp⟩
      · cases e : O p with
        | none => rfl
        | some i => exact absurd hp (c.oo p i e).2.2.1
      · cases e : P.R p with
        | none => rfl
        | some u => rw [c.rr _ _ e] at hp; cases hp⟩
theorem spO_len {m n : Nat} {vs : List V} {Q : VK} {E : XK} (h : spO g (runO m n a fn) vs H Q E) : vs.length = m := by
  obtain ⟨F, ds, zs, le, r, h, k⟩ := h
  rw [r.length]
  by_cases hm : ds.length = m
  · exact hm
  · unfold runO at h
    rw [if_neg hm] at h
    cases h
end
section
variable {P : Program} {w : World} {K : PySem.W.Frag} {mg : Str → Option Value} {base : Heap} {x qual : Str} {params : Arguments} {body : List Stmt} {scope : Scope} {f : Addr} {fd : FuncData} {N ps : List Str} {k : Nat}
theorem fn_own {b : DS} {fn : Den (List D)} (F : FunD K x qual params body scope [] [] f fd) (S : FnScope N ps scope) (hp : ps.length ≤ N.length)
    (hbody : ∀ (cdv : Value) (A : Around) (outer : List Env) (s : Shared) (H : Hp) (E : XK), Room k (A.deeper (envOfC qual scope s.heap.objs.size f cdv)) →
      Takes (cxOf (L2.CX P w) P w K mg base N qual scope f cdv A outer s H E) (fun cls dd _ H => E cls dd H) →
      PassesOwn (model P w) (cxOf (L2.CX P w) P w K mg base N qual scope f cdv A outer s H E).A (cxOf (L2.CX P w) P w K mg base N qual scope f cdv A outer s H E).env (cxOf (L2.CX P w) P w K mg base N qual scope f cdv A outer s H E).xe →
      PSs (cxOf (L2.CX P w) P w K mg base N qual scope f cdv A outer s H E) body (tSO ⟨K, mg, none, tk⟩ (fun cls dd _ H => E cls dd H) b fn)) :
    FnOk P w K mg base (L2.CX P w) (k + 1) f fd ps (spO ⟨K, mg, none, tk⟩ (runO ps.length N.length b fn)) :=
  F.ok S (fun vs H Q E h => spO_len h) fun cdv A outer s H vs Q E hr h => ⟨_, hbody cdv A outer s H E hr (takes_of rfl rfl rfl rfl) (passes_of rfl), body_okO rfl hp (spO_len h) h⟩
/-- the law: called with the script -/
theorem law_sp {f : DS} {n : Nat} {H : Hp} {a : Addr} {ns : List Int} (hS : SqL K H a (ns.map V.int)) (h : runF 1 n f [.scr ns] = .ok (.bl true)) (E : XK) : spD ⟨K, mg, none, tk⟩ (runF 1 n f) [.ref a] H (fun v _ => v = .bl true) E := by
  refine ⟨H, [.scr ns], Same.refl _, .cons (.scr hS) .nil, ?_⟩
  rw [h]
  intro v H' F' gr rv
  cases rv
  rfl
theorem cx_no {w : World} {H : Hp} {s : Shared} {e : Value} {s' : Shared} (h : L2.CX P w [] H s (fun _ _ _ => False) e s') : False := by
  obtain ⟨_, _, _, _, _, _, _, _, _, _, _, _, z⟩ := h
  exact z
end
end DL
namespace DL
open PySem PySem.Spec PyProof.Rows L2
abbrev AlB : Type := Bool × List He.FnW × List He.FnW
/-- a def without what it closes over -/
def clW (K : PySem.W.Frag) (p : Str × Option Str) : He.FnW := match K.lookup (He.fAd K p) with
  | some ⟨_, _, .func fd, _⟩ => some (fd.name, fd.qualname, fd.params, fd.body, fd.scope, fd.globals, [], fd.builtins)
  | _ => none
def obsB (fa : List He.Fa) (fn xn : List He.DefD) (ex : PySem.W.Frag → Bool) (K : PySem.W.Frag) : AlB := ((fa.all fun f => f.ok K) && ((fn.all fun d => d.ok K) && ex K), fn.map (fun d => He.fnW K d.at_), xn.map fun d => clW K d.at_)
def valB (fn xn : List He.DefD) : AlB := (true, fn.map He.DefD.val, xn.map He.DefD.val)
structure Says (fa : List He.Fa) (fn xn : List He.DefD) (ex : PySem.W.Frag → Bool) (K : PySem.W.Frag) : Prop where
  eq : obsB fa fn xn ex K = valB fn xn
def obsBG (n : Nat) (fa : List He.Fa) (fn xn : List He.DefD) (ex : PySem.W.Frag → Bool) (g : Addr → Option Obj) : AlB := obsB fa fn xn ex (He.frG g (cStatics :: He.asD g n))
def hookB (n : Nat) (fa : List He.Fa) (fn xn : List He.DefD) (ex : PySem.W.Frag → Bool) : PySem.W.Hook where
  α := AlB
  obs := fun s => obsBG n fa fn xn ex s.heap.get?
  val := fun _ => valB fn xn
  says := fun _ h => ∃ K : PySem.W.Frag, K.In h ∧ Says fa fn xn ex K
  of := fun _ _ e => ⟨_, He.frG_in, ⟨e⟩⟩
  keeps := fun _ _ _ ⟨K, hK, c⟩ k => ⟨K, PySem.W.Frag.In.keeps hK k, c⟩
theorem obsBG_eq {n : Nat} {fa : List He.Fa} {fn xn : List He.DefD} {ex : PySem.W.Frag → Bool} {g : Addr → Option Obj} {s : Shared} (h : ∀ a, g a = s.heap.get? a) : obsBG n fa fn xn ex g = (hookB n fa fn xn ex).obs s := by
  have e : g = s.heap.get? := funext h
  rw [e] <;> rfl
section
variable {fa : List He.Fa} {fn xn : List He.DefD} {ex : PySem.W.Frag → Bool} {K : PySem.W.Frag}
theorem Says.fact (c : Says fa fn xn ex K) (i : Nat) {f : He.Fa} (h : fa[i]? = some f := by rfl) : f.ok K = true := by
  have c1 := (He.ba (show ((fa.all fun f => f.ok K) && ((fn.all fun d => d.ok K) && ex K)) = true from congrArg (fun z : AlB => z.1) c.eq)).1
  exact List.all_eq_true.mp c1 f (List.mem_of_getElem? h)
theorem Says.xtra (c : Says fa fn xn ex K) : ex K = true :=
  (He.ba (He.ba (show ((fa.all fun f => f.ok K) && ((fn.all fun d => d.ok K) && ex K)) = true from congrArg (fun z : AlB => z.1) c.eq)).2).2
theorem Says.def_ (c : Says fa fn xn ex K) (i : Nat) {d : He.DefD} (h : fn[i]? = some d := by rfl) : ∃ fd, FunD K d.name d.qual d.params d.body d.scope (d.dvs K) (d.kws K) (He.fAd K d.at_) fd := by
  have c2 := (He.ba (He.ba (show ((fa.all fun f => f.ok K) && ((fn.all fun d => d.ok K) && ex K)) = true from congrArg (fun z : AlB => z.1) c.eq)).2).1
  have e : fn.map (fun d => He.fnW K d.at_) = fn.map He.DefD.val := congrArg (fun z : AlB => z.2.1) c.eq
  have e2 : (fn.map fun d => He.fnW K d.at_)[i]? = (fn.map He.DefD.val)[i]? := by rw [e]
  rw [List.getElem?_map, List.getElem?_map, h] at e2
  exact He.DefD.funD (Option.some.inj e2) (List.all_eq_true.mp c2 d (List.mem_of_getElem? h))
theorem Says.clo (c : Says fa fn xn ex K) (i : Nat) {d : He.DefD} (h : xn[i]? = some d := by rfl) : clW K d.at_ = d.val := by
  have e : xn.map (fun d => clW K d.at_) = xn.map He.DefD.val := congrArg (fun z : AlB => z.2.2) c.eq
  have e2 : (xn.map fun d => clW K d.at_)[i]? = (xn.map He.DefD.val)[i]? := by rw [e]
  rw [List.getElem?_map, List.getElem?_map, h] at e2
  exact Option.some.inj e2
end
structure Fk (P : Program) (w : World) (K : PySem.W.Frag) (mg : Str → Option Value) (base : Heap) (x : Str) (lvl : Nat) (f : Addr) (ps : List Str) (sp : Sp) : Prop where
  ok : ∃ fd, FnOk P w K mg base (L2.CX P w) lvl f fd ps sp ∧ Binds K fd ps []
  gm : mg x = some (.ref f)
  kp : PySem.W.keepIn K (.ref f) = true
section
variable {X : Cx} {x : Str} {lvl : Nat} {f : Addr} {ps : List Str} {sp : Sp} {W : WX} {e : Expr} {es : List Expr} {t : TA} {p pos : Pos}
theorem Fk.pe (F : Fk X.prog X.w X.K X.mg X.base x lvl f ps sp) (hr : Room lvl X.A) (hg : Gl X x) (tk : Takes X W) (ha : PA X (e :: es) t)
    (hdb : (x == ("__debug__" : Str)) = false := by decide) (he : starEach (e :: es) X.env = (false, eval e X.env) :: starEach es X.env := by rfl) (hpl : (backTo pos (starEach es X.env)).any (·.1) = false := by rfl) :
    PE X (.Call (.Name x p) (e :: es) [] pos) (tCallS sp (WE W) t) := by
  obtain ⟨fd, G, b⟩ := F.ok
  exact pe_callS G hr hg F.gm F.kp b (fun σ => passAt tk σ) ha hdb he hpl
/-- a method of data -/
structure Mf (P : Program) (w : World) (K : PySem.W.Frag) (mg : Str → Option Value) (base : Heap) (C : Addr) (m : Str) (lvl : Nat) (f : Addr) (ps : List Str) (sp : Sp) : Prop where
  ok : ∃ fd, FnOk P w K mg base (L2.CX P w) lvl f fd ps sp ∧ Binds K fd ps []
  me : Meth K C m f
variable {C : Addr} {m : Str} {o : Expr} {ta : TE} {apos : Pos}
theorem Mf.pe {pl : Sem Bool} (F : Mf X.prog X.w X.K X.mg X.base C m lvl f ps sp) (hr : Room lvl X.A) (c : Cls X.K C) (he : PE X o ta) (ha : PA X (e :: es) t)
    (hst : starEach (e :: es) X.env = (false, eval e X.env) :: starEach es X.env := by rfl) (hpl : (backTo pos (starEach es X.env)).any (·.1) = false := by rfl)
    (ht : eval (.Call (.Attribute o m apos) (e :: es) [] pos) X.env = (do
      let ov ← eval o X.env
      standAt apos.atName
      let (f, first) ← holding [ov] (getMethod ov m pl)
      callWith pos f first (backTo pos (starEach (e :: es) X.env)) (backToKw pos (keywordEach [] X.env))) := by rfl) :
    PE X (.Call (.Attribute o m apos) (e :: es) [] pos) (tMeth C m sp [] E0 ta t) := by
  obtain ⟨fd, G, b⟩ := F.ok
  exact pe_meth he c F.me G hr b .nil passL ha hst hpl ht
/-- the calls of a class -/
structure Kf (P : Program) (w : World) (K : PySem.W.Frag) (mg : Str → Option Value) (base : Heap) (c : Str) (lvl : Nat) (C f : Addr) (ps : List Str) (sp : Sp) : Prop where
  ok : ∃ fd, FnOk P w K mg base (L2.CX P w) lvl f fd ps sp ∧ Binds K fd ps []
  mkr : Mk K C f
  gm : mg c = some (.ref C)
theorem Kf.pe {c : Str} (F : Kf X.prog X.w X.K X.mg X.base c lvl C f ps sp) (hr : Room (lvl + 1) X.A) (hg : Gl X c) (tk : Takes X W) (ha : PA X (e :: es) t)
    (hdb : (c == ("__debug__" : Str)) = false := by decide) (he : starEach (e :: es) X.env = (false, eval e X.env) :: starEach es X.env := by rfl) (hpl : (backTo pos (starEach es X.env)).any (·.1) = false := by rfl) :
    PE X (.Call (.Name c p) (e :: es) [] pos) (tMakeS C sp (WE W) t) := by
  obtain ⟨fd, G, b⟩ := F.ok
  exact pe_makeS F.mkr G hr hg F.gm b (fun σ => passAt tk σ) ha hdb he hpl
theorem room_u {k : Nat} {A : Around} (r : Room k A) : A.units + 65 < cLine := by have := r.un; omega
theorem room_u4 {k : Nat} {A : Around} (r : Room k A) : A.units + 64 < cLine := by have := r.un; omega
/-- a comprehension stored under a name -/
theorem es_ownLc {g : G} {s : Stmt} {i : Nat} {vs : List Nat} {t : Tg} {fi : Den (List D)} {test : Den Bool} {elt : Den D} (he : PS X s (tAsg (tLc (tI g W fi) (tG g t) (tT g WN test) (tE g WN elt) vs) (gName i))) (hv : ∀ i ∈ t.is, i ∈ vs := by decide) : PS X s (tS g W (sOwn i (dComp vs t fi test elt))) :=
  es_own (he.imp fun D σ H q => comp_imp hv q)
theorem ets_nil {g : G} : PTs X [] (tT g W dYes) := ⟨fun pins s σ H Q I ⟨P, F, st, s0, o⟩ => pts_nil.run pins s σ H Q I (o H F (Same.refl _) s0)⟩
end
end DL
namespace DL
open PySem PySem.Spec PyProof.Rows L2
/-- the end of a law: its def's promise, over the facts of the head -/
theorem law_end {l : PySem.W.OpenLaw} {k n : Nat} {q : Program} {loose : List Str} {XP : (Str → Option Value) → Heap → Prop} {d : PySem.DefRec} {fa : List He.Fa} {fn xn : List He.DefD} {ex : PySem.W.Frag → Bool} {f : DS} {H : Nat}
    (hn : l.most = some 63) (hdf : d.params.defaults = []) (hr : Room k callerA) (hname : d.name = ("law" : Str))
    (F : ∀ (w : World) (K : PySem.W.Frag) (mg : Str → Option Value) (h : Heap), K.In h → h.Ns mainGlobals mg → Says fa fn xn ex K → mg ("law" : Str) = some (.ref (He.fAd K (("law" : Str), none))) ∧
      ∃ fd : FuncData, (∀ (s : Shared) (u : Value), BindsTo s fd ⟨[u], []⟩ [(("_law_script" : Str), u)]) ∧ ∀ base : Heap, FnOk l.prog w K mg base (L2.CX l.prog w) k (He.fAd K (("law" : Str), none)) fd [("_law_script" : Str)] (spD ⟨K, mg, none, tk⟩ (runF 1 n f)))
    (math : ∀ ns : List Int, runF 1 n f [.scr ns] = .ok (.bl true)) :
    PySem.W.WalkO q loose XP (hookB H fa fn xn ex).says l.row.toRowW d [] (fun f vs => PySem.call f vs) := by
  refine Att.attach_call hn hdf fun w s₀ s₁ mg mb fa' o pm cd doc a vs ns G Y ho hd hcd hmg hobj hints hlen hg => ?_
  obtain ⟨K, KX, c⟩ := Y
  rw [hname] at hmg
  obtain ⟨g1, fd, hb, hF⟩ := F w K mg _ KX G.T.g c
  rw [hmg] at g1
  cases g1
  exact law_call KX G.T.g G.T.b G.T.builtins G.T.nolimit hg hobj hints (Nat.le_trans hlen (by decide)) hr (fun base _ _ => hF base) hb (fun H hO hS => law_sp hS (math ns) _) fun H e s' h => cx_no h
theorem ev_gint {X : Cx} {g : G} {W : WX} {x : Str} {i : Int} {pos : Pos} (h : ∃ t, X.mg x = some (.int i t)) (hg : Gl X x) (hd : (x == ("__debug__" : Str)) = false := by decide) : PE X (.Name x pos) (tE g W (dC (.int i))) := by
  obtain ⟨t, h⟩ := h
  exact ev_c (pe_glob (v := .int i) hg h ⟨_, rfl⟩ hd) fun _ => .int _
section
variable {X : Cx} {g : G} {W : WX} {P : Par} {σ : L2.St} {H F : Hp} {st : DSt} {e : Expr} {s : Stmt} {ss : List Stmt} {f h : Den D}
/-- sorted of ints -/
def insI (x : Int) : List Int → List Int
  | [] => [x]
  | y :: r => if x ≤ y then x :: y :: r else y :: insI x r
def sortI : List Int → List Int
  | [] => []
  | x :: r => insI x (sortI r)
theorem insI_perm (x : Int) : ∀ l, (insI x l).Perm (x :: l)
  | [] => .refl _
  | y :: r => by
    unfold insI
    split
    · exact .refl _
    · exact ((insI_perm x r).cons y).trans (.swap x y r)
theorem sortI_perm : ∀ l, (sortI l).Perm l
  | [] => .refl _
  | x :: r => (insI_perm x _).trans ((sortI_perm r).cons x)
theorem insI_sorted (x : Int) : ∀ l : List Int, l.Pairwise (· ≤ ·) → (insI x l).Pairwise (· ≤ ·)
  | [], _ => by simp [insI]
  | y :: r, h => by
    unfold insI
    split
    · rename_i hx
      refine List.pairwise_cons.mpr ⟨fun z hz => ?_, h⟩
      rcases List.mem_cons.mp hz with rfl | hz
      · exact hx
      · exact Int.le_trans hx ((List.pairwise_cons.mp h).1 z hz)
    · rename_i hx
      obtain ⟨h1, h2⟩ := List.pairwise_cons.mp h
      refine List.pairwise_cons.mpr ⟨fun z hz => ?_, insI_sorted x r h2⟩
      rcases List.mem_cons.mp ((insI_perm x r).mem_iff.mp hz) with rfl | hz
      · omega
      · exact h1 z hz
theorem sortI_sorted : ∀ l, (sortI l).Pairwise (· ≤ ·)
  | [] => .nil
  | x :: r => insI_sorted x _ (sortI_sorted r)
theorem sorted_unique : ∀ {l m : List Int}, l.Perm m → l.Pairwise (· ≤ ·) → m.Pairwise (· ≤ ·) → l = m
  | [], m, p, _, _ => (List.nil_perm.mp p).symm
  | x :: l, m, p, h1, h2 => by
    cases m with
    | nil => exact absurd p.symm (by simp)
    | cons y m =>
      obtain ⟨a1, a2⟩ := List.pairwise_cons.mp h1
      obtain ⟨b1, b2⟩ := List.pairwise_cons.mp h2
      have hxy : x = y := by
        have hx : x ∈ y :: m := p.mem_iff.mp List.mem_cons_self
        have hy : y ∈ x :: l := p.mem_iff.mpr List.mem_cons_self
        rcases List.mem_cons.mp hx with e | hx
        · exact e
        · rcases List.mem_cons.mp hy with e | hy
          · exact e.symm
          · exact Int.le_antisymm (a1 y hy) (b1 x hx)
      subst hxy
      rw [sorted_unique (List.Perm.cons_inv p) a2 b2]
def nSorted : D → Option (List D)
  | .lst ds => match intsOf ds with | some is => some ((sortI is).map D.int) | none => none
  | .tup _ => none
  | _ => none
end
end DL
namespace DL
open PySem PySem.Spec PyProof.Rows L2
def compGo2 (vs : List Nat) (t : Tg) (elt : Den (List D)) : List D → Den (List (List D))
  | [] => retD []
  | d :: ds => fun st => match setT t d st with
    | none => .stuck
    | some st1 => match elt st1 with
      | .ok y st3 => match compGo2 vs t elt ds (wipeD st3 vs) with
        | .ok ys st4 => .ok (y :: ys) st4
        | _ => .stuck
      | _ => .stuck
def dComp2 (vs : List Nat) (t : Tg) (fi : Den (List D)) (elt : Den (List D)) : Den (List (List D)) := bindD fi fun ds => fun st =>
  if ds.length ≤ big ∧ vs.all (plainAt st) = true then
    match compGo2 vs t elt ds (wipeD st vs) with
    | .ok ys st' => .ok ys (backD st st' vs)
    | _ => .stuck
  else .stuck
abbrev BL := List (Addr × List V)
def refs (bl : BL) : List V := bl.map fun q => V.ref q.1
/-- guarded: the new list D and the lists in it -/
def gd2 (P : Par) (D : Addr) (bl : BL) : Par := ⟨P.B, fun x => if x = D then some (.lst (refs bl)) else match bl.lookup x with
  | some vs => some (.lst vs)
  | none => P.R x, fun x => P.N x ∨ x = D ∨ x ∈ bl.map (·.1)⟩
structure RL2 (g : G) (F : Hp) (bl : BL) (dss : List (List D)) : Prop where
  len : bl.length = dss.length
  at_ : ∀ (j : Nat) (q : Addr × List V) (ds : List D), bl[j]? = some q → dss[j]? = some ds → Rl g F q.2 ds
theorem RL2.mono {g : G} {F F' : Hp} {bl : BL} {dss : List (List D)} (e : Same F F') (h : RL2 g F bl dss) : RL2 g F' bl dss := ⟨h.len, fun j q ds e1 e2 => (h.at_ j q ds e1 e2).mono e⟩
theorem RL2.snoc {g : G} {F : Hp} {bl : BL} {dss : List (List D)} {p : Addr} {vs : List V} {ds : List D} (h : RL2 g F bl dss) (r : Rl g F vs ds) : RL2 g F (bl ++ [(p, vs)]) (dss ++ [ds]) := by
  refine ⟨by simp [h.len], fun j q es e1 e2 => ?_⟩
  rcases Nat.lt_or_ge j bl.length with hj | hj
  · rw [List.getElem?_append_left hj] at e1
    rw [List.getElem?_append_left (by rw [← h.len]; exact hj)] at e2
    exact h.at_ j q es e1 e2
  · rw [List.getElem?_append_right hj] at e1
    rw [List.getElem?_append_right (by rw [← h.len]; exact hj)] at e2
    have : j - bl.length = 0 := by
      have := (List.getElem?_eq_some_iff.mp e1).1
      simp at this; omega
    rw [this] at e1
    rw [← h.len, this] at e2
    simp at e1 e2
    subst e1; subst e2
    exact r
theorem lookup_some {bl : BL} {x : Addr} {vs : List V} : bl.lookup x = some vs → (x, vs) ∈ bl := by
  induction bl with
  | nil => intro h; cases h
  | cons q bl ih =>
    obtain ⟨y, ws⟩ := q
    intro h
    rw [List.lookup_cons] at h
    cases hx : x == y with
    | true => rw [hx] at h; cases h; rw [beq_iff_eq.mp hx]; exact List.mem_cons_self
    | false => rw [hx] at h; exact List.mem_cons_of_mem _ (ih h)
theorem lookup_mem {bl : BL} {x : Addr} {vs : List V} (nd : (bl.map (·.1)).Nodup) : (x, vs) ∈ bl → bl.lookup x = some vs := by
  induction bl with
  | nil => intro h; cases h
  | cons q bl ih =>
    obtain ⟨y, ws⟩ := q
    intro h
    rw [List.map_cons, List.nodup_cons] at nd
    rw [List.lookup_cons]
    rcases List.mem_cons.mp h with e | h
    · cases e; simp
    · have hx : (x == y) = false := by
        rw [beq_eq_false_iff_ne]
        intro z
        exact nd.1 (z ▸ List.mem_map.mpr ⟨_, h, rfl⟩)
      rw [hx]; exact ih nd.2 h
theorem lookup_none {bl : BL} {x : Addr} (h : x ∉ bl.map (·.1)) : bl.lookup x = none := by
  cases e : bl.lookup x with
  | none => rfl
  | some vs => exact absurd (List.mem_map.mpr ⟨_, lookup_some e, rfl⟩) h
section
variable {X : Cx} {g : G} {W : WX} {P : Par} {σ : L2.St} {H F : Hp} {st : DSt} {e : Expr} {s : Stmt}
/-- p and the lists in it belong to nobody -/
structure SR2 (g : G) (P : Par) (σ : L2.St) (H F : Hp) (st : DSt) (p : Addr) (bl : BL) : Prop where
  ex : ∃ O, SRc g P O σ H F st ∧ (O p = none ∧ F p = none ∧ P.R p = none ∧ ¬ P.N p) ∧ ∀ b ∈ bl.map (·.1), O b = none ∧ F b = none ∧ P.R b = none ∧ ¬ P.N b
  at_ : H p = some (.lst (refs bl))
  nd : (bl.map (·.1)).Nodup
  np : p ∉ bl.map (·.1)
  it : ∀ q ∈ bl, H q.1 = some (.lst q.2)
def OutN2 (g : G) (W : WX) (P : Par) (σ : L2.St) (F : Hp) (r : Res (List (List D))) (Q : VK) : Prop := match r with
  | .ok dss st' => ∀ H' F' p bl, Same F F' → SR2 g P σ H' F' st' p bl → RL2 g F' bl dss → Q (.ref p) H'
  | .exn c fs st' => ∀ cls dd H' F', Same F F' → SR g P σ H' F' st' → RepX g F' H' c fs cls dd → W cls dd σ H'
  | .stuck => False
def tN2 (g : G) (W : WX) (f : Den (List (List D))) : TE := fun σ H Q => ∃ P F st, SR g P σ H F st ∧ OutN2 g W P σ F (f st) Q
theorem OutN2.weak {r : Res (List (List D))} {Q : VK} {F' : Hp} (e : Same F F') (h : OutN2 g W P σ F r Q) : OutN2 g W P σ F' r Q := by
  cases r with
  | ok a st' => exact fun H' F2 p bl e2 s => h H' F2 p bl (e.trans e2) s
  | exn c fs st' => exact fun cls dd H' F2 e2 s => h cls dd H' F2 (e.trans e2) s
  | stuck => exact h
theorem OutN2.bind {α : Type} {a : Den α} {ff : α → Den (List (List D))} {Q : VK} (h : OutN2 g W P σ F (bindD a ff st) Q) : Out g W P σ F (a st) (fun x st1 _ F1 => OutN2 g W P σ F1 (ff x st1) Q) := by
  unfold bindD at h
  revert h
  cases a st with
  | ok x st' => exact fun h H' F' e s => OutN2.weak e h
  | exn c fs st' => exact fun h => h
  | stuck => exact fun h => h
/-- the guard holds what it guards -/
theorem gd2_at {D : Addr} {bl : BL} (s : SR g (gd2 P D bl) σ H F st) (nd : (bl.map (·.1)).Nodup) (np : D ∉ bl.map (·.1)) : H D = some (.lst (refs bl)) ∧ ∀ q ∈ bl, H q.1 = some (.lst q.2) := by
  obtain ⟨O, c⟩ := s
  refine ⟨c.rr D _ (by show (if D = D then _ else _) = _; rw [if_pos rfl]), fun q hq => c.rr q.1 _ ?_⟩
  have hne : q.1 ≠ D := fun z => np (z ▸ List.mem_map.mpr ⟨_, hq, rfl⟩)
  show (if q.1 = D then _ else _) = _
  rw [if_neg hne, lookup_mem (x := q.1) (vs := q.2) nd hq]
theorem gd2_own {D : Addr} {bl : BL} {O : Addr → Option Nat} (c : SRc g (gd2 P D bl) O σ H F st) {b : Addr} {i : Nat} (h : O b = some i) : b ≠ D ∧ b ∉ bl.map (·.1) ∧ P.R b = none := by
  have q := (c.oo b i h).2.1
  have q : (if b = D then some (HO.lst (refs bl)) else match bl.lookup b with
    | some vs => some (.lst vs)
    | none => P.R b) = none := q
  by_cases hb : b = D
  · rw [if_pos hb] at q; cases q
  · rw [if_neg hb] at q
    refine ⟨hb, fun hm => ?_, ?_⟩
    · cases e : bl.lookup b with
      | some vs => rw [e] at q; cases q
      | none =>
        obtain ⟨⟨b', vs⟩, hq, rfl⟩ := List.mem_map.mp hm
        have : ∀ bl : BL, (b', vs) ∈ bl → bl.lookup b' ≠ none := by
          intro bl
          induction bl with
          | nil => intro h; cases h
          | cons q bl ih =>
            obtain ⟨y, ws⟩ := q
            intro h
            rw [List.lookup_cons]
            cases hx : b' == y with
            | true => simp
            | false =>
              rcases List.mem_cons.mp h with e | h
              · cases e; simp at hx
              · exact ih h
        exact this bl hq e
    · cases e : bl.lookup b with
      | some vs => rw [e] at q; cases q
      | none => rw [e] at q; exact q
theorem gd2_start {D : Addr} (s : SR g P σ H F st) (h : H D = none) : SR g (gd2 P D []) σ (upd H D (.lst [])) F st := by
  obtain ⟨O, c, o0, f0, r0, n0⟩ := s.newx (o := .lst []) h
  refine ⟨O, c.le, fun b u e => ?_, fun b i e => ⟨(c.oo b i e).1, ?_, (c.oo b i e).2.2⟩, fun b n => ?_, c.len, fun i s ov e1 e2 => ?_⟩
  · have e : (if b = D then some (HO.lst (refs [])) else P.R b) = some u := e
    by_cases hb : b = D
    · subst hb; rw [if_pos rfl] at e; rw [← e]; exact upd_same
    · rw [if_neg hb] at e; exact c.rr b u e
  · have hb : b ≠ D := fun z => by rw [z, o0] at e; cases e
    show (if b = D then some (HO.lst (refs [])) else P.R b) = none
    rw [if_neg hb]; exact (c.oo b i e).2.1
  · rcases n with n | rfl | n
    · exact c.no b n
    · exact ⟨f0, NT.of upd_same⟩
    · cases n
  · exact (c.sl i s ov e1 e2).move rfl (fun _ h => h) (Same.refl _) (fun _ _ _ h => h) fun b o n z => by
      rcases z with z | z | z
      · exact n z
      · rw [z, o0] at o; cases o
      · cases z
theorem gd2_step {D p : Addr} {bl : BL} {vs : List V} (s : SRx g (gd2 P D bl) σ H F st p) (hp : H p = some (.lst vs)) (nd : (bl.map (·.1)).Nodup) (np : D ∉ bl.map (·.1)) :
    SR g (gd2 P D (bl ++ [(p, vs)])) σ (upd H D (.lst (refs bl ++ [.ref p]))) F st ∧ ((bl ++ [(p, vs)]).map (·.1)).Nodup ∧ D ∉ (bl ++ [(p, vs)]).map (·.1) := by
  obtain ⟨O, c, o0, f0, r0, n0⟩ := s
  have hpD : p ≠ D := fun z => n0 (.inr (.inl z))
  have hpb : p ∉ bl.map (·.1) := fun z => n0 (.inr (.inr z))
  have fD := (c.no D (.inr (.inl rfl))).1
  have e1 : refs (bl ++ [(p, vs)]) = refs bl ++ [.ref p] := by simp [refs]
  refine ⟨⟨O, fun b u e => ?_, fun b u e => ?_, fun b i e => ?_, fun b n => ?_, c.len, fun i s ov e1 e2 => ?_⟩, ?_, ?_⟩
  · rw [upd_ne (fun z => by rw [z, fD] at e; cases e)]; exact c.le b u e
  · have e : (if b = D then some (HO.lst (refs (bl ++ [(p, vs)]))) else match (bl ++ [(p, vs)]).lookup b with
      | some vs => some (.lst vs)
      | none => P.R b) = some u := e
    by_cases hb : b = D
    · subst hb; rw [if_pos rfl, e1] at e; rw [← e]; exact upd_same
    · rw [if_neg hb] at e
      rw [upd_ne hb]
      by_cases hbp : b = p
      · subst hbp
        have : (bl ++ [(b, vs)]).lookup b = some vs := by
          rw [List.lookup_append, lookup_none hpb]
          simp
        rw [this] at e
        rw [hp]; exact e
      · have : (bl ++ [(p, vs)]).lookup b = bl.lookup b := by
          rw [List.lookup_append]
          have : List.lookup b [(p, vs)] = none := by
            rw [List.lookup_cons]
            have : (b == p) = false := by rw [beq_eq_false_iff_ne]; exact hbp
            rw [this]; rfl
          rw [this]
          cases bl.lookup b <;> rfl
        rw [this] at e
        exact c.rr b u (by show (if b = D then _ else _) = _; rw [if_neg hb]; exact e)
  · obtain ⟨h1, h2, h3⟩ := gd2_own c e
    have hbp : b ≠ p := fun z => by rw [z, o0] at e; cases e
    refine ⟨(c.oo b i e).1, ?_, NT.upd h1 (c.oo b i e).2.2⟩
    show (if b = D then _ else _) = _
    rw [if_neg h1, lookup_none (by simp [h2, hbp])]
    exact h3
  · refine ⟨?_, ?_⟩
    · rcases n with n | n | n
      · exact (c.no b (.inl n)).1
      · exact (c.no b (.inr (.inl n))).1
      · rw [List.map_append, List.mem_append] at n
        rcases n with n | n
        · exact (c.no b (.inr (.inr n))).1
        · have : b = p := by simpa using n
          rw [this]; exact f0
    · by_cases hb : b = D
      · subst hb; exact NT.of upd_same
      · refine NT.upd hb ?_
        rcases n with n | n | n
        · exact (c.no b (.inl n)).2
        · exact absurd n hb
        · rw [List.map_append, List.mem_append] at n
          rcases n with n | n
          · exact (c.no b (.inr (.inr n))).2
          · have : b = p := by simpa using n
            rw [this]; exact NT.of hp
  · exact (c.sl i s ov e1 e2).move rfl (fun _ h => h) (Same.refl _) (fun b o ho h => by rw [upd_ne (gd2_own c ho).1]; exact h) fun b o n z => by
      rcases z with z | z | z
      · exact n (.inl z)
      · exact n (.inr (.inl z))
      · rw [List.map_append, List.mem_append] at z
        rcases z with z | z
        · exact n (.inr (.inr z))
        · have : b = p := by simpa using z
          rw [this, o0] at o; cases o
  · rw [List.map_append, List.nodup_append]
    refine ⟨nd, by simp, fun a ha b hb => ?_⟩
    have : b = p := by simpa using hb
    rw [this]; intro z; exact hpb (z ▸ ha)
  · rw [List.map_append, List.mem_append]
    intro z
    rcases z with z | z
    · exact np z
    · have : D = p := by simpa using z
      exact hpD this.symm
theorem gd2_end {D : Addr} {bl : BL} {H0 F0 : Hp} {st0 : DSt} {vs : List Nat} (s : SR g (gd2 P D bl) (L2.wipe σ vs) H F st) (s0 : SR g P σ H0 F0 st0) (h0 : H0 D = none) (hb0 : ∀ b ∈ bl.map (·.1), P.R b = none ∧ ¬ P.N b) (le : Same F0 F) (hl : st.length = st0.length) (hp : vs.all (plainAt st0) = true)
    (nd : (bl.map (·.1)).Nodup) (np : D ∉ bl.map (·.1)) : SR2 g P σ H F (backD st0 st vs) D bl := by
  obtain ⟨a1, a2⟩ := gd2_at s nd np
  obtain ⟨O, c⟩ := s
  have fresh : ∀ b, H0 b = none → P.R b = none ∧ ¬ P.N b := fun b h => by
    obtain ⟨_, _, _, _, r0, n0⟩ := s0.newx (o := .lst []) h
    exact ⟨r0, n0⟩
  have on : ∀ b, (b = D ∨ b ∈ bl.map (·.1)) → O b = none := fun b hb => by
    cases e : O b with
    | none => rfl
    | some i =>
      obtain ⟨h1, h2, _⟩ := gd2_own c e
      rcases hb with hb | hb
      · exact absurd hb h1
      · exact absurd hb h2
  refine ⟨⟨O, ⟨c.le, fun b u e => ?_, fun b i e => ⟨(c.oo b i e).1, (gd2_own c e).2.2, (c.oo b i e).2.2⟩, fun b n => c.no b (.inl n), ?_, fun i sl ov e1 e2 => ?_⟩, ⟨on D (.inl rfl), (c.no D (.inr (.inl rfl))).1, (fresh D h0).1, (fresh D h0).2⟩,
    fun b hb => ⟨on b (.inr hb), (c.no b (.inr (.inr hb))).1, (hb0 b hb).1, (hb0 b hb).2⟩⟩, a1, nd, np, a2⟩
  · have hb : b ≠ D := fun z => by rw [z, (fresh D h0).1] at e; cases e
    have hbl : b ∉ bl.map (·.1) := fun z => by rw [(hb0 b z).1] at e; cases e
    refine c.rr b u ?_
    show (if b = D then _ else _) = _
    rw [if_neg hb, lookup_none hbl]
    exact e
  · rw [backD_length]
    have := c.len
    rw [wipe_length] at this
    exact this
  · by_cases hi : i ∈ vs
    · have es := backD_in hi sl e1
      have hpl := List.all_eq_true.mp hp i hi
      unfold plainAt at hpl
      cases e0 : st0[i]? with
      | none => rw [e0] at es; subst es; trivial
      | some s0' =>
        rw [e0] at es hpl
        simp only [Option.getD_some] at es
        subst es
        cases sl with
        | no => trivial
        | sh d =>
          obtain ⟨O0, c0⟩ := s0
          obtain ⟨v, ev, r⟩ := c0.sl i _ ov e0 e2
          exact ⟨v, ev, r.mono le⟩
        | _ => cases hpl
    · rw [backD_out hi] at e1
      exact (c.sl i sl ov e1 (by rw [wipe_out hi]; exact e2)).move rfl (fun _ h => h) (Same.refl _) (fun _ _ _ h => h) fun _ _ n z => n (.inl z)
theorem setT_length {t : Tg} {d : D} {st st' : DSt} (h : setT t d st = some st') : st'.length = st.length := by
  have key : ∀ is ds (st st' : DSt), setAll is ds st = some st' → st'.length = st.length := by
    intro is
    induction is with
    | nil => intro ds st st' e; cases ds with | nil => cases e; rfl | cons d ds => cases e
    | cons i is ih =>
      intro ds st st' e
      cases ds with
      | nil => cases e
      | cons d ds =>
        unfold setAll at e
        split at e
        · rename_i sti hsi
          obtain ⟨_, rfl⟩ := slotSet_some hsi
          rw [ih _ _ _ e, List.length_set]
        · cases e
  unfold setT at h
  cases t with
  | nm i => obtain ⟨_, rfl⟩ := slotSet_some h; rw [List.length_set]
  | nms is =>
    cases d with
    | tup ds => exact key _ _ _ _ h
    | _ => cases h
theorem comp2_imp {vs : List Nat} {t : Tg} {fi : Den (List D)} {elt : Den (List D)} {Q : VK} (hv : ∀ i ∈ t.is, i ∈ vs) (q : tN2 g W (dComp2 vs t fi elt) σ H Q) :
    tLc (tI g W fi) (tG g t) (tT g WN dYes) (tN g WN elt) vs σ H Q := by
  obtain ⟨P, F, st, s, o⟩ := q
  refine ⟨P, F, st, s, OutN2.bind o |>.imp fun ds st1 H1 F1 le1 s1 o1 J wk D hD => ?_⟩
  split at o1
  · rename_i hc
    obtain ⟨hbig, hpl⟩ := hc
    refine ⟨fun i m H => m = ds.length - i ∧ i ≤ ds.length ∧ ∃ F' st' bl acc, Same F1 F' ∧ SR g (gd2 P D bl) (L2.wipe σ vs) H F' st' ∧ RL2 g F' bl acc ∧ acc.length ≤ i ∧ st'.length = st1.length ∧ (bl.map (·.1)).Nodup ∧ D ∉ bl.map (·.1) ∧ (∀ b ∈ bl.map (·.1), P.R b = none ∧ ¬ P.N b) ∧
      ∃ ys stE, compGo2 vs t elt (ds.drop i) st' = .ok ys stE ∧ compGo2 vs t elt ds (wipeD st1 vs) = .ok (acc ++ ys) stE, ?_, ?_⟩
    · split at o1
      · rename_i ys stE hgo
        exact ⟨ds.length, by simp, Nat.zero_le _, F1, wipeD st1 vs, [], [], Same.refl _, gd2_start (s1.wipe vs) hD, ⟨rfl, fun j q es e1 _ => by simp at e1⟩, Nat.zero_le _, wipeD_length _ _, .nil, by simp, by simp, ys, stE, by simpa using hgo, by simpa using hgo⟩
      · exact o1.elim
    · rintro i m H2 ⟨rfl, hi, F', st', bl, acc, le, s', racc, hacc, hlen, nd, np, hR, ys, stE, hgo, hall⟩
      by_cases hlt : i < ds.length
      · obtain ⟨d0, hd0⟩ : ∃ d, ds[i]? = some d := ⟨ds[i], List.getElem?_eq_getElem hlt⟩
        have hdr : ds.drop i = d0 :: ds.drop (i + 1) := by
          rw [List.drop_eq_getElem_cons hlt]
          have := List.getElem?_eq_getElem hlt
          rw [hd0] at this; rw [← Option.some.inj this]
        rw [hdr] at hgo
        refine .inr ⟨wk.go i H2 (le.trans s'.le) hlt, fun H => ∃ F' st' bl acc, Same F1 F' ∧ SR g (gd2 P D bl) (L2.wipe σ vs) H F' st' ∧ RL2 g F' bl acc ∧ acc.length ≤ i + 1 ∧ st'.length = st1.length ∧ (bl.map (·.1)).Nodup ∧ D ∉ bl.map (·.1) ∧ (∀ b ∈ bl.map (·.1), P.R b = none ∧ ¬ P.N b) ∧
          ∃ ys stE, compGo2 vs t elt (ds.drop (i + 1)) st' = .ok ys stE ∧ compGo2 vs t elt ds (wipeD st1 vs) = .ok (acc ++ ys) stE, fun H' nx => ⟨ds.length - (i + 1), by omega, rfl, hlt, nx⟩, fun x H' y => ?_⟩
        obtain ⟨d, hd, yy⟩ := wk.yld i H2 x H' (le.trans s'.le) hlt y
        obtain ⟨F', le2, s', rd⟩ := s'.yl le yy
        have le := le.trans le2
        have racc := racc.mono le2
        rw [hd0] at hd; cases hd
        unfold compGo2 at hgo
        cases hset : setT t d0 st' with
        | none => rw [hset] at hgo; cases hgo
        | some st2 =>
          rw [hset] at hgo
          refine ⟨gd2 P D bl, F', st', d0, s', rd, st2, hset, fun xs s2 => ⟨?_, ?_⟩⟩
          · rw [wipe_setσ hv, wipe_wipe]
          · refine ⟨gd2 P D bl, F', st2, s2, fun H3 F3 le3 s3 => ?_⟩
            show (if true = true then _ else _)
            rw [if_pos rfl]
            refine ⟨gd2 P D bl, F3, st2, s3, ?_⟩
            simp only at hgo
            revert hgo
            cases elt st2 with
            | ok y st4 =>
              intro hgo H4 F4 p vs4 le4 s4 hp4 rv
              simp only at hgo
              have hD4 := (gd2_at s4.sr nd np).1
              have hb : big = sizeLine := big_eq
              have hlb : (refs bl).length = acc.length := by simp [refs, racc.len]
              have hfresh : P.R p = none ∧ ¬ P.N p := by
                obtain ⟨O, c, o0, f0, r0, n0⟩ := s4
                have hpD : p ≠ D := fun z => n0 (.inr (.inl z))
                have hpb : p ∉ bl.map (·.1) := fun z => n0 (.inr (.inr z))
                have r1 : (if p = D then some (HO.lst (refs bl)) else match bl.lookup p with
                  | some vs => some (.lst vs)
                  | none => P.R p) = none := r0
                rw [if_neg hpD, lookup_none hpb] at r1
                exact ⟨r1, fun z => n0 (.inl z)⟩
              have s5 : SRx g (gd2 P D bl) (L2.wipe σ vs) H4 F4 (wipeD st4 vs) p := by
                obtain ⟨O, c, rest⟩ := s4
                obtain ⟨O2, c2⟩ : ∃ O2, SRc g (gd2 P D bl) O2 (L2.wipe (setσ t.is xs (L2.wipe σ vs)) vs) H4 F4 (wipeD st4 vs) ∧ O2 = O := by
                  refine ⟨O, ⟨c.le, c.rr, c.oo, c.no, by rw [wipe_length, wipeD_length]; exact c.len, fun i s ov e1 e2 => ?_⟩, rfl⟩
                  by_cases hi : i ∈ vs
                  · rw [wipeD_in hi s e1]; trivial
                  · rw [wipeD_out hi] at e1
                    rw [wipe_out hi] at e2
                    exact c.sl i s ov e1 e2
                obtain ⟨c2, rfl⟩ := c2
                rw [wipe_setσ hv, wipe_wipe] at c2
                exact ⟨_, c2, rest⟩
              obtain ⟨g1, g2, g3⟩ := gd2_step s5 hp4 nd np
              refine ⟨refs bl, hD4, by rw [hlb, ← hb]; omega, F4, wipeD st4 vs, bl ++ [(p, vs4)], acc ++ [y], (le.trans le3).trans le4, g1, (racc.mono (le3.trans le4)).snoc rv, by simp; omega, ?_, g2, g3, fun b hb => ?_, ?_⟩
              · rw [wipeD_length]
                have a1 := s4.sr.len
                have a2 := s2.len
                have a4 := setT_length hset
                omega
              · rw [List.map_append, List.mem_append] at hb
                rcases hb with hb | hb
                · exact hR b hb
                · have : b = p := by simpa using hb
                  rw [this]; exact hfresh
              · revert hgo
                cases hr : compGo2 vs t elt (ds.drop (i + 1)) (wipeD st4 vs) with
                | ok ys' st5 =>
                  intro hgo
                  simp only at hgo
                  cases hgo
                  exact ⟨ys', _, rfl, by rw [List.append_assoc]; exact hall⟩
                | exn c fs st5 => intro hgo; cases hgo
                | stuck => intro hgo; cases hgo
            | exn c fs st4 => intro hgo; cases hgo
            | stuck => intro hgo; cases hgo
      · have e : i = ds.length := by omega
        subst e
        rw [List.drop_length] at hgo
        cases hgo
        refine .inl ⟨wk.stop H2 (le.trans s'.le), ?_⟩
        rw [hall] at o1
        rw [List.append_nil] at o1
        exact o1 H2 F' D bl le (gd2_end s' s1 hD hR le hlen hpl nd np) racc
  · exact o1.elim
def putD2 (i : Nat) (dss : List (List D)) : DS := fun st => match slotSet i (.o2 dss) st with
  | some st' => .ok .nx st'
  | none => .stuck
@[simp] def sOwn2 (i : Nat) (f : Den (List (List D))) : DS := bindD f fun dss => putD2 i dss
theorem SR2.own {p : Addr} {i : Nat} {bl : BL} {dss : List (List D)} (s : SR2 g P σ H F st p bl) (r : RL2 g F bl dss) (hi : i < st.length) : SR g P (σ.set i (some (.ref p))) H F (st.set i (.o2 dss)) := by
  obtain ⟨⟨O, c, ⟨o0, f0, r0, n0⟩, hb⟩, hp, nd, np, it⟩ := s
  refine ⟨fun b => if b = p ∨ b ∈ bl.map (·.1) then some i else if O b = some i then none else O b, c.le, c.rr, fun b j e => ?_, c.no, by rw [List.length_set, List.length_set]; exact c.len, fun j s ov e1 e2 => ?_⟩
  · by_cases hq : b = p ∨ b ∈ bl.map (·.1)
    · rcases hq with rfl | hq
      · exact ⟨f0, r0, NT.of hp⟩
      · obtain ⟨q, hq1, rfl⟩ := List.mem_map.mp hq
        exact ⟨(hb _ hq).2.1, (hb _ hq).2.2.1, NT.of (it q hq1)⟩
    · simp only [if_neg hq] at e
      by_cases ho : O b = some i
      · simp [ho] at e
      · simp only [if_neg ho] at e; exact c.oo b j e
  · by_cases hj : j = i
    · subst hj
      rw [List.getElem?_set_self hi] at e1
      rw [List.getElem?_set_self (by rw [c.len]; exact hi)] at e2
      cases e1; cases e2
      refine ⟨p, bl.map (·.1), rfl, by simp, n0, by rw [hp]; simp [refs], nd, np, by simp [r.len], fun k b ds e1 e2 => ?_⟩
      rw [List.getElem?_map] at e1
      cases hk : bl[k]? with
      | none => rw [hk] at e1; cases e1
      | some q =>
        rw [hk] at e1
        have e1 : q.1 = b := Option.some.inj e1
        have hm : q ∈ bl := List.mem_of_getElem? hk
        have hm2 : b ∈ bl.map (·.1) := e1 ▸ List.mem_map.mpr ⟨q, hm, rfl⟩
        refine ⟨by simp only [if_pos (Or.inr hm2)], (hb b hm2).2.2.2, q.2, by rw [← e1]; exact it q hm, r.at_ k q ds hk e2⟩
    · rw [List.getElem?_set_ne (Ne.symm hj)] at e1 e2
      exact (c.sl j s ov e1 e2).move rfl (fun b o => by
        have h1 : ¬ (b = p ∨ b ∈ bl.map (·.1)) := fun z => by
          rcases z with rfl | z
          · rw [o0] at o; cases o
          · rw [(hb b z).1] at o; cases o
        simp only [if_neg h1]
        rw [if_neg (by rw [o]; intro z; exact hj (Option.some.inj z))]; exact o) (Same.refl _) (fun _ _ _ h => h) fun _ _ h => h
theorem es_own2 {i : Nat} {vs : List Nat} {t : Tg} {fi : Den (List D)} {elt : Den (List D)} (he : PS X s (tAsg (tLc (tI g W fi) (tG g t) (tT g WN dYes) (tN g WN elt) vs) (gName i))) (hv : ∀ i ∈ t.is, i ∈ vs := by decide) : PS X s (tS g W (sOwn2 i (dComp2 vs t fi elt))) :=
  (he.imp fun E σ H q => comp2_imp (Q := fun x H1 => gName i x σ H1 E.nx) hv q).imp fun E σ H ⟨P, F, st, s, o⟩ => by
    refine ⟨P, F, st, s, ?_⟩
    unfold sOwn2 at o
    have o : OutS g W P F (bindD (dComp2 vs t fi elt) (fun dss => putD2 i dss) st) E := o
    unfold bindD at o
    revert o
    cases dComp2 vs t fi elt st with
    | ok dss st' =>
      intro o H' F' p bl le s2 r
      have o : OutS g W P F (putD2 i dss st') E := o
      unfold putD2 at o
      split at o
      · rename_i st2 h
        obtain ⟨hi, rfl⟩ := slotSet_some h
        exact o _ H' F' le (s2.own r hi)
      · exact o.elim
    | exn c fs st' => exact fun o cls dd H' F' e s => o cls dd σ H' F' e s
    | stuck => exact fun o => o
end
end DL
namespace DL
open PySem PySem.Spec PyProof.Rows L2
theorem nodup_inj {α : Type} {l : List α} (nd : l.Nodup) {i j : Nat} (hi : i < l.length) (hj : j < l.length) (h : l[i] = l[j]) : i = j := by
  have p := List.pairwise_iff_getElem.mp nd
  rcases Nat.lt_trichotomy i j with q | q | q
  · exact absurd h (p i j hi hj q)
  · exact q
  · exact absurd h.symm (p j i hj hi q)
/-- no exception leaves -/
@[simp] def noX {α : Type} (a : Den α) : Den α := fun st => match a st with
  | .exn _ _ _ => .stuck
  | r => r
/-- the lists of a slot out of sight, guarded -/
def P2 (P : Par) (H : Hp) (a : Addr) (bs : List Addr) : Par := ⟨P.B, fun x => if x = a ∨ x ∈ bs then H x else P.R x, fun x => P.N x ∨ x = a ∨ x ∈ bs⟩
section
variable {X : Cx} {g : G} {W : WX} {P : Par} {σ : L2.St} {H F : Hp} {st : DSt} {e : Expr} {s : Stmt} {f h k : Den D}
theorem SR.hide {i : Nat} {dss : List (List D)} (s : SR g P σ H F st) (h : st[i]? = some (.o2 dss)) : ∃ a bs, σ[i]? = some (some (.ref a)) ∧ H a = some (.lst (bs.map V.ref)) ∧ bs.length = dss.length ∧
    (∀ (j : Nat) (b : Addr) (ds : List D), bs[j]? = some b → dss[j]? = some ds → ∃ vs, H b = some (.lst vs) ∧ Rl g F vs ds) ∧ SR g (P2 P H a bs) σ H F (st.set i .no) ∧
    ∀ (H' F' : Hp) (st' : DSt), Same F F' → SR g (P2 P H a bs) σ H' F' st' → st'[i]? = some .no → (∀ x, (x = a ∨ x ∈ bs) → H' x = H x) ∧ SR g P σ H' F' (st'.set i (.o2 dss)) ∧
      ∀ (j : Nat) (b : Addr) (ds' : List D) (vs' : List V), bs[j]? = some b → Rl g F' vs' ds' → SR g P σ (upd H' b (.lst vs')) F' (st'.set i (.o2 (dss.set j ds'))) := by
  obtain ⟨ov, hov⟩ := SRc.nth s h
  obtain ⟨O, c⟩ := s
  obtain ⟨a, bs, rfl, ho, hn, ha, nd, na, hl, hr⟩ := c.sl i _ _ h hov
  have own : ∀ x, (x = a ∨ x ∈ bs) → O x = some i ∧ ¬ P.N x := fun x hx => by
    rcases hx with rfl | hx
    · exact ⟨ho, hn⟩
    · obtain ⟨j, hj, e⟩ := List.getElem_of_mem hx
      have e1 : bs[j]? = some x := by rw [List.getElem?_eq_getElem hj, e]
      obtain ⟨o, n, _⟩ := hr j x _ e1 (List.getElem?_eq_getElem (by rw [← hl]; exact hj))
      exact ⟨o, n⟩
  refine ⟨a, bs, hov, ha, hl, fun j b ds e1 e2 => (hr j b ds e1 e2).2.2, ?_, ?_⟩
  · refine ⟨fun x => if x = a ∨ x ∈ bs then none else O x, c.le, fun x o e => ?_, fun x j e => ?_, fun x n => ?_, by rw [List.length_set]; exact c.len, fun j s ov e1 e2 => ?_⟩
    · have e : (if x = a ∨ x ∈ bs then H x else P.R x) = some o := e
      by_cases hx : x = a ∨ x ∈ bs
      · rw [if_pos hx] at e; exact e
      · rw [if_neg hx] at e; exact c.rr x o e
    · by_cases hx : x = a ∨ x ∈ bs
      · simp [hx] at e
      · simp only [if_neg hx] at e
        refine ⟨(c.oo x j e).1, ?_, (c.oo x j e).2.2⟩
        show (if x = a ∨ x ∈ bs then H x else P.R x) = none
        rw [if_neg hx]; exact (c.oo x j e).2.1
    · rcases n with n | n
      · exact c.no x n
      · exact ⟨(c.oo x i (own x n).1).1, (c.oo x i (own x n).1).2.2⟩
    · by_cases hj : j = i
      · subst hj
        rw [List.getElem?_set_self (lt_of_get h)] at e1
        cases e1; trivial
      · rw [List.getElem?_set_ne (Ne.symm hj)] at e1
        have hx : ∀ x, O x = some j → ¬ (x = a ∨ x ∈ bs) := fun x o hx => hj (by rw [(own x hx).1] at o; exact (Option.some.inj o).symm)
        exact (c.sl j s ov e1 e2).move rfl (fun x o => by simp only [if_neg (hx x o)]; exact o) (Same.refl _) (fun _ _ _ h => h) fun x o n z => by
          rcases z with z | z
          · exact n z
          · exact hx x o z
  · rintro H' F' st' le ⟨O', c'⟩ hno
    have hR : ∀ x, (x = a ∨ x ∈ bs) → (P2 P H a bs).R x = H x := fun x hx => if_pos hx
    have hH : ∀ x, (x = a ∨ x ∈ bs) → H' x = H x := fun x hx => by
      obtain ⟨o, ho⟩ := (c.oo x i (own x hx).1).2.2.get
      rw [ho]
      exact c'.rr x o (by rw [hR x hx]; exact ho)
    have o0 : ∀ x, (x = a ∨ x ∈ bs) → O' x = none := fun x hx => by
      cases e : O' x with
      | none => rfl
      | some j =>
        have := (c'.oo x j e).2.1
        rw [hR x hx] at this
        exact absurd this (c.oo x i (own x hx).1).2.2.1
    have f0 : ∀ x, (x = a ∨ x ∈ bs) → F' x = none := fun x hx => (c'.no x (.inr hx)).1
    have r0 : ∀ x, (x = a ∨ x ∈ bs) → P.R x = none := fun x hx => (c.oo x i (own x hx).1).2.1
    have rr' : ∀ x o, P.R x = some o → (¬ (x = a ∨ x ∈ bs)) ∧ H' x = some o := fun x o e => by
      have hx : ¬ (x = a ∨ x ∈ bs) := fun hx => by rw [r0 x hx] at e; cases e
      exact ⟨hx, c'.rr x o (by show (if x = a ∨ x ∈ bs then H x else P.R x) = some o; rw [if_neg hx]; exact e)⟩
    -- the new owner map
    have key : ∀ (H2 : Hp) (dss2 : List (List D)), (∀ x, ¬ (x ∈ bs) → H2 x = H' x) → (∀ x, NT H' x → NT H2 x) → bs.length = dss2.length → (∀ (j : Nat) (b : Addr) (ds : List D), bs[j]? = some b → dss2[j]? = some ds → ∃ vs, H2 b = some (.lst vs) ∧ Rl g F' vs ds) →
        SR g P σ H2 F' (st'.set i (.o2 dss2)) := by
      intro H2 dss2 hout hne hl2 hrow
      have hxF : ∀ x o, F' x = some o → ¬ (x = a ∨ x ∈ bs) := fun x o e hx => by rw [f0 x hx] at e; cases e
      refine ⟨fun x => if x = a ∨ x ∈ bs then some i else if O' x = some i then none else O' x, fun x o e => ?_, fun x o e => ?_, fun x j e => ?_, fun x n => ?_, by rw [List.length_set]; exact c'.len, fun j s ov e1 e2 => ?_⟩
      · rw [hout x fun z => hxF x o e (.inr z)]; exact c'.le x o e
      · rw [hout x fun z => (rr' x o e).1 (.inr z)]; exact (rr' x o e).2
      · by_cases hx : x = a ∨ x ∈ bs
        · exact ⟨f0 x hx, r0 x hx, hne x (NT.move (c.oo x i (own x hx).1).2.2 fun u hu => by rw [hH x hx]; exact hu)⟩
        · simp only [if_neg hx] at e
          by_cases ho : O' x = some i
          · simp [ho] at e
          · simp only [if_neg ho] at e
            refine ⟨(c'.oo x j e).1, ?_, hne x (c'.oo x j e).2.2⟩
            have := (c'.oo x j e).2.1
            have : (if x = a ∨ x ∈ bs then H x else P.R x) = none := this
            rw [if_neg hx] at this; exact this
      · have := c'.no x (.inl n)
        exact ⟨this.1, hne x this.2⟩
      · by_cases hj : j = i
        · subst hj
          rw [List.getElem?_set_self (lt_of_get hno)] at e1
          cases e1
          rw [hov] at e2; cases e2
          refine ⟨a, bs, rfl, by simp, hn, by rw [hout a na, hH a (.inl rfl)]; exact ha, nd, na, hl2, fun j b ds e1 e2 => ?_⟩
          have hb := List.mem_of_getElem? e1
          exact ⟨by simp only [if_pos (Or.inr hb)], (own b (.inr hb)).2, hrow j b ds e1 e2⟩
        · rw [List.getElem?_set_ne (Ne.symm hj)] at e1
          have hx : ∀ x, O' x = some j → ¬ (x = a ∨ x ∈ bs) := fun x o hx => by rw [o0 x hx] at o; cases o
          exact (c'.sl j s ov e1 e2).move rfl (fun x o => by
            simp only [if_neg (hx x o)]
            rw [if_neg (by rw [o]; intro z; exact hj (Option.some.inj z))]; exact o) (Same.refl _) (fun x u o h => by rw [hout x fun z => hx x o (.inr z)]; exact h) fun _ _ n z => n (.inl z)
    refine ⟨hH, key H' dss (fun _ _ => rfl) (fun _ h => h) hl fun j b ds e1 e2 => ?_, fun j b ds' vs' hb rr => ?_⟩
    · obtain ⟨_, _, vs, h1, r1⟩ := hr j b ds e1 e2
      exact ⟨vs, by rw [hH b (.inr (List.mem_of_getElem? e1))]; exact h1, r1.mono le⟩
    · have hbm := List.mem_of_getElem? hb
      refine key _ _ (fun x hx => upd_ne fun z => hx (z ▸ hbm)) (fun x hx => ?_) (by rw [List.length_set]; exact hl) fun j2 b2 ds2 e1 e2 => ?_
      · by_cases hz : x = b
        · subst hz; exact NT.of upd_same
        · exact NT.upd hz hx
      · by_cases hjj : j2 = j
        · subst hjj
          rw [hb] at e1
          cases e1
          rw [List.getElem?_set_self (by rw [← hl]; exact lt_of_get hb)] at e2
          cases e2
          exact ⟨vs', upd_same, rr⟩
        · rw [List.getElem?_set_ne (Ne.symm hjj)] at e2
          obtain ⟨_, _, vs, h1, r1⟩ := hr j2 b2 ds2 e1 e2
          have hbb : b2 ≠ b := fun z => by
            subst z
            have h1 := (List.getElem?_eq_some_iff.mp e1)
            have h2 := (List.getElem?_eq_some_iff.mp hb)
            obtain ⟨l1, q1⟩ := h1
            obtain ⟨l2, q2⟩ := h2
            exact hjj (nodup_inj nd l1 l2 (q1.trans q2.symm))
          exact ⟨vs, by rw [upd_ne hbb, hH b2 (.inr (List.mem_of_getElem? e1))]; exact h1, r1.mono le⟩
@[simp] def dO2 (i : Nat) : Den (List (List D)) := fun st => match st[i]? with
  | some (.o2 dss) => .ok dss st
  | _ => .stuck
@[simp] def hideD (i : Nat) : Den Unit := fun st => .ok () (st.set i .no)
@[simp] def backO (i : Nat) (dss : List (List D)) : Den Unit := fun st => match st[i]? with
  | some .no => .ok () (st.set i (.o2 dss))
  | _ => .stuck
@[simp] def rowAt {α : Type} (dss : List α) (k : D) : Option (Nat × α) := match k with
  | .int k => match ixN dss.length k with
    | some j => match dss[j]? with
      | some ds => some (j, ds)
      | none => none
    | none => none
  | _ => none
@[simp] def dIx2 (i : Nat) (e1 e2 : Den D) : Den D := bindD (dO2 i) fun _ => bindD e1 fun k1 => bindD (dO2 i) fun dss => bindD (liftO (rowAt dss k1)) fun r => bindD (hideD i) fun _ => bindD (noX e2) fun k2 => bindD (backO i dss) fun _ => liftO (match rowAt r.2 k2 with | some q => some q.2 | none => none)
@[simp] def sStore2 (i : Nat) (e1 e2 e : Den D) : DS := bindD e fun v => bindD (dO2 i) fun _ => bindD e1 fun k1 => bindD (dO2 i) fun dss => bindD (liftO (rowAt dss k1)) fun r => bindD (hideD i) fun _ => bindD (noX e2) fun k2 =>
  bindD (liftO (rowAt r.2 k2)) fun q => bindD (backO i (dss.set r.1 (r.2.set q.1 v))) fun _ => retD .nx
theorem dO2_ok {i : Nat} {α : Type} {kk : List (List D) → Den α} {K : α → DSt → Hp → Hp → Prop} (o : Out g W P σ F (bindD (dO2 i) kk st) K) : ∃ dss, st[i]? = some (.o2 dss) ∧ Out g W P σ F (kk dss st) K := by
  unfold bindD dO2 at o
  cases e : st[i]? with
  | none => rw [e] at o; exact o.elim
  | some sl =>
    rw [e] at o
    cases sl with
    | o2 dss => exact ⟨dss, rfl, o⟩
    | _ => exact o.elim
theorem rowAt_some {α : Type} {dss : List α} {k : D} {r : Nat × α} (h : rowAt dss k = some r) : ∃ z, k = .int z ∧ ixN dss.length z = some r.1 ∧ dss[r.1]? = some r.2 := by
  unfold rowAt at h
  split at h
  · rename_i z
    split at h
    · rename_i j hj
      split at h
      · rename_i ds hd
        cases h
        exact ⟨z, rfl, hj, hd⟩
      · cases h
    · cases h
  · cases h
theorem atI_of {α : Type} {xs : List α} {z : Int} {j : Nat} {v : α} (h : ixN xs.length z = some j) (hv : xs[j]? = some v) : atI xs z = some v := by
  unfold atI
  rw [h]; exact hv
/-- the first index of two: the row -/
theorem row2 {i : Nat} {α : Type} {a0 : Addr} {k1 : D} {v1 : V} (s : SR g P σ H F st) (hv0 : σ[i]? = some (some (.ref a0))) (rv1 : Rv g F v1 k1) {kk : List (List D) → Nat × List D → Den α} {K : α → DSt → Hp → Hp → Prop}
    (o : Out g W P σ F (bindD (dO2 i) (fun dss => bindD (liftO (rowAt dss k1)) fun r => kk dss r) st) K) :
    ∃ (dss : List (List D)) (bs : List Addr) (b : Addr) (vs : List V) (r : Nat × List D) (z1 : Int), st[i]? = some (.o2 dss) ∧ v1 = .int z1 ∧ dss[r.1]? = some r.2 ∧ bs[r.1]? = some b ∧ H b = some (.lst vs) ∧ Rl g F vs r.2 ∧ SqL g.K H a0 (bs.map V.ref) ∧ atI (bs.map V.ref) z1 = some (.ref b) ∧
      SR g (P2 P H a0 bs) σ H F (st.set i .no) ∧ Out g W P σ F (kk dss r st) K ∧ ∀ (H' F' : Hp) (st' : DSt), Same F F' → SR g (P2 P H a0 bs) σ H' F' st' → st'[i]? = some .no → H' b = H b ∧ SR g P σ H' F' (st'.set i (.o2 dss)) ∧
        ∀ (ds' : List D) (vs' : List V), Rl g F' vs' ds' → SR g P σ (upd H' b (.lst vs')) F' (st'.set i (.o2 (dss.set r.1 ds'))) := by
  obtain ⟨dss, hst, o2⟩ := dO2_ok o
  obtain ⟨a, bs, hv, ha, hl, hrow, s2, back⟩ := s.hide hst
  rw [hv0] at hv; cases hv
  cases er : rowAt dss k1 with
  | none => simp only [er, bindD, liftO] at o2; exact o2.elim
  | some r =>
    simp only [er, bindD, liftO] at o2
    obtain ⟨z1, rfl, hj, hd⟩ := rowAt_some er
    cases rv1
    obtain ⟨b, hb⟩ : ∃ b, bs[r.1]? = some b := ⟨bs[r.1]'(by rw [hl]; exact lt_of_get hd), List.getElem?_eq_getElem _⟩
    obtain ⟨vs, hbv, rvs⟩ := hrow r.1 b r.2 hb hd
    refine ⟨dss, bs, b, vs, r, z1, hst, rfl, hd, hb, hbv, rvs, sqL_of ha, atI_of (by rw [List.length_map, hl]; exact hj) (by rw [List.getElem?_map, hb]; rfl), s2, o2, fun H' F' st' le s' hno => ?_⟩
    obtain ⟨h1, h2, h3⟩ := back H' F' st' le s' hno
    exact ⟨h1 b (.inr (List.mem_of_getElem? hb)), h2, fun ds' vs' rr => h3 r.1 b ds' vs' hb rr⟩
theorem es_store2 {i : Nat} (he : PS X s (tAsg (tE g W k) (gSub (tOp (rIx g.K) (tVar i) (tE g W f)) (tE g W h) rSetL))) : PS X s (tS g W (sStore2 i f h k)) := he.imp fun D σ H ⟨P, F, st, s, o⟩ =>
  ⟨P, F, st, s, o.bind.imp fun x st0 H0 F0 le0 s0 o0 v rx => by
    have o0 : Out g W P σ F0 (bindD (dO2 i) (fun _ => bindD f fun k1 => bindD (dO2 i) fun dss => bindD (liftO (rowAt dss k1)) fun r => bindD (hideD i) fun _ => bindD (noX h) fun k2 =>
      bindD (liftO (rowAt r.2 k2)) fun q => bindD (backO i (dss.set r.1 (r.2.set q.1 x))) fun _ => retD ()) st0) fun _ st' H' F' => D.nx σ H' := by
      revert o0
      simp only [bindD]
      cases dO2 i st0 with
      | ok a st1 =>
        simp only
        cases f st1 with
        | ok k1 st2 =>
          simp only
          cases dO2 i st2 with
          | ok dss st3 =>
            simp only
            cases (liftO (rowAt dss k1) : Den _) st3 with
            | ok r st4 =>
              simp only [hideD]
              cases noX h (st4.set i .no) with
              | ok k2 st5 =>
                simp only
                cases (liftO (rowAt r.2 k2) : Den _) st5 with
                | ok q st6 =>
                  simp only
                  cases backO i (dss.set r.1 (r.2.set q.1 x)) st6 with
                  | ok u st7 => exact fun o H' F' le s' => o σ H' F' le s'
                  | exn c fs st7 => exact fun o cls dd H' F' le s' rx => o cls dd σ H' F' le s' rx
                  | stuck => exact fun o => o
                | exn c fs st7 => exact fun o cls dd H' F' le s' rx => o cls dd σ H' F' le s' rx
                | stuck => exact fun o => o
              | exn c fs st7 => exact fun o cls dd H' F' le s' rx => o cls dd σ H' F' le s' rx
              | stuck => exact fun o => o
            | exn c fs st7 => exact fun o cls dd H' F' le s' rx => o cls dd σ H' F' le s' rx
            | stuck => exact fun o => o
          | exn c fs st7 => exact fun o cls dd H' F' le s' rx => o cls dd σ H' F' le s' rx
          | stuck => exact fun o => o
        | exn c fs st7 => exact fun o cls dd H' F' le s' rx => o cls dd σ H' F' le s' rx
        | stuck => exact fun o => o
      | exn c fs st7 => exact fun o cls dd H' F' le s' rx => o cls dd σ H' F' le s' rx
      | stuck => exact fun o => o
    obtain ⟨dss0, hst0, o1⟩ := dO2_ok o0
    obtain ⟨a0, bs0, hv0, _⟩ := s0.hide hst0
    refine ⟨_, hv0, P, F0, st0, s0, o1.bind.imp fun k1 st1 H1 F1 le1 s1 o1 v1 rv1 => ?_⟩
    obtain ⟨dss, bs, b, vs, r, z1, hst, rfl, hd, hb, hbv, rvs, hsq, hat, s2, o2, back⟩ := row2 s1 hv0 rv1 o1
    refine .inl ⟨a0, bs.map V.ref, z1, .ref b, rfl, rfl, hsq, hat, ?_⟩
    refine ⟨P2 P H1 a0 bs, F1, st1.set i .no, s2, ?_⟩
    revert o2
    simp only [bindD, hideD, noX]
    cases h (st1.set i .no) with
    | ok k2 st2 =>
      intro o5 H2 F2 le2 s3 v2 rv2
      simp only [liftO] at o5
      cases hq : rowAt r.2 k2 with
      | none => rw [hq] at o5; exact o5.elim
      | some q =>
        rw [hq] at o5
        simp only [backO] at o5
        cases hno : st2[i]? with
        | none => rw [hno] at o5; exact o5.elim
        | some sl =>
          rw [hno] at o5
          cases sl with
          | no =>
            obtain ⟨hH, _, put⟩ := back H2 F2 st2 le2 s3 hno
            obtain ⟨z2, rfl, hj2, hd2⟩ := rowAt_some hq
            cases rv2
            refine ⟨b, vs, z2, q.1, rfl, rfl, by rw [hH]; exact hbv, by rw [rvs.length]; exact hj2, ?_⟩
            exact o5 _ F2 le2 (put (r.2.set q.1 x) (vs.set q.1 v) ((rvs.mono le2).set ((rx.mono le1).mono le2) q.1))
          | _ => exact o5.elim
    | exn c fs st2 => exact fun o5 => o5.elim
    | stuck => exact fun o5 => o5.elim⟩
end
end DL
namespace PySem
namespace ErrX
open PySem.W PySem.Calls PyProof.Rows PySem.HandSPX
def eA (a : Str) (p1 p2 : Pos) : Arguments := { posonlyargs := [], args := [{ arg := "self", annotation := none, pos := p1 }, { arg := a, annotation := none, pos := p2 }], vararg := none, kwonlyargs := [], kw_defaults := [], kwarg := none, defaults := [] }
def eB (e : Expr) (a f : Str) (p0 p1 p2 p3 p4 p5 p6 p7 p8 : Pos) : List Stmt := [.Expr (.Call (.Attribute (.Call (.Name "super" p0) [] [] p1) "__init__" p2) [e] [] p3) p4, .Assign [.Attribute (.Name "self" p5) f p6] (.Name a p7) p8]
def eS (a : Str) : Scope := { kind := .function, names := [(PySem.Str.ofString "self", .local), (a, .local), (PySem.Str.ofString "__class__", .free), (PySem.Str.ofString "super", .globalImplicit)], isGenerator := false, isCoroutine := false, more := [] }
/-- how the call is read (the positions are known where the text is) -/
def CallsPlain (e : Expr) (q0 q1 q2 q3 : Pos) : Prop := ∀ env : Env, eval (.Call (.Attribute (.Call (.Name "super" q0) [] [] q1) "__init__" q2) [e] [] q3) env = (do
      let ov ← attributeBase (.Call (.Name "super" q0) [] [] q1) "__init__" env (eval (.Call (.Name "super" q0) [] [] q1) env)
      standAt q2.atName
      let (f, first) ← holding [ov] (getMethod ov "__init__" (do return (← importBound (.Call (.Name "super" q0) [] [] q1) env).getD true))
      callWith q3 f first (backTo q3 (starEach [e] env)) [])
/-- the text: parameter a, field f; e the argument handed on -/
structure ErrTxt (P : Program) (K : Frag) (x qual : Str) (C fI : Addr) (a f : Str) (e : Expr) : Prop where
  okE : (∃ p, e = .Name a p) ∨ ∃ m j p, e = .Constant (.str m) j p
  bnd : ∀ (q : Str) (body : List Stmt) (doc pm : Value) (an : Option Addr) (cdv ct : Value) (cc : Addr) (p1 p2 : Pos) (s : Shared) (u v : Value), BindsTo s (ksFn "__init__" q (eA a p1 p2) body (eS a) .none .none doc pm an cdv ct cc) ⟨[u, v], []⟩ [("self", u), (a, v)]
  na : a ≠ "self" ∧ a ≠ "__class__" ∧ a ≠ "super" ∧ (a == ("__debug__" : Str)) = false
  cls : ∃ nm q N bs bm sn sub ab col dd k0 k1 k2 k3 k5, K.lookup C = some (excClassObj nm q C N bs bm true sn sub ab col dd k0 k1 k2 k3 k5 "ValueError.__new__") ∧ refsVE bm = true ∧ alongIn K "__init__" bm = some (some (.builtin "ValueError.__init__"))
  sa : findIn K (.ref C) "__setattr__" = some (some (.builtin "object.__setattr__"))
  noN : findIn K (.ref C) f = some none
  iC : findIn K (.ref C) "__init__" = some (some (.ref fI))
  tC : typeIn K (.ref fI) = some (.type "function")
  kC : keepIn K (.ref C) = true
  exC : subIn K (.ref C) (.type "BaseException") = some true
  veC : subIn K (.ref C) (.type "ValueError") = some true
  meC : mroIn K C (.ref C) = some true
  tyC : typeIn K (.ref C) = some (.type "type")
  opq : nsIn K cStatics "thirdparty.any" = some none
  sup : nsIn K mainGlobals "super" = some none
  psup : (P.main.scope.names.lookup ("super" : Str)).isSome = false
  fn : ∃ (oc : Value) (od : Option Addr) (doc pm : Value) (an : Option Addr) (cda : Addr) (ct : Value) (osl : Array (Option Value)) (cc : Addr) (p1 p2 q0 q1 q2 q3 q4 q5 q6 q7 q8 : Pos) (ccl cl : Value) (cdd cld : Option Addr) (ccs csl : Array (Option Value)) (vs : Array Value) (file : Str) (tf : Tok),
    K.lookup fI = some ⟨oc, od, .func (ksFn "__init__" qual (eA a p1 p2) (eB e a f q0 q1 q2 q3 q4 q5 q6 q7 q8) (eS a) .none .none doc pm an (.ref cda) ct cc), osl⟩ ∧ codeIn K (.ref cda) qual = true ∧
      K.lookup cda = some ⟨ccl, cdd, .fields vs, ccs⟩ ∧ vs[2]? = some (.str file tf) ∧ ((P.main.file : Str) == file) = true ∧ K.lookup cc = some ⟨cl, cld, .cell (some (.ref C)), csl⟩ ∧ CallsPlain e q0 q1 q2 q3
theorem one_size (v : Value) : [v].length ≤ sizeLine := by
  rw [sizeLine_eq]
  exact (by decide : 1 ≤ 16777216)
/-- what __init__ leaves of a fresh exception at x -/
structure InitEnd (h h' : Heap) (x C dx : Addr) (f : Str) (v : Value) : Prop where
  keep : ∀ b o, b ≠ x → h.get? b = some o → h'.get? b = some o
  obj : ∃ t1, h'.get? x = some { cls := .ref C, dict := some dx, data := .fields #[.ref t1, .none, .none, .none, .bool false, .none] }
  dbig : h.objs.size ≤ dx
  dne : dx ≠ x
  ns : h'.Ns1 dx (fun y => if y = f then some v else none)
structure OwnMade (h h' : Heap) (e C d : Addr) (f : Str) (v : Value) : Prop where
  keep : ∀ b o, h.get? b = some o → h'.get? b = some o
  new : h.objs.size ≤ e
  obj : ∃ oe vs, h'.get? e = some oe ∧ oe.cls = .ref C ∧ oe.dict = some d ∧ oe.data = .fields vs ∧ vs[1]? = some .none
  dbig : h.objs.size ≤ d
  dne : d ≠ e
  ns : h'.Ns1 d (fun y => if y = f then some v else none)
theorem bcls {C : Addr} {l : List Value} : ((Value.ref C :: l).dropWhile (· != .ref C)).drop 1 = l := by simp [List.dropWhile_cons]
theorem ldC {M : Model} {A : Around} {E : Value → Shared → Prop} {s : Shared} {name : Str} {scope : Scope} {L f cc : Addr} {cd : Value} {m : Str → Option Value} {x : Str} {pos : Pos} {v : Value} {Q : Value → Shared → Prop} (hn : s.heap.Ns L m) (hv : m x = some v) (h : Q v s)
    (hk : scope.kind = .function) (hl : (ksEnv name scope L f cd cc).kindOf x = some .local) (hd : (x == ("__debug__" : Str)) = false) :
    wpAny M A (eval (.Name x pos) (ksEnv name scope L f cd cc)) Q E s := wpAny_Name (wpAny_loadName_local hk hl hn hv h) hd
section
variable {prog : Program} {w : World} {A : Around} {E : Value → Shared → Prop} {R : Result → Shared → Prop} {s : Shared} {K : Frag} {mg mb : Str → Option Value} {C fI : Addr} {xn qual a f : Str} {e : Expr}
theorem err_init (T : ErrTxt prog K xn qual C fI a f e) {x t0 : Addr} {v : Value} (X : K.In s.heap) (Gg : s.heap.Ns mainGlobals mg) (Gb : s.heap.Ns builtinsNs mb) (hbs : mb "super" = some (.type "super")) (hlim : s.heap.NoLimit) (hx : s.heap.get? x = some (excO C t0)) (hnx : K.lookup x = none) (hroom : A.depth < recursionLimit)
    (hq : ∀ h' tk dx, InitEnd s.heap h' x C dx f v → R (.ok (.ret .none)) { s with heap := h', toks := tk }) :
    codeAny (model prog w) A (.call (.ref fI) ⟨[.ref x, v], []⟩) R s := by
  obtain ⟨oc, od, doc, pm, an, cda, ct, osl, cc, p1, p2, q0, q1, q2, q3, q4, q5, q6, q7, q8, ccl, cl, cdd, cld, ccs, csl, vs, file, tf, ho, hcd, hcda, hvs, hfile, hcell, hplain⟩ := T.fn
  obtain ⟨nm, q, N, bs, bm, sn, sub, ab, col, dd, k0, k1, k2, k3, k5, hC, hbm, hal⟩ := T.cls
  obtain ⟨na1, na2, na3, na4⟩ := T.na
  have hcl : clsIn K C = some { name := nm, bases := bs, mro := .ref C :: bm, ns := N, qualname := q, hasDict := true, slotNames := sn, subclasses := sub, abstract := ab, collection := col, hasDel := false } := by unfold clsIn; rw [hC] <;> rfl
  have nself : (("self" : Str) == a) = false := by simpa using fun z : ("self" : Str) = a => na1 z.symm
  have aself : (a == ("self" : Str)) = false := by simpa using na1
  have lka : (eS a).names.lookup a = some .local := by
    show List.lookup a [(PySem.Str.ofString "self", NameKind.local), (a, .local), (PySem.Str.ofString "__class__", .free), (PySem.Str.ofString "super", .globalImplicit)] = some .local
    rw [List.lookup_cons]
    split
    · rfl
    · rw [List.lookup_cons]; simp
  have lks : (eS a).names.lookup ("super" : Str) = some .globalImplicit := by
    have h1 : (("super" : Str) == PySem.Str.ofString "self") = false := by decide
    have h2 : (("super" : Str) == a) = false := by simpa using fun z : ("super" : Str) = a => na3 z.symm
    have h3 : (("super" : Str) == PySem.Str.ofString "__class__") = false := by decide
    have h4 : (("super" : Str) == PySem.Str.ofString "super") = true := by decide
    show List.lookup _ [(PySem.Str.ofString "self", NameKind.local), (a, .local), (PySem.Str.ofString "__class__", .free), (PySem.Str.ofString "super", .globalImplicit)] = _
    simp only [List.lookup_cons, h1, h2, h3, h4]
  have lkc : (eS a).names.lookup ("__class__" : Str) = some .free := by
    have h1 : (("__class__" : Str) == PySem.Str.ofString "self") = false := by decide
    have h2 : (("__class__" : Str) == a) = false := by simpa using fun z : ("__class__" : Str) = a => na2 z.symm
    have h3 : (("__class__" : Str) == PySem.Str.ofString "__class__") = true := by decide
    show List.lookup _ [(PySem.Str.ofString "self", NameKind.local), (a, .local), (PySem.Str.ofString "__class__", .free), (PySem.Str.ofString "super", .globalImplicit)] = _
    simp only [List.lookup_cons, h1, h2, h3]
  have hfd : ∀ L, (callEnv (ksFn "__init__" qual (eA a p1 p2) (eB e a f q0 q1 q2 q3 q4 q5 q6 q7 q8) (eS a) .none .none doc pm an (.ref cda) ct cc) L fI) = ksEnv qual (eS a) L fI (.ref cda) cc := fun _ => rfl
  refine ks_codeAny_call_defAt (fd := ksFn "__init__" qual (eA a p1 p2) (eB e a f q0 q1 q2 q3 q4 q5 q6 q7 q8) (eS a) .none .none doc pm an (.ref cda) ct cc) (body := eB e a f q0 q1 q2 q3 q4 q5 q6 q7 q8) (binds := [("self", .ref x), (a, v)]) hroom (X _ _ ho) rfl hlim (codeRec_of X hcd) rfl ?_ ?_ ?_ (fun h₁ hns k => ?_) rfl rfl rfl
  · exact T.bnd _ _ _ _ _ _ _ _ _ _ _ _ _
  · intro y hy
    have hy : y ∈ [(PySem.Str.ofString "self", NameKind.local), (a, .local), (PySem.Str.ofString "__class__", .free), (PySem.Str.ofString "super", .globalImplicit)] := hy
    simp only [List.mem_cons, List.not_mem_nil, or_false] at hy
    rcases hy with rfl | rfl | rfl | rfl <;> simp
  · intro y hy
    simp only [List.mem_cons, List.not_mem_nil, or_false] at hy
    rcases hy with rfl | rfl
    · rfl
    · exact lka
  have X₁ : K.In h₁ := X.keeps k
  have hx₁ := k _ _ hx
  have hC₁ := X₁ _ _ hC
  have lself : List.lookup ("self" : Str) ([(("self" : Str), Value.ref x), (a, v)].reverse) = some (.ref x) := by
    show List.lookup ("self" : Str) [(a, v), (("self" : Str), Value.ref x)] = _
    rw [List.lookup_cons, nself]; rfl
  have larg : List.lookup a ([(("self" : Str), Value.ref x), (a, v)].reverse) = some v := by
    show List.lookup a [(a, v), (("self" : Str), Value.ref x)] = _
    rw [List.lookup_cons]; simp
  have hxC : x ≠ C := fun z => by
    have := X₁ _ _ hC
    rw [← z, hx₁] at this
    cases this
  show wpAt (model prog w) _ _ (execs (eB e a f q0 q1 q2 q3 q4 q5 q6 q7 q8) (ksEnv qual (eS a) s.heap.objs.size fI (.ref cda) cc)) _ _ _
  refine ks_wpAt_execs_cons (ks_wpAt_Expr_any (ks_wpAt_MethodCall ?_ (hplain _)) rfl rfl)
  refine ks_wpAt_super_base (env := ksEnv qual (eS a) s.heap.objs.size fI (.ref cda) cc) lks lkc (by decide) rfl (X₁ _ _ ho) rfl rfl rfl (X₁ _ _ hcda) rfl hvs hfile T.psup ?_
  refine ks_loadName_global rfl lks (loadGlobal_builtin (env := ksEnv qual (eS a) s.heap.objs.size fI (.ref cda) cc) (mg := mg) (mb := mb) (Gg.keeps k) (PySem.W.mg_none_of X Gg T.sup) (Gb.keeps k) hbs ⟨rfl, ?_⟩)
  refine wpAny_loadName_free rfl lkc rfl ⟨_, X₁ _ _ hcell, rfl⟩ ?_
  refine wpAny_loadName_local rfl rfl hns lself ?_
  refine ks_wpAny_isType_cls hC₁ rfl ⟨rfl, ?_⟩
  refine ks_wpAny_call_super hC₁ rfl hx₁ rfl (fun c z => by cases z) (looks_mroIn X₁ T.meC) (fun h₂ hso k₂ => ?_)
  have X₂ : K.In h₂ := X₁.keeps k₂
  have hx₂ := k₂ _ _ hx₁
  have hns₂ := hns.keeps k₂
  have hTx : Looks (model prog w) h₂ (typeOf (.ref x)) (.ref C) := fun A Q E s k q => wpAny_typeOf_ref (k _ _ hx₂) q
  refine kxs_getMethod (K := K) (l := bm) kxs_ValueError hso (looks_opaque X₂ T.opq) (l₀ := .ref C :: bm) (fun A Q E s k q => wpAny_bind ((looks_clsIn X₂ hcl) A _ E s k (wpAny_pure q))) bcls X₂ hal (hTx.andThen (looks_subIn X₂ T.veC)) hxC (by decide) ?_
  have hst : starEach (e :: []) (ksEnv qual (eS a) s.heap.objs.size fI (.ref cda) cc) = (false, eval e (ksEnv qual (eS a) s.heap.objs.size fI (.ref cda) cc)) :: starEach [] (ksEnv qual (eS a) s.heap.objs.size fI (.ref cda) cc) := by
    rcases T.okE with ⟨_, h⟩ | ⟨_, _, _, h⟩ <;> rw [h] <;> rfl
  rw [hst]
  refine kxs_callWith (i := "ValueError.__init__") (x := x) rfl (evalArgs_plain ?_)
  have hev : ∀ {E : Value → Shared → Prop} {s' : Shared} {Q : Value → Shared → Prop}, s'.heap.Ns s.heap.objs.size (fun y => [(("self" : Str), Value.ref x), (a, v)].reverse.lookup y) → (∀ u tk, Q u { s' with toks := tk }) → wpAny (model prog w) (A.deeper (ksEnv qual (eS a) s.heap.objs.size fI (.ref cda) cc)) (eval e (ksEnv qual (eS a) s.heap.objs.size fI (.ref cda) cc)) Q E s' := by
    intro E s' Q hn h
    rcases T.okE with ⟨_, he⟩ | ⟨_, _, _, he⟩
    · rw [he]
      exact ldC hn larg (h _ s'.toks) rfl lka na4
    · rw [he]
      exact Calls.Constant_str (h _ _)
  refine Calls.spliced_cons (hev (hns₂.keeps fun b o z => Heap.get?_push_of_some _ z) fun u tk => ?_)
  refine Calls.spliced_nil ⟨Heap.get?_push_at rfl rfl, ?_⟩
  have hu : (h₂.push (kxs_mw "ValueError.__init__" x)).get? h₂.objs.size = some (kxs_mw "ValueError.__init__" x) := Heap.get?_push_at rfl rfl
  have up₃ : ∀ b o, h₂.get? b = some o → (h₂.push (kxs_mw "ValueError.__init__" x)).get? b = some o := fun b o z => Heap.get?_push_of_some _ z
  have hC₃ := up₃ _ _ (k₂ _ _ hC₁)
  have hx₃ := up₃ _ _ hx₂
  -- the call of the bound __init__
  refine wpAny_call (codeAny_of_tree ?_)
  show wpAny _ _ (callAny (.ref h₂.objs.size) ⟨[u], []⟩) _ _ _
  simp only [callAny]
  refine wpAny_bind (wpAny_load hu ?_)
  simp only [kxs_mw, show (Value.type "method-wrapper" == Value.type "method" || Value.type "method-wrapper" == Value.type "builtin_function_or_method" || Value.type "method-wrapper" == Value.type "method-wrapper") = true by decide, if_true]
  refine KFB.if_so (by decide) ?_
  refine wpAny_bind (check_bound_init F.excBase_ValueError.toExcCallFacts hC₃ hx₃ rfl ?_)
  refine wpAny_bind (wpAny_pure (wpAny_pure ?_))
  refine ⟨plainId_quiet F.excBase_ValueError.init.plain _, codeAny_builtin F.excBase_ValueError.initEntry ?_⟩
  refine exc_init_tree (cls := .ref C) (t0 := t0) (dv := none) (c2 := .none) (c3 := .none) (b4 := .bool false) hx₃ (one_size u) fun h₄ k₄ hx₄ _ => ?_
  have all : ∀ b o, b ≠ x → s.heap.get? b = some o → h₄.get? b = some o := fun b o hb z => k₄ b o hb (up₃ b o (k₂ b o (k b o z)))
  have X₄ : K.In h₄ := fun b o z => all b o (fun y => by rw [y, hnx] at z; cases z) (X b o z)
  have hxL : s.heap.objs.size ≠ x := Nat.ne_of_gt (Heap.lt_size hx)
  have hns₄ : h₄.Ns s.heap.objs.size (fun y => [(("self" : Str), Value.ref x), (a, v)].reverse.lookup y) := by
    obtain ⟨oL, es, ep, hL, r⟩ := hns
    exact ⟨oL, es, ep, k₄ _ _ hxL (up₃ _ _ (k₂ _ _ hL)), r⟩
  show wpAt _ _ _ (execs _ _) _ _ _
  refine wpAt_of_wpAny (wpAny_execs_cons (plainObj_wpAny_Assign_Attribute ?_))
  refine ldC (v := v) hns₄ larg (ldC (v := .ref x) hns₄ lself ?_ rfl rfl (by decide)) rfl lka na4
  refine set_plain X₄ (ox := excO C _) (od := none) ⟨hx₄, rfl, rfl, trivial⟩ T.sa ?_
  refine exc_osa X₄ hx₄ hcl (show refsVE (.ref C :: bm) = true from hbm) rfl T.noN (fun h₅ tk₅ dx k₅ dn dne hx₅ hn₅ => ?_)
  show wpAny _ _ (execs _ _) _ _ _
  refine wpAny_execs_nil (hq h₅ tk₅ dx ⟨fun b o hb z => k₅ b o hb (all b o hb z), ⟨_, hx₅⟩, ?_, dne, hn₅⟩)
  have z0 : h₂.objs.size ≠ x := Nat.ne_of_gt (Heap.lt_size hx₂)
  have z1 := Heap.lt_size (k₄ _ _ z0 hu)
  have z2 : s.heap.objs.size < h₂.objs.size := (hns.keeps k₂).lt
  have z3 : h₄.objs.size ≤ dx := dn
  show s.heap.objs.size ≤ dx
  exact Nat.le_trans (Nat.le_of_lt (Nat.lt_trans z2 z1)) z3
theorem err_made (T : ErrTxt prog K xn qual C fI a f e) {v : Value} (X : K.In s.heap) (Gg : s.heap.Ns mainGlobals mg) (Gb : s.heap.Ns builtinsNs mb) (hbs : mb "super" = some (.type "super")) (hlim : s.heap.NoLimit) (hroom : A.depth + 1 < recursionLimit)
    (hq : ∀ h' tk e' d, OwnMade s.heap h' e' C d f v → R (.ok (.ret (.ref e'))) { s with heap := h', toks := tk }) :
    codeAny (model prog w) A (.call (.ref C) ⟨[v], []⟩) R s := by
  obtain ⟨nm, q, N, bs, bm, sn, sub, ab, col, dd, k0, k1, k2, k3, k5, hC, hbm, _⟩ := T.cls
  obtain ⟨hp, g, dr, tk, os⟩ := s
  have k : ∀ b o, hp.get? b = some o → ((hp.push (kdv_tup [v])).push (excO C hp.objs.size)).get? b = some o := fun b o e => Heap.get?_push_of_some _ (Heap.get?_push_of_some _ e)
  have hget : ((hp.push (kdv_tup [v])).push (excO C hp.objs.size)).get? (hp.objs.size + 1) = some (excO C hp.objs.size) := by heap_get
  have hnx : K.lookup (hp.objs.size + 1) = none := by
    cases e : K.lookup (hp.objs.size + 1) with
    | none => rfl
    | some o =>
      have z : hp.get? (hp.objs.size + 1) = some o := X _ _ e
      exact absurd (Nat.lt_of_succ_lt (Heap.lt_size z)) (Nat.lt_irrefl _)
  refine call_own F.excBase_ValueError (fun X => refsVE_contains X bm hbm) (X _ _ hC) (looks_findIn X T.iC) (fun self => bind_fn X self T.tC) (one_size v) ?_
  refine err_init (s := ⟨(hp.push (kdv_tup [v])).push (excO C hp.objs.size), g, dr, tk, os⟩) T (X.keeps k) (Gg.keeps k) (Gb.keeps k) hbs (hlim.keeps k) hget hnx ?_ fun h' tk' dx ⟨k', ⟨t1, hx⟩, dn, dne, hns⟩ => ?_
  · show A.depth + 1 < recursionLimit
    exact hroom
  · have old : ∀ b o, hp.get? b = some o → h'.get? b = some o := fun b o e => k' b o (Nat.ne_of_lt (Nat.lt_succ_of_lt (Heap.lt_size e))) (k b o e)
    have z : hp.objs.size + 1 + 1 ≤ dx := by
      first
        | (simpa only [Heap.size_push] using dn)
        | exact dn
        | (have q := dn; rw [Heap.size_push, Heap.size_push] at q; exact q)
    exact ⟨rfl, hq h' tk' (hp.objs.size + 1) dx ⟨old, Nat.le_succ _, ⟨_, _, hx, rfl, rfl, rfl, rfl⟩, Nat.le_trans (Nat.le_trans (Nat.le_succ _) (Nat.le_succ _)) z, dne, hns⟩⟩
end
end ErrX
end PySem
namespace L2
open PySem PySem.Spec PyProof.Rows
def tMkErr (C : Addr) (f : Str) (ta : TA) : St → Hp → XK → Prop := fun σ H Q => ta σ H fun vs H1 => ∃ v, vs = [v] ∧ ∀ d, H1 d = none → Q (.ref C) (some d) (upd H1 d (.xd [(f, v)]))
theorem relO_one {f : Str} {v : V} {v' : Value} (r : RelV v v') (y : Str) : RelO (List.lookup y [(f, v)]) (if y = f then some v' else none) := by
  by_cases hw : y = f
  · subst hw
    rw [if_pos rfl]
    have q : List.lookup y [(y, v)] = some v := by simp [List.lookup]
    rw [q]
    exact r
  · rw [if_neg hw]
    have qw : (y == f) = false := by simpa using hw
    have q2 : List.lookup y [(f, v)] = none := by simp [List.lookup, qw]
    rw [q2]
    trivial
section
variable {X : Cx} {C fI : Addr} {x qual a f : Str} {e' : Expr}
theorem pmk_err {e : Expr} {ta : TA} {p pos : Pos} {k : Nat} (T : PySem.ErrX.ErrTxt X.prog X.K x qual C fI a f e') (gC : X.mg x = some (.ref C)) (gs : X.mg "super" = none) (hr : Room k X.A) (ha : PA X [e] ta) (hg : Gl X x) (hdb : (x == ("__debug__" : Str)) = false := by decide)
    (he : starEach (e :: []) X.env = (false, eval e X.env) :: starEach [] X.env := by rfl) (hpl : (backTo pos (starEach [] X.env)).any (·.1) = false := by rfl) :
    PMk X (.Call (.Name x p) [e] [] pos) (tMkErr C f ta) := by
  intro pins s σ H Q I h
  refine wpAny_Call_Name_kw (ld_glob I hg gC ?_ hdb)
  refine PySem.W.callWith_K (h₀ := X.base) I.ok.mod.kin T.kC (thn (ha.run pos pins s σ H _ I h) fun us s1 hh => ?_) he hpl
  obtain ⟨vs, H1, I1, r1, v, ev, q1⟩ := hh
  subst ev
  refine ⟨I1.kIn, ?_⟩
  cases r1 with
  | cons rv rn =>
    rename_i v' us'
    cases rn
    show wpAny _ _ (call (.ref C) [v']) _ _ _
    have hlim := I1.nolimit
    obtain ⟨mb, b1, b2⟩ := I1.mod.blt
    have hbs : mb "super" = some (.type "super") := (b2 "super" (by decide)).trans PyProof.Rows.Boot.«super»
    have gG : s1.heap.Ns mainGlobals X.mg := I1.mod.glob.keeps I1.bk
    have gB : s1.heap.Ns builtinsNs mb := b1.keeps I1.bk
    obtain ⟨hp, g, dr, tk, os⟩ := s1
    refine wpAny_call (PySem.ErrX.err_made T I1.kIn gG gB hbs hlim (by have := hr.dp; omega) fun h' tk' e d M => ?_)
    show MkP X pins σ Q (.ref e) ⟨h', g, dr, tk', os⟩
    obtain ⟨oe, fv, hoe, hc, hd, hdat, h1⟩ := M.obj
    have hns := M.ns
    obtain ⟨G', g1, g2⟩ := restrict h' fun b => decide (b ≠ e)
    have gk : ∀ b, b ≠ e → G'.get? b = h'.get? b := fun b hb => g1 b (decide_eq_true hb)
    have ge : G'.get? e = none := g2 e (by simp)
    have old : ∀ b o, hp.get? b = some o → G'.get? b = some o := fun b o q => (gk b (Nat.ne_of_lt (Nat.lt_of_lt_of_le (Heap.lt_size q) M.new))).trans (M.keep b o q)
    have ob : ObjOk X.prog X.w (upd H1 d (.xd [(f, v)])) G' d (.xd [(f, v)]) :=
      ⟨_, hns.at (fun o q => (gk d M.dne).trans q), fun y => relO_one rv y⟩
    have J : Inv X pins σ (upd H1 d (.xd [(f, v)])) ⟨G', g, dr, tk', os⟩ := I1.laid (t' := tk') old M.dbig ob
    refine ⟨e, oe, fv, ⟨G', g, dr, tk', os⟩, _, .ref C, some d, rfl, J, fun b o q => ?_, ge, hoe, ⟨hc, hd⟩, hdat, h1, ?_, rfl, I1.bare, raises_own T.exC T.tyC, q1 d (I1.hok.fresh M.dbig)⟩
    · by_cases hb : b = e
      · have q' : G'.get? b = some o := q
        rw [hb, ge] at q'; cases q'
      · exact (gk b hb).symm.trans q
    · rw [upd_ne (Ne.symm M.dne)]
      exact I1.hok.fresh M.new
end
end L2
namespace DL
open PySem PySem.Spec PyProof.Rows L2
@[simp] def sRaise0 (c : Str) : DS := fun st => .exn c [] st
@[simp] def sRaise1 (c f : Str) (h : Den D) : DS := bindD h fun d => fun st => .exn c [(f, d)] st
section
variable {X : Cx} {g : G} {W : WX} {P : Par} {σ : L2.St} {H F : Hp} {st : DSt} {e : Expr} {s : Stmt} {ss : List Stmt} {f h : Den D} {t : Den Bool} {a b : DS}
theorem es_raise0 {c : Str} {C : Addr} {pos : Pos} (gC : g.mg c = some (.ref C)) (tk : Takes X W) (he : PMk X e (fun _ H Q => Q (.ref C) none H)) (hc : X.calm = true := by rfl) : PS X (.Raise (some e) none pos) (tS g W (sRaise0 c)) :=
  (ps_raise hc tk he).imp fun D σ H ⟨P, F, st, s, o⟩ => o (.ref C) none σ H F (Same.refl _) s ⟨C, gC, rfl, .inl ⟨rfl, rfl⟩⟩
theorem es_raise1 {c nm : Str} {C : Addr} {pos : Pos} (gC : g.mg c = some (.ref C)) (tk : Takes X W) (he : PMk X e (tMkErr C nm (tCons (tE g W f) tNil))) (hc : X.calm = true := by rfl) : PS X (.Raise (some e) none pos) (tS g W (sRaise1 c nm f)) :=
  (ps_raise hc tk he).imp fun D σ H ⟨P, F, st, s, o⟩ => by
    refine ⟨P, F, st, s, o.bind.imp fun x st1 H1 F1 le1 s1 o1 v rx => ⟨v, rfl, fun d hd => ?_⟩⟩
    have gr : Grow H1 F1 (upd H1 d (.xd [(nm, v)])) (upd F1 d (.xd [(nm, v)])) := Grow.new s1.le hd
    exact o1 (.ref C) (some d) σ _ _ gr.f (s1.grow gr) ⟨C, gC, rfl, .inr ⟨d, nm, v, x, rfl, rfl, upd_same, rx.mono gr.f⟩⟩
end
def G.at (g : G) (a : Addr) (cls : Value) (d : Option Addr) : G := ⟨g.K, g.mg, some (a, cls, d), g.tk⟩
section
variable {X : Cx} {g : G} {W : WX} {P : Par} {σ : L2.St} {H F : Hp} {st : DSt} {e : Expr} {s : Stmt} {ss : List Stmt} {f h : Den D} {t : Den Bool} {a b : DS}
/-- a field of the exception that the suite holds -/
@[simp] def dXf (i : Nat) (c f : Str) : Den D := fun st => match st[i]? with
  | some (.xc c' nm x) => if c' = c ∧ nm = f then .ok x st else .stuck
  | _ => .stuck
end
end DL
namespace DL
open PySem PySem.Spec PyProof.Rows L2
def ecB (K : PySem.W.Frag) (C : Addr) : Bool := match K.lookup C with
  | some ⟨.type "type", _, .cls cd, sl⟩ => (match cd.mro, sl.toList with
    | .ref C' :: bm, [_, _, _, _, some (.builtin n), _] => C' == C && (n == "ValueError.__new__" && (!cd.hasDel && (cd.hasDict && (HandSPX.refsVE bm && He.eqO (PySem.W.alongIn K "__init__" bm) (some (some (.builtin "ValueError.__init__")))))))
    | _, _ => false)
  | _ => false
def noneV : Value → Bool
  | .none => true
  | _ => false
def cellB (K : PySem.W.Frag) (cc C : Addr) : Bool := match K.lookup cc with
  | some ⟨_, _, .cell (some (.ref D)), _⟩ => D == C
  | _ => false
def fileB (K : PySem.W.Frag) (file : Str) : Value → Bool
  | .ref cda => (match K.lookup cda with
    | some ⟨_, _, .fields vs, _⟩ => (match (vs[2]? : Option Value) with
      | some (Value.str f _) => file == f
      | _ => false)
    | _ => false)
  | _ => false
def efB (K : PySem.W.Frag) (file : Str) (C fI : Addr) : Bool := match K.lookup fI with
  | some ⟨_, _, .func fd, _⟩ => (match fd.closure with
    | [(n, cc)] => n == ("__class__" : Str) && (noneV fd.defaults && (noneV fd.kwdefaults && (PySem.W.codeIn K fd.code fd.qualname && (cellB K cc C && fileB K file fd.code))))
    | _ => false)
  | _ => false
def errB (K : PySem.W.Frag) (file x f : Str) : Bool :=
  ecB K (He.ga K x) && (efB K file (He.ga K x) (He.fAd K (x, some ("__init__" : Str))) && (He.eqO (PySem.W.findIn K (.ref (He.ga K x)) "__setattr__") (some (some (.builtin "object.__setattr__"))) && (He.eqO (PySem.W.findIn K (.ref (He.ga K x)) f) (some none) &&
  (He.eqO (PySem.W.findIn K (.ref (He.ga K x)) "__init__") (some (some (.ref (He.fAd K (x, some ("__init__" : Str)))))) && (decide (PySem.W.typeIn K (.ref (He.fAd K (x, some ("__init__" : Str)))) = some (.type "function")) && (PySem.W.keepIn K (.ref (He.ga K x)) &&
  (decide (PySem.W.subIn K (.ref (He.ga K x)) (.type "BaseException") = some true) && (decide (PySem.W.subIn K (.ref (He.ga K x)) (.type "ValueError") = some true) && (decide (PySem.W.mroIn K (He.ga K x) (.ref (He.ga K x)) = some true) &&
  (decide (PySem.W.typeIn K (.ref (He.ga K x)) = some (.type "type")) && (He.eqO (PySem.W.nsIn K cStatics "thirdparty.any") (some none) && xfB K (He.ga K x))))))))))))
theorem err_txt {P : Program} {K : PySem.W.Frag} {file x f a qual : Str} {d : He.DefD} {e : Expr} {p1 p2 q0 q1 q2 q3 q4 q5 q6 q7 q8 : Pos} (hc : clW K d.at_ = d.val) (hb : errB K file x f = true) (hsup : PySem.W.nsIn K mainGlobals "super" = some none)
    (hat : d.at_ = (x, some ("__init__" : Str))) (hn : d.name = ("__init__" : Str)) (hq : d.qual = qual) (h1 : d.params = PySem.ErrX.eA a p1 p2) (h2 : d.body = PySem.ErrX.eB e a f q0 q1 q2 q3 q4 q5 q6 q7 q8) (h3 : d.scope = PySem.ErrX.eS a)
    (okE : (∃ p, e = .Name a p) ∨ ∃ m j p, e = .Constant (.str m) j p) (na : a ≠ "self" ∧ a ≠ "__class__" ∧ a ≠ "super" ∧ (a == ("__debug__" : Str)) = false)
    (bnd : ∀ (q : Str) (body : List Stmt) (doc pm : Value) (an : Option Addr) (cdv ct : Value) (cc : Addr) (p1 p2 : Pos) (s : Shared) (u v : Value), BindsTo s (PySem.W.ksFn "__init__" q (PySem.ErrX.eA a p1 p2) body (PySem.ErrX.eS a) .none .none doc pm an cdv ct cc) ⟨[u, v], []⟩ [("self", u), (a, v)])
    (hfile : P.main.file = file) (psup : (P.main.scope.names.lookup ("super" : Str)).isSome = false) (hpl : PySem.ErrX.CallsPlain e q0 q1 q2 q3) : PySem.ErrX.ErrTxt P K x qual (He.ga K x) (He.fAd K (x, some ("__init__" : Str))) a f e ∧ XfC K (He.ga K x) := by
  unfold errB at hb
  obtain ⟨b1, hb⟩ := He.ba hb
  obtain ⟨b2, hb⟩ := He.ba hb
  obtain ⟨b3, hb⟩ := He.ba hb
  obtain ⟨b4, hb⟩ := He.ba hb
  obtain ⟨b5, hb⟩ := He.ba hb
  obtain ⟨b6, hb⟩ := He.ba hb
  obtain ⟨b7, hb⟩ := He.ba hb
  obtain ⟨b8, hb⟩ := He.ba hb
  obtain ⟨b9, hb⟩ := He.ba hb
  obtain ⟨b10, hb⟩ := He.ba hb
  obtain ⟨b11, hb⟩ := He.ba hb
  obtain ⟨b12, b13⟩ := He.ba hb
  refine ⟨⟨okE, bnd, na, ?_, He.eqO_ok b3, He.eqO_ok b4, He.eqO_ok b5, of_decide_eq_true b6, b7, of_decide_eq_true b8, of_decide_eq_true b9, of_decide_eq_true b10, of_decide_eq_true b11, He.eqO_ok b12, hsup, psup, ?_⟩, xfB_ok b13⟩
  · unfold ecB at b1
    split at b1
    · rename_i dd cd sl ho
      split at b1
      · rename_i C' bm k0 k1 k2 k3 n k5 hm hs
        simp only [Bool.and_eq_true, beq_iff_eq, Bool.not_eq_true'] at b1
        obtain ⟨rfl, rfl, hdel, hdct, hve, hal⟩ := b1
        obtain ⟨nm, bs, mro, ns, qn, hd, sn, sub, ab, col, del⟩ := cd
        dsimp only at hm hdel hdct
        subst hm hdel hdct
        have hsl : sl = #[k0, k1, k2, k3, some (.builtin "ValueError.__new__"), k5] := by
          obtain ⟨l⟩ := sl
          simp only at hs
          rw [hs]
        subst hsl
        exact ⟨nm, qn, ns, bs, bm, sn, sub, ab, col, dd, k0, k1, k2, k3, k5, ho, hve, He.eqO_ok hal⟩
      · cases b1
    · cases b1
  · unfold efB at b2
    unfold clW at hc
    rw [hat] at hc
    cases q : K.lookup (He.fAd K (x, some ("__init__" : Str))) with
    | none => rw [q] at b2; cases b2
    | some o =>
      obtain ⟨oc, od, dt, osl⟩ := o
      rw [q] at b2 hc
      cases dt with
      | func fd =>
        obtain ⟨n1, n2, n3, n4, n5, n6, n7, n8, n9, n10, n11, n12, n13, n14, n15⟩ := fd
        have e2 : (some (n1, n2, n3, n4, n5, n6, [], n15) : He.FnW) = some (d.name, d.qual, d.params, .stmts d.body, d.scope, mainGlobals, [], builtinsNs) := hc
        simp only [Option.some.injEq, Prod.mk.injEq] at e2
        obtain ⟨g1, g2, g3, g4, g5, g6, _, g8⟩ := e2
        subst g1 g2 g3 g4 g5 g6 g8
        simp only at b2
        split at b2
        · rename_i n cc
          simp only [Bool.and_eq_true, beq_iff_eq] at b2
          obtain ⟨rfl, d1, d2, d3, d4, d5⟩ := b2
          cases n8 with
          | none =>
            cases n9 with
            | none =>
              unfold fileB at d5
              unfold cellB at d4
              split at d5
              · rename_i cda
                split at d5
                · rename_i u1 u2 vs u3 hl
                  split at d5
                  · rename_i f' tf hvs
                    split at d4
                    · rename_i w1 w2 D w3 hcc
                      have hD : D = He.ga K x := by simpa using d4
                      subst hD
                      subst hq
                      exact ⟨oc, od, n10, n11, n12, cda, n14, osl, cc, p1, p2, q0, q1, q2, q3, q4, q5, q6, q7, q8, u1, w1, u2, w2, u3, w3, vs, f', tf, by rw [hn, h1, h2, h3], d3, hl, hvs, by rw [hfile]; exact d5, hcc, hpl⟩
                    · cases d4
                  · cases d5
                · cases d5
              · cases d5
            | _ => cases d2
          | _ => cases d1
        · cases b2
      | _ => cases b2
end DL
namespace DL
open PySem PySem.Spec PyProof.Rows L2
def argOf : List Stmt → Expr
  | [.Expr (.Call _ [e] _ _) _, _] => e
  | _ => .Constant .none 0 ⟨0, 0, 0, 0⟩
end DL
namespace DL
open PySem PySem.Spec PyProof.Rows L2
def ixF (p : D → Bool) : Nat → List D → Option Nat
  | _, [] => none
  | i, d :: ds => if p d then some i else ixF p (i + 1) ds
def ixP (p : PyData → Bool) : Nat → List PyData → Option Nat
  | _, [] => none
  | i, d :: ds => if p d then some i else ixP p (i + 1) ds
@[simp] def opIndex (x y : D) : Option D := match x with
  | .lst ds => if flatD y && ds.all flatD then (match ixF (fun z => eqF z y) 0 ds with | some j => some (.int (j : Nat)) | none => none) else
      match toPy y, toPys ds with
      | some p, some qs => if SeqAt.shaped p && SeqAt.shaped (.list qs) then (match ixP (fun z => PyData.eqv z p) 0 qs with | some j => some (.int (j : Nat)) | none => none) else none
      | _, _ => none
  | _ => none
theorem ixF_some {p : D → Bool} : ∀ {ds : List D} {i j : Nat}, ixF p i ds = some j → ∃ k z, j = i + k ∧ ds[k]? = some z ∧ p z = true ∧ ∀ m z', m < k → ds[m]? = some z' → p z' = false
  | d :: ds, i, j, h => by
    unfold ixF at h
    split at h
    · rename_i hp
      cases h
      exact ⟨0, d, rfl, rfl, hp, fun m z' hm => absurd hm (Nat.not_lt_zero _)⟩
    · rename_i hp
      obtain ⟨k, z, e, h1, h2, h3⟩ := ixF_some h
      refine ⟨k + 1, z, by omega, by simpa using h1, h2, fun m z' hm hz => ?_⟩
      cases m with
      | zero => simp at hz; subst hz; simpa using hp
      | succ m => exact h3 m z' (by omega) (by simpa using hz)
  | [], _, _, h => by cases h
theorem ixP_some {p : PyData → Bool} : ∀ {ds : List PyData} {i j : Nat}, ixP p i ds = some j → ∃ k z, j = i + k ∧ ds[k]? = some z ∧ p z = true ∧ ∀ m z', m < k → ds[m]? = some z' → p z' = false
  | d :: ds, i, j, h => by
    unfold ixP at h
    split at h
    · rename_i hp
      cases h
      exact ⟨0, d, rfl, rfl, hp, fun m z' hm => absurd hm (Nat.not_lt_zero _)⟩
    · rename_i hp
      obtain ⟨k, z, e, h1, h2, h3⟩ := ixP_some h
      refine ⟨k + 1, z, by omega, by simpa using h1, h2, fun m z' hm hz => ?_⟩
      cases m with
      | zero => simp at hz; subst hz; simpa using hp
      | succ m => exact h3 m z' (by omega) (by simpa using hz)
  | [], _, _, h => by cases h
def rIndexA (K : PySem.W.Frag) : V → List V → Hp → VK → Prop := fun x xs H Q => rIndex K x xs H Q ∨ rIndexD K x xs H Q
theorem mt_indexA {X : Cx} (hu : X.A.units + 65 < cLine) : MtR X "list.index" (rIndexA X.K) := by
  intro pins s σ H x xs v us Q I rx rxs h
  rcases h with h | h
  · exact mt_index pins s σ H x xs v us Q I rx rxs h
  · exact mt_indexD hu pins s σ H x xs v us Q I rx rxs h
section
variable {X : Cx} {g : G} {W : WX} {P : Par} {σ : L2.St} {H F : Hp} {st : DSt} {e : Expr} {f h : Den D}
theorem flat_hits {y : V} {e : D} (ry : Rv g F y e) (fe : flatD e = true) {vs : List V} {ds : List D} (r : Rl g F vs ds) (hf : ds.all flatD = true) {k : Nat} {z : D} (hz : ds[k]? = some z) (hp : eqF z e = true) (hno : ∀ m z', m < k → ds[m]? = some z' → eqF z' e = false) :
    ∃ w, vs[k]? = some w ∧ eqV w y = true ∧ ∀ (m : Nat) (w' : V), m < k → vs[m]? = some w' → eqV w' y = false := by
  obtain ⟨w, hw, rw'⟩ := r.get hz
  have fz : ∀ {m : Nat} {z' : D}, ds[m]? = some z' → flatD z' = true := fun hm => List.all_eq_true.mp hf _ (List.mem_of_getElem? hm)
  refine ⟨w, hw, by rw [eqF_rv rw' ry (fz hz) fe]; exact hp, fun m w' hm hw' => ?_⟩
  obtain ⟨z', hz', rz'⟩ := r.get' hw'
  rw [eqF_rv rz' ry (fz hz') fe]
  exact hno m z' hm hz'
theorem opIndex_ok {v u : V} {x y z : D} {Q : VK} (le : Same F H) (rx : Br g F H v x) (ry : Rv g F u y) (hz : opIndex x y = some z) (q : ∀ v, Rv g F v z → Q v H) : ∃ a vs, v = .ref a ∧ SqL g.K H a vs ∧ rIndexA g.K v [u] H Q := by
  unfold opIndex at hz
  split at hz
  · rename_i ds
    obtain ⟨a, vs, rfl, h1, r1⟩ := rx.lst le
    refine ⟨a, vs, rfl, sqL_of h1, ?_⟩
    split at hz
    · rename_i hf
      obtain ⟨f1, f2⟩ := Bool.and_eq_true_iff.mp hf
      split at hz
      · rename_i j hj
        cases hz
        obtain ⟨k, z, rfl, e1, e2, e3⟩ := ixF_some hj
        obtain ⟨w, hw, hh, hn⟩ := flat_hits ry f1 r1 f2 e1 e2 e3
        rw [Nat.zero_add] at q
        exact .inl ⟨a, vs, u, k, w, rfl, rfl, sqL_of h1, flat_rv ry f1, all_flat r1 f2, hw, hh, hn, q _ (.int _)⟩
      · cases hz
    · split at hz
      · rename_i p qs e1 e2
        split at hz
        · rename_i hs
          obtain ⟨s1, s2⟩ := Bool.and_eq_true_iff.mp hs
          split at hz
          · rename_i j hj
            cases hz
            obtain ⟨k, z, rfl, g1, g2, g3⟩ := ixP_some hj
            rw [Nat.zero_add] at q
            exact .inr ⟨a, u, p, qs, k, z, rfl, rfl, rx.dp le (by unfold toPy; rw [e2]), ry.dp le e1, s2, s1, g1, g2, g3, q _ (.int _)⟩
          · cases hz
        · cases hz
      · cases hz
  · cases hz
/-- what a receiver must be, before its argument is read -/
@[simp] def isL : D → Option Unit
  | .lst _ => some ()
  | _ => none
@[simp] def isT : D → Option Unit
  | .tup _ => some ()
  | _ => none
@[simp] def dIndex (f h : Den D) : Den D := bindD f fun x => bindD (liftO (isL x)) fun _ => bindD h fun y => liftO (opIndex x y)
@[simp] def dIndexN (i : Nat) (h : Den D) : Den D := bindD (dRd i) fun x => bindD (liftO (isL x)) fun _ => bindD h fun y => bindD (dRd i) fun x => liftO (opIndex x y)
theorem ev_indexN {i : Nat} (he : PE X e (tBM g.K "list" (rIndexA g.K) (tVar i) (tCons (tE g W h) tNil))) : PE X e (tE g W (dIndexN i h)) := he.imp fun σ H Q ⟨P, F, st, s, o⟩ => by
  obtain ⟨v, x, hv, rx, o1⟩ := o.rd s
  obtain ⟨u0, hx, q⟩ := Out.lift o1.bind
  have o2 := q H F (Same.refl _) s
  cases x with
  | lst ds =>
    obtain ⟨a, vs, rfl, h1, r1⟩ := rx.lst s.le
    refine ⟨_, hv, .inl ⟨rfl, vs, sqL_of h1⟩, P, F, st, s, o2.bind.imp fun y st2 H2 F2 le2 s2 o3 u ry => ?_⟩
    obtain ⟨v', x', hv', rx', o4⟩ := o3.rd s2
    rw [hv] at hv'; cases hv'
    obtain ⟨z, ez, q⟩ := o4.lift
    obtain ⟨_, _, _, _, fin⟩ := opIndex_ok s2.le rx' ry ez (q H2 F2 (Same.refl _) s2)
    exact fin
  | _ => cases hx
theorem vn_sorted : VN1 g (fun v => rSortedI g.K [v]) nSorted := by
  intro H F v d zs le rd hz Q q
  unfold nSorted at hz
  split at hz
  · rename_i ds
    split at hz
    · rename_i is hi
      cases hz
      have := intsOf_eq hi
      subst this
      obtain ⟨a, vs, rfl, h1, r1⟩ := rd.lst le
      have := r1.ints
      subst this
      refine ⟨a, is, rfl, sqL_of h1, fun ns' p hp hs hn => ?_⟩
      have e : ns' = sortI is := sorted_unique (hp.trans (sortI_perm is).symm) hs (sortI_sorted is)
      subst e
      exact q p _ hn (Rl.of_ints _)
    · cases hz
  · cases hz
  · cases hz
end
end DL
namespace DL
open PySem PySem.Spec PyProof.Rows L2
@[simp] theorem ixN_nat (n j : Nat) : ixN n (j : Int) = if j < n then some j else none := by
  unfold ixN
  by_cases h : j < n
  · rw [if_pos (by omega), if_pos (by omega), if_pos h]; simp
  · rw [if_pos (by omega), if_neg (by omega), if_neg h]
@[simp] theorem atI_nat {α : Type} (xs : List α) (j : Nat) : atI xs (j : Int) = xs[j]? := by
  unfold atI
  rw [ixN_nat]
  by_cases h : j < xs.length
  · rw [if_pos h]; rfl
  · rw [if_neg h, List.getElem?_eq_none (by omega)]; rfl
@[simp] theorem big_val : big = 16777216 := rfl
end DL
namespace PySem
end PySem
namespace L2
open PySem PySem.Spec PyProof.Rows
end L2
namespace DL
open PySem PySem.Spec PyProof.Rows L2
section
variable {g : G}
@[simp] def onIntsT {α : Type} (f : List Int → Option α) : D → Option α
  | .lst ds => match intsOf ds with | some is => f is | none => none
  | .tup ds => match intsOf ds with | some is => f is | none => none
  | _ => none
@[simp] def opMinA : D → Option D := onIntsT fun is => if is.isEmpty then none else some (.int (minL is))
@[simp] def opMaxA : D → Option D := onIntsT fun is => if is.isEmpty then none else some (.int (maxL is))
end
end DL
namespace DL
open PySem PySem.Spec PyProof.Rows L2
mutual
def nol : D → Bool
  | .lst _ => false
  | .scr _ => false
  | .tup xs => nols xs
  | .ins _ _ xs => nols xs
  | _ => true
def nols : List D → Bool
  | [] => true
  | x :: xs => nol x && nols xs
end
def frzS : Slot → Slot
  | .ow ds => .sh (.lst ds)
  | .rf _ ds => .sh (.lst ds)
  | .o2 dss => .sh (.lst (dss.map .lst))
  | .oi _ _ _ _ => .no
  | .dk _ => .no
  | .dt _ => .no
  | s => s
@[simp] def dPeek (f : Den D) : Den D := fun st => match f (st.map frzS) with
  | .ok d _ => if nol d then .ok d st else .stuck
  | _ => .stuck
end DL
namespace DL
open PySem PySem.Spec PyProof.Rows L2
end DL
namespace DL
open PySem PySem.Spec PyProof.Rows L2
@[simp] def dIxx (i : Nat) (e1 e2 : Den D) : Den D := fun st => match st[i]? with
  | some (.o2 _) => bindD (dO2 i) (fun _ => bindD e1 fun k1 => bindD (dO2 i) fun dss => bindD (liftO (rowAt dss k1)) fun r => bindD (dPeek e2) fun k2 => liftO (match rowAt r.2 k2 with | some q => some q.2 | none => none)) st
  | _ => dOp2 opIx (dOp2n opIx i e1) e2 st
end DL
namespace DL
open PySem L2
def M.bind {α β : Type} : M α → (α → M β) → M β
  | .ok a, k => k a
  | .exn c fs, _ => .exn c fs
  | .stuck, _ => .stuck
@[simp] theorem bind_ok {α β : Type} (a : α) (k : α → M β) : (M.ok a).bind k = k a := rfl
@[simp] theorem bind_exn {α β : Type} (c : Str) (fs : List (Str × D)) (k : α → M β) : (M.exn c fs : M α).bind k = .exn c fs := rfl
@[simp] theorem bind_stuck {α β : Type} (k : α → M β) : (M.stuck : M α).bind k = .stuck := rfl
theorem bind_bind {α β γ : Type} (a : M α) (f : α → M β) (g : β → M γ) : (a.bind f).bind g = a.bind fun x => (f x).bind g := by cases a <;> rfl
theorem bind_pure {α : Type} (a : M α) : (a.bind fun x => .ok x) = a := by cases a <;> rfl
def oM {α : Type} : Option α → M α
  | some a => .ok a
  | none => .stuck
@[simp] theorem oM_some {α : Type} (a : α) : oM (some a) = .ok a := rfl
@[simp] theorem oM_none {α : Type} : oM (none : Option α) = .stuck := rfl
@[reducible] def eI (i : Int) : D := .int i
@[reducible] def eB (b : Bool) : D := .bl b
@[reducible] def eS (s : Str) : D := .str s
def eL {α : Type} (e : α → D) (xs : List α) : D := .lst (xs.map e)
def eT {α : Type} (e : α → D) (xs : List α) : D := .tup (xs.map e)
def eP2 {α β : Type} (a : α → D) (b : β → D) (x : α × β) : D := .tup [a x.1, b x.2]
def eP3 {α β γ : Type} (a : α → D) (b : β → D) (c : γ → D) (x : α × β × γ) : D := .tup [a x.1, b x.2.1, c x.2.2]
def eP4 {α β γ δ : Type} (a : α → D) (b : β → D) (c : γ → D) (d : δ → D) (x : α × β × γ × δ) : D := .tup [a x.1, b x.2.1, c x.2.2.1, d x.2.2.2]
def eO {α : Type} (e : α → D) : Option α → D
  | none => .non
  | some a => e a
def eC2 {α β : Type} (c n1 n2 : Str) (a : α → D) (b : β → D) (x : α × β) : D := .ins c [n1, n2] [a x.1, b x.2]
/-- f's value at st is v of what o gives; then st' stands -/
def RE {α δ : Type} (f : Den δ) (st : DSt) (o : M α) (v : α → δ) (st' : DSt) : Prop := match o with
  | .ok c => f st = .ok (v c) st'
  | .exn c fs => ∃ s, f st = .exn c fs s
  | .stuck => True
def RV {δ : Type} (f : Den δ) (st : DSt) (x : δ) (st' : DSt) : Prop := f st = .ok x st'
def OP {α δ : Type} (x : Option δ) (o : M α) (v : α → δ) : Prop := match o with
  | .ok c => x = some (v c)
  | .exn _ _ => False
  | .stuck => True
def DM {α : Type} (m : M D) (o : M α) (v : α → D) : Prop := match o with
  | .ok c => m = .ok (v c)
  | .exn c fs => m = .exn c fs
  | .stuck => True
section
variable {α β δ ε : Type} {st st1 st2 st' : DSt} {v : α → δ} {w : β → ε}
theorem re_bindP {a : Den δ} {x : δ} {k : δ → Den ε} {o : M β} (h1 : RV a st x st1) (h2 : RE (k x) st1 o w st2) : RE (bindD a k) st o w st2 := by
  have e : bindD a k st = k x st1 := by unfold bindD; rw [h1]
  cases o with
  | ok c => rw [RE, e]; exact h2
  | exn c fs => obtain ⟨s, h⟩ := h2; exact ⟨s, by rw [e]; exact h⟩
  | stuck => trivial
theorem re_bindG {a : Den δ} {o : M α} {k : δ → Den ε} {o2 : α → M β} (h1 : RE a st o v st1) (h2 : ∀ c, RE (k (v c)) st1 (o2 c) w st2) : RE (bindD a k) st (o.bind o2) w st2 := by
  cases o with
  | ok c => exact re_bindP (show RV a st (v c) st1 from h1) (h2 c)
  | exn c fs => obtain ⟨s, h⟩ := h1; exact ⟨s, by unfold bindD; rw [h]⟩
  | stuck => trivial
theorem re_assoc {ζ : Type} {a : Den δ} {g : δ → Den ε} {k : ε → Den ζ} {o : M β} {w : β → ζ} (h : RE (bindD a fun x => bindD (g x) k) st o w st2) : RE (bindD (bindD a g) k) st o w st2 := by
  have e : bindD (bindD a g) k st = bindD a (fun x => bindD (g x) k) st := by unfold bindD; cases a st <;> rfl
  cases o with
  | ok c => rw [RE, e]; exact h
  | exn c fs => obtain ⟨s, h⟩ := h; exact ⟨s, by rw [e]; exact h⟩
  | stuck => trivial
theorem re_rv {f : Den ε} {c : β} (h : RV f st (w c) st2) : RE f st (.ok c) w st2 := h
theorem rv_bind {a : Den δ} {k : δ → Den ε} {x : δ} {y : ε} (h1 : RV a st x st1) (h2 : RV (k x) st1 y st2) : RV (bindD a k) st y st2 := by
  unfold RV bindD; rw [h1]; exact h2
theorem rv_assoc {ζ : Type} {a : Den δ} {g : δ → Den ε} {k : ε → Den ζ} {y : ζ} (h : RV (bindD a fun x => bindD (g x) k) st y st2) : RV (bindD (bindD a g) k) st y st2 := by
  have e : bindD (bindD a g) k st = bindD a (fun x => bindD (g x) k) st := by unfold bindD; cases a st <;> rfl
  rw [RV, e]; exact h
theorem rv_ret {x : δ} : RV (retD x) st x st := rfl
theorem rv_lift {x : Option δ} {y : δ} (h : x = some y) : RV (liftO x) st y st := by unfold RV liftO; rw [h]
theorem re_lift {x : Option δ} {o : M α} (h : OP x o v) : RE (liftO x) st o v st := by
  cases o with
  | ok c => exact rv_lift h
  | exn c fs => exact h.elim
  | stuck => trivial
theorem re_liftM {m : M D} {o : M α} {v : α → D} (h : DM m o v) : RE (liftM' m) st o v st := by
  cases o with
  | ok c => unfold RE liftM'; rw [show m = _ from h]
  | exn c fs => exact ⟨st, by unfold liftM'; rw [show m = _ from h]⟩
  | stuck => trivial
theorem rv_eq {f : Den δ} {x y : δ} (h : RV f st x st2) (e : x = y) : RV f st y st2 := e ▸ h
theorem re_map {γ : Type} {f : Den δ} {o : M α} {g : α → γ} {w : γ → δ} (h : RE f st o v st2) (e : ∀ c, v c = w (g c)) : RE f st (o.bind fun c => .ok (g c)) w st2 := by
  cases o with
  | ok c => show f st = _; rw [← e]; exact h
  | exn c fs => exact h
  | stuck => trivial
/-- a value that is there, or not -/
theorem re_get {f : Den D} {x : Option α} {e : α → D} (h : RV f st (eO e x) st2) : RE f st (oM x) e st2 := by
  cases x with
  | some a => exact h
  | none => trivial
theorem re_ite {a b : Den δ} {x : Bool} {o1 o2 : M α} (h1 : x = true → RE a st o1 v st2) (h2 : x = false → RE b st o2 v st2) : RE (if x = true then a else b) st (if x = true then o1 else o2) v st2 := by
  cases x with
  | true => exact h1 rfl
  | false => exact h2 rfl
theorem rv_and {b : Den Bool} {x y : Bool} (h : x = true → RV b st y st) : RV (if x = true then b else retD false) st (x && y) st := by
  cases x with
  | true => exact h rfl
  | false => rfl
theorem rv_or {b : Den Bool} {x y : Bool} (h : x = false → RV b st y st) : RV (if x = true then retD true else b) st (x || y) st := by
  cases x with
  | true => rfl
  | false => exact h rfl
end
section
variable {α : Type} {st : DSt} {e : α → D} {i : Nat}
theorem rv_var {d : D} (h : st[i]? = some (.sh d)) : RV (dVar i) st d st := by unfold RV dVar; rw [h]
theorem rv_frz {ds : List D} (h : st[i]? = some (.ow ds)) : RV (dVar i) st (.lst ds) (st.set i (.sh (.lst ds))) := by unfold RV dVar; rw [h]
theorem rv_frz2 {dss : List (List D)} (h : st[i]? = some (.o2 dss)) : RV (dVar i) st (.lst (dss.map .lst)) (st.set i (.sh (.lst (dss.map .lst)))) := by unfold RV dVar; rw [h]
theorem rv_frzL {xss : List (List α)} (h : st[i]? = some (.o2 (xss.map (List.map e)))) : RV (dVar i) st (eL (eL e) xss) (st.set i (.sh (eL (eL e) xss))) := by
  have q : eL (eL e) xss = .lst ((xss.map (List.map e)).map .lst) := by simp [eL, List.map_map, Function.comp_def]
  rw [q]; exact rv_frz2 h
theorem rv_rd {d : D} (h : st[i]? = some (.sh d)) : RV (dRd i) st d st := by unfold RV dRd; rw [h]
theorem rv_rdO {ds : List D} (h : st[i]? = some (.ow ds)) : RV (dRd i) st (.lst ds) st := by unfold RV dRd; rw [h]
theorem rv_rdR {ds : List D} {k : Nat} (h : st[i]? = some (.rf k ds)) : RV (dRd i) st (.lst ds) st := by unfold RV dRd; rw [h]
theorem rv_ow {ds : List D} (h : st[i]? = some (.ow ds)) : RV (dOw i) st ds st := by unfold RV dOw; rw [h]
theorem rv_owR {ds : List D} {k : Nat} (h : st[i]? = some (.rf k ds)) : RV (dOw i) st ds st := by unfold RV dOw; rw [h]
end
structure Py {α : Type} (e : α → D) (k : Nat) where
  py : α → PyData
  to : ∀ a, toPy (e a) = some (py a)
  lay : ∀ a, (py a).canLay0 = true
  dep : ∀ a, (py a).depth ≤ k
  eqv : ∀ a b, PyData.eqv (py a) (py b) = true ↔ a = b
def pyI : Py eI 0 := ⟨.int, fun _ => by simp [eI, toPy], fun _ => by simp [PyData.canLay0], fun _ => by simp [PyData.depth], fun a b => by simp [PyData.eqv]⟩
def pyB : Py eB 0 := ⟨.bool, fun _ => by simp [eB, toPy], fun _ => by simp [PyData.canLay0], fun _ => by simp [PyData.depth], fun a b => by simp [PyData.eqv]⟩
section
variable {α β γ δ : Type} {a : α → D} {b : β → D} {c : γ → D} {d : δ → D} {k l m n : Nat}
theorem toPys_map (p : Py a k) : ∀ xs : List α, toPys (xs.map a) = some (xs.map p.py)
  | [] => by simp [toPys]
  | x :: xs => by simp [toPys, p.to, toPys_map p xs]
theorem layAll_map (p : Py a k) : ∀ xs : List α, PyData.canLayAll0 (xs.map p.py) = true
  | [] => by simp [PyData.canLayAll0]
  | x :: xs => by simp [PyData.canLayAll0, p.lay, layAll_map p xs]
theorem depAll_map (p : Py a k) : ∀ xs : List α, PyData.depthAll (xs.map p.py) ≤ k
  | [] => by simp [PyData.depthAll]
  | x :: xs => by have := p.dep x; have := depAll_map p xs; simp [PyData.depthAll]; omega
theorem eqvAll_map (p : Py a k) : ∀ xs ys : List α, PyData.eqvAll (xs.map p.py) (ys.map p.py) = true ↔ xs = ys
  | [], [] => by simp [PyData.eqvAll]
  | [], y :: ys => by simp [PyData.eqvAll]
  | x :: xs, [] => by simp [PyData.eqvAll]
  | x :: xs, y :: ys => by simp [PyData.eqvAll, p.eqv, eqvAll_map p xs ys]
def pyL (p : Py a k) : Py (eL a) (k + 1) := ⟨fun xs => .list (xs.map p.py), fun xs => by simp [eL, toPy, toPys_map p], fun xs => by simp [PyData.canLay0, layAll_map p], fun xs => by have := depAll_map p xs; simp [PyData.depth]; omega, fun xs ys => by simp [PyData.eqv, eqvAll_map p]⟩
def pyT (p : Py a k) : Py (eT a) (k + 1) := ⟨fun xs => .tuple (xs.map p.py), fun xs => by simp [eT, toPy, toPys_map p], fun xs => by simp [PyData.canLay0, layAll_map p], fun xs => by have := depAll_map p xs; simp [PyData.depth]; omega, fun xs ys => by simp [PyData.eqv, eqvAll_map p]⟩
def pyP2 (p : Py a k) (q : Py b l) : Py (eP2 a b) (k + l + 1) := ⟨fun x => .tuple [p.py x.1, q.py x.2], fun x => by simp [eP2, toPy, toPys, p.to, q.to], fun x => by simp [PyData.canLay0, PyData.canLayAll0, p.lay, q.lay],
  fun x => by have := p.dep x.1; have := q.dep x.2; simp [PyData.depth, PyData.depthAll]; omega, fun x y => by obtain ⟨x1, x2⟩ := x; obtain ⟨y1, y2⟩ := y; simp [PyData.eqv, PyData.eqvAll, p.eqv, q.eqv]⟩
def pyP3 (p : Py a k) (q : Py b l) (r : Py c m) : Py (eP3 a b c) (k + l + m + 1) := ⟨fun x => .tuple [p.py x.1, q.py x.2.1, r.py x.2.2], fun x => by simp [eP3, toPy, toPys, p.to, q.to, r.to], fun x => by simp [PyData.canLay0, PyData.canLayAll0, p.lay, q.lay, r.lay],
  fun x => by have := p.dep x.1; have := q.dep x.2.1; have := r.dep x.2.2; simp [PyData.depth, PyData.depthAll]; omega, fun x y => by obtain ⟨x1, x2, x3⟩ := x; obtain ⟨y1, y2, y3⟩ := y; simp [PyData.eqv, PyData.eqvAll, p.eqv, q.eqv, r.eqv]⟩
def pyP4 (p : Py a k) (q : Py b l) (r : Py c m) (s : Py d n) : Py (eP4 a b c d) (k + l + m + n + 1) := ⟨fun x => .tuple [p.py x.1, q.py x.2.1, r.py x.2.2.1, s.py x.2.2.2], fun x => by simp [eP4, toPy, toPys, p.to, q.to, r.to, s.to], fun x => by simp [PyData.canLay0, PyData.canLayAll0, p.lay, q.lay, r.lay, s.lay],
  fun x => by have := p.dep x.1; have := q.dep x.2.1; have := r.dep x.2.2.1; have := s.dep x.2.2.2; simp [PyData.depth, PyData.depthAll]; omega, fun x y => by obtain ⟨x1, x2, x3, x4⟩ := x; obtain ⟨y1, y2, y3, y4⟩ := y; simp [PyData.eqv, PyData.eqvAll, p.eqv, q.eqv, r.eqv, s.eqv]⟩
/-- .. or None -/
def pyO (p : Py a k) (hn : ∀ x, PyData.eqv .none (p.py x) = false ∧ PyData.eqv (p.py x) .none = false) : Py (eO a) k := ⟨fun x => match x with | none => .none | some x => p.py x, fun x => by cases x <;> simp [eO, toPy, p.to], fun x => by cases x <;> simp [PyData.canLay0, p.lay],
  fun x => by cases x with | none => simp [PyData.depth] | some x => exact p.dep x, fun x y => by
    cases x with
    | none => cases y with
      | none => simp [PyData.eqv]
      | some y => simp only [(hn y).1]; simp
    | some x => cases y with
      | none => simp only [(hn x).2]; simp
      | some y => simp only [p.eqv, Option.some.injEq]⟩
theorem shaped_of (p : Py a k) (hk : k ≤ 64 := by decide) (x : α) : SeqAt.shaped (p.py x) = true := by have := p.dep x; simp [SeqAt.shaped, p.lay x]; omega
theorem eq_py (p : Py a k) [DecidableEq α] {x y : α} (hk : k ≤ 64 := by decide) : opEq (a x) (a y) = some (eB (decide (x = y))) := by
  have h : PyData.eqv (p.py x) (p.py y) = decide (x = y) := by
    by_cases e : x = y
    · subst e; simp [(p.eqv x x).mpr rfl]
    · simp only [e, decide_false]; exact Bool.eq_false_iff.mpr fun z => e ((p.eqv x y).mp z)
  simp [eqD, p.to, shaped_of p hk, h, eB]
theorem ne_py (p : Py a k) [DecidableEq α] {x y : α} (hk : k ≤ 64 := by decide) : opNe (a x) (a y) = some (eB (!decide (x = y))) := by
  have := eq_py p (x := x) (y := y) hk
  simp only [opEq] at this
  simp only [opNe]
  cases h : eqD (a x) (a y) with
  | none => rw [h] at this; cases this
  | some z => rw [h] at this; simp only [Option.some.injEq, D.bl.injEq, eB] at this; simp [this, eB]
theorem any_py (p : Py a k) [DecidableEq α] (x : α) : ∀ xs : List α, ((xs.map p.py).any fun z => PyData.eqv z (p.py x)) = decide (x ∈ xs)
  | [] => by simp
  | y :: ys => by
    have ih := any_py p x ys
    have : PyData.eqv (p.py y) (p.py x) = decide (x = y) := by
      by_cases e : x = y
      · subst e; simp [(p.eqv x x).mpr rfl]
      · simp only [e, decide_false]; exact Bool.eq_false_iff.mpr fun z => e ((p.eqv y x).mp z).symm
    simp only [List.map_cons, List.any_cons, ih, this, List.mem_cons, Bool.decide_or]
theorem shapedL (p : Py a k) (hk : k ≤ 63) (xs : List α) : SeqAt.shaped (.list (xs.map p.py)) = true := shaped_of (pyL p) (by omega) xs
theorem shapedT (p : Py a k) (hk : k ≤ 63) (xs : List α) : SeqAt.shaped (.tuple (xs.map p.py)) = true := shaped_of (pyT p) (by omega) xs
/-- flat kinds: numbers, texts, truth values -/
structure Fl1 (e : α → D) : Prop where
  fl : ∀ x, flatD (e x) = true
  eq : ∀ x y, eqF (e x) (e y) = true ↔ x = y
theorem fl_I : Fl1 eI := ⟨fun _ => rfl, fun x y => by simp [eI, eqF]⟩
theorem anyF (p : Fl1 a) [DecidableEq α] (x : α) : ∀ xs : List α, ((xs.map a).any fun y => eqF y (a x)) = decide (x ∈ xs)
  | [] => by simp
  | y :: ys => by
    have ih := anyF p x ys
    have : eqF (a y) (a x) = decide (x = y) := by
      by_cases e : x = y
      · subst e; simp [(p.eq x x).mpr rfl]
      · simp only [e, decide_false]; exact Bool.eq_false_iff.mpr fun z => e ((p.eq y x).mp z).symm
    simp only [List.map_cons, List.any_cons, ih, this, List.mem_cons, Bool.decide_or]
theorem allF (p : Fl1 a) (xs : List α) : (xs.map a).all flatD = true := by simp [p.fl]
/-- is it there -/
def has [DecidableEq α] (x : α) (xs : List α) : Bool := decide (x ∈ xs)
@[simp] theorem has_iff [DecidableEq α] {x : α} {xs : List α} : has x xs = true ↔ x ∈ xs := by simp [has]
theorem has_eq [DecidableEq α] {x : α} {xs : List α} : has x xs = decide (x ∈ xs) := rfl
theorem in_fl (p : Fl1 a) [DecidableEq α] {x : α} {xs : List α} : inD (a x) (eL a xs) = some (has x xs) ∧ inD (a x) (eT a xs) = some (has x xs) := by
  constructor <;> simp only [inD, eL, eT, p.fl, allF p, Bool.and_self, if_true, anyF p, has]
theorem in_py (p : Py a k) [DecidableEq α] {x : α} {xs : List α} (hf : ∀ x, flatD (a x) = false := by intro _; rfl) (hk : k ≤ 63 := by decide) : inD (a x) (eL a xs) = some (has x xs) ∧ inD (a x) (eT a xs) = some (has x xs) := by
  constructor <;> simp only [inD, eL, eT, hf, Bool.false_and, if_false, p.to, toPys_map p, shaped_of p (by omega), shapedL p hk, shapedT p hk, Bool.and_self, if_true, any_py p, has] <;> rfl
theorem ninL_ {x y : D} {z : Bool} (h : inD x y = some z) : opNotIn x y = some (eB !z) := by simp [h]
/-- the first place -/
def pIndex [DecidableEq α] (xs : List α) (x : α) : M Int := if x ∈ xs then .ok (xs.idxOf x) else .stuck
theorem ixP_eq (p : Py a k) [DecidableEq α] (x : α) : ∀ (xs : List α) (i : Nat), ixP (fun z => PyData.eqv z (p.py x)) i (xs.map p.py) = if x ∈ xs then some (i + xs.idxOf x) else none
  | [], i => by simp [ixP]
  | y :: ys, i => by
    have ih := ixP_eq p x ys (i + 1)
    by_cases e : x = y
    · subst e; simp [ixP, (p.eqv x x).mpr rfl]
    · have h1 : PyData.eqv (p.py y) (p.py x) = false := Bool.eq_false_iff.mpr fun z => e ((p.eqv y x).mp z).symm
      have h2 : ¬ y = x := fun z => e z.symm
      simp only [List.map_cons, ixP, h1, ih, List.mem_cons, e, false_or, List.idxOf_cons]
      have h3 : (y == x) = false := by simp [h2]
      simp only [h3, cond_false]
      simp only [Bool.false_eq_true, if_false]
      by_cases hm : x ∈ ys
      · simp [hm, h2]; omega
      · simp [hm]
theorem index_py (p : Py a k) [DecidableEq α] {x : α} {xs : List α} (hf : ∀ x, flatD (a x) = false := by intro _; rfl) (hk : k ≤ 63 := by decide) : OP (opIndex (eL a xs) (a x)) (pIndex xs x) eI := by
  unfold pIndex
  by_cases h : x ∈ xs
  · simp [h, OP, opIndex, eL, hf, p.to, toPys_map p, shaped_of p (show k ≤ 64 by omega), shapedL p hk, ixP_eq p, eI]
  · simp [h, OP]
end
end DL
namespace DL
open PySem L2
theorem ixN_lt {n : Nat} {i : Int} {j : Nat} (h : ixN n i = some j) : j < n := by
  unfold ixN at h
  split at h
  · split at h
    · cases h; omega
    · cases h
  · split at h
    · cases h; omega
    · cases h
theorem atI_map {α β : Type} (e : α → β) (xs : List α) (i : Int) : atI (xs.map e) i = (atI xs i).map e := by
  unfold atI
  rw [List.length_map]
  cases h : ixN xs.length i with
  | none => rfl
  | some j => simp
def pAt {α : Type} (xs : List α) (i : Int) : M α := oM (atI xs i)
section
variable {α β γ δ : Type} {e : α → D}
theorem op_oM {x : Option D} {o : Option α} (h : x = o.map e) : OP x (oM o) e := by
  cases o with
  | none => trivial
  | some a => exact h
theorem op_atL {xs : List α} {i : Int} : OP (opIx (eL e xs) (eI i)) (pAt xs i) e := op_oM (atI_map e xs i)
theorem op_atT {xs : List α} {i : Int} : OP (opIx (eT e xs) (eI i)) (pAt xs i) e := op_oM (atI_map e xs i)
theorem op_lenL {xs : List α} : opLen (eL e xs) = some (eI (xs.length : Int)) := by simp [opLen, eL]
theorem op_lenT {xs : List α} : opLen (eT e xs) = some (eI (xs.length : Int)) := by simp [opLen, eT]
def pMul (a b : Int) : M Int := if smallI a || smallI b then .ok (a * b) else .stuck
theorem op_mul {a b : Int} : OP (opMul (eI a) (eI b)) (pMul a b) eI := by
  unfold pMul
  by_cases h : (smallI a || smallI b) = true
  · rw [if_pos h]; simp only [OP, opMul, h, if_true]
  · rw [if_neg h]; trivial
def pDiv (a b : Int) : M Int := if b ≠ 0 ∧ b.natAbs < 1073741824 then .ok (a.fdiv b) else .stuck
theorem op_div {a b : Int} : OP (opDiv (eI a) (eI b)) (pDiv a b) eI := by
  unfold pDiv
  by_cases h : b ≠ 0 ∧ b.natAbs < 1073741824
  · rw [if_pos h]; simp only [OP, opDiv, h]; simp [h]
  · rw [if_neg h]; trivial
def pMod (a b : Int) : M Int := if b ≠ 0 then .ok (a.fmod b) else .stuck
theorem op_mod {a b : Int} : OP (opMod (eI a) (eI b)) (pMod a b) eI := by
  unfold pMod
  by_cases h : b ≠ 0
  · rw [if_pos h]; simp only [OP, opMod, h]; simp [h]
  · rw [if_neg h]; trivial
def pCat (xs ys : List α) : M (List α) := if xs.length + ys.length ≤ big then .ok (xs ++ ys) else .stuck
theorem op_catT {xs ys : List α} : OP (opAdd (eT e xs) (eT e ys)) (pCat xs ys) (eT e) := by
  unfold pCat
  by_cases h : xs.length + ys.length ≤ big
  · rw [if_pos h]; simp only [OP, opAdd, eT, List.length_map, h, if_true, List.map_append]
  · rw [if_neg h]; trivial
theorem op_nCat {xs ys : List α} : OP (nAdd (eL e xs) (eL e ys)) (pCat xs ys) (List.map e) := by
  unfold pCat
  by_cases h : xs.length + ys.length ≤ big
  · rw [if_pos h]; simp only [OP, nAdd, eL, List.length_map, h, if_true, List.map_append]
  · rw [if_neg h]; trivial
def pRep (xs : List α) (k : Int) : M (List α) := if xs.length * k.toNat ≤ big ∧ k.natAbs < 9223372036854775808 then .ok (List.replicate k.toNat xs).flatten else .stuck
theorem op_nRep {xs : List α} {k : Int} : OP (nMul (eL e xs) (eI k)) (pRep xs k) (List.map e) := by
  unfold pRep
  by_cases h : xs.length * k.toNat ≤ big ∧ k.natAbs < 9223372036854775808
  · rw [if_pos h]; simp only [OP, nMul, eL, eI, List.length_map]; rw [if_pos h]; simp [List.map_flatten, List.map_replicate]
  · rw [if_neg h]; trivial
theorem intsOf_map : ∀ xs : List Int, intsOf (xs.map eI) = some xs
  | [] => rfl
  | x :: xs => by simp [intsOf, intsOf_map xs]
theorem cutD_map {β : Type} (f : α → β) (xs : List α) (lo hi : Option Int) : cutD (xs.map f) lo hi = (cutD xs lo hi).map f := by
  unfold cutD; rw [List.length_map, List.map_take, List.map_drop]
theorem op_slL {xs : List α} {lo hi : Option Int} : opSl (eL e xs) lo hi = some (eL e (cutD xs lo hi)) := by simp only [opSl, eL, cutD_map]
def rng (n : Int) : List Int := (List.range n.toNat).map fun k : Nat => (k : Int)
def rng2 (m n : Int) : List Int := (List.range (n - m).toNat).map fun k : Nat => m + (k : Int)
def pRng (n : Int) : M (List Int) := if n.natAbs ≤ big then .ok (rng n) else .stuck
theorem op_rng {n : Int} : OP (rngD (eI n)) (pRng n) (List.map eI) := by
  unfold pRng
  by_cases h : n.natAbs ≤ big
  · rw [if_pos h]; simp only [OP, rngD, rangeL, h, if_true, rng, List.map_map, eI]; rfl
  · rw [if_neg h]; trivial
theorem rgL_rng {n : Int} : rgL (0, n) = (rng n).map eI := by
  simp only [rgL, rng, List.map_map, Int.sub_zero]
  congr 1; funext k; simp
theorem big_eqI : (big : Int) = 16777216 := rfl
/-- list(range(n)), tuple(range(n)) -/
theorem re_lrg {n : Int} {st : DSt} : RE (fun st => dLstRg (dRg1 (dC (eI n))) st) st (pRng n) (List.map eI) st := by
  unfold pRng
  by_cases h : n.natAbs ≤ big
  · rw [if_pos h]
    have h2 : n ≤ (big : Int) := by have := big_eqI; have : big = 16777216 := rfl; omega
    show dLstRg (dRg1 (dC (eI n))) st = _
    simp only [dLstRg, dRg1, dC, bindD, retD, asI, h, if_true, liftO, h2, rgL_rng]
  · rw [if_neg h]; trivial
theorem re_lrgP {a : Den D} {n : Int} {st st1 : DSt} (h : RV a st (eI n) st1) : RE (dLstRg (dRg1 a)) st (pRng n) (List.map eI) st1 := by
  have e : dLstRg (dRg1 a) st = dLstRg (dRg1 (dC (eI n))) st1 := by simp only [dLstRg, dRg1, bindD, dC, retD]; rw [show a st = _ from h]
  have := re_lrg (n := n) (st := st1)
  revert this
  unfold RE
  cases pRng n with
  | ok c => intro q; rw [e]; exact q
  | exn c fs => intro ⟨s, q⟩; exact ⟨s, by rw [e]; exact q⟩
  | stuck => intro _; trivial
theorem re_trgP {a : Den D} {n : Int} {st st1 : DSt} (h : RV a st (eI n) st1) : RE (dTupRg (dRg1 a)) st (pRng n) (eT eI) st1 := by
  unfold pRng
  by_cases hb : n.natAbs ≤ big
  · rw [if_pos hb]
    have h2 : n ≤ (big : Int) := by have := big_eqI; have : big = 16777216 := rfl; omega
    show dTupRg (dRg1 a) st = _
    simp only [dTupRg, dRg1, bindD]; rw [show a st = _ from h]; simp only [asI, hb, if_true, liftO, h2, rgL_rng]; rfl
  · rw [if_neg hb]; trivial
/-- the length of a display -/
theorem op_tup {ds : List D} {d : D} (hl : ds.length ≤ 64) (h : .tup ds = d) : (if ds.length ≤ big then some (D.tup ds) else none) = some d := by
  rw [if_pos (by have : big = 16777216 := rfl; omega), h]
theorem op_lst {ds : List D} {zs : List D} (hl : ds.length ≤ 64) (h : ds = zs) : (if ds.length ≤ big then some ds else none) = some zs := by
  rw [if_pos (by have : big = 16777216 := rfl; omega), h]
end
def mapGo {α β : Type} (f : α → M β) : List α → M (List β)
  | [] => .ok []
  | x :: xs => match f x with
    | .ok y => match mapGo f xs with
      | .ok ys => .ok (y :: ys)
      | _ => .stuck
    | _ => .stuck
def filGo {α β : Type} (p : α → M Bool) (f : α → M β) : List α → M (List β)
  | [] => .ok []
  | x :: xs => match p x with
    | .ok true => (match f x with
      | .ok y => (match filGo p f xs with
        | .ok ys => .ok (y :: ys)
        | _ => .stuck)
      | _ => .stuck)
    | .ok false => filGo p f xs
    | _ => .stuck
def pMap {α β : Type} (f : α → M β) (xs : List α) : M (List β) := if xs.length ≤ big then mapGo f xs else .stuck
def pFil {α β : Type} (p : α → M Bool) (f : α → M β) (xs : List α) : M (List β) := if xs.length ≤ big then filGo p f xs else .stuck
section
variable {α β γ : Type}
theorem mapGo_fil (f : α → M β) : ∀ xs : List α, mapGo f xs = filGo (fun _ => .ok true) f xs
  | [] => rfl
  | x :: xs => by simp only [mapGo, filGo, mapGo_fil f xs]
theorem mapGo_ok {f : α → M β} {g : α → β} : ∀ {xs : List α}, (∀ x ∈ xs, f x = .ok (g x)) → mapGo f xs = .ok (xs.map g)
  | [], _ => rfl
  | x :: xs, h => by
    have ih := mapGo_ok (f := f) (g := g) (xs := xs) fun x hx => h x (List.mem_cons_of_mem _ hx)
    simp only [mapGo, h x List.mem_cons_self, ih, List.map_cons]
theorem filGo_ok {p : α → M Bool} {f : α → M β} {q : α → Bool} {g : α → β} : ∀ {xs : List α}, (∀ x ∈ xs, p x = .ok (q x)) → (∀ x ∈ xs, q x = true → f x = .ok (g x)) → filGo p f xs = .ok ((xs.filter q).map g)
  | [], _, _ => rfl
  | x :: xs, h, h2 => by
    have ih := filGo_ok (p := p) (f := f) (q := q) (g := g) (xs := xs) (fun x hx => h x (List.mem_cons_of_mem _ hx)) fun x hx => h2 x (List.mem_cons_of_mem _ hx)
    by_cases hq : q x = true
    · simp only [filGo, h x List.mem_cons_self, hq, h2 x List.mem_cons_self hq, ih, List.filter_cons, if_true, List.map_cons]
    · simp only [Bool.not_eq_true] at hq
      simp only [filGo, h x List.mem_cons_self, hq, ih, List.filter_cons]; simp
theorem pMap_ok {f : α → M β} (g : α → β) {xs : List α} (hl : xs.length ≤ big) (h : ∀ x ∈ xs, f x = .ok (g x)) : pMap f xs = .ok (xs.map g) := by
  unfold pMap; rw [if_pos hl, mapGo_ok h]
theorem pFil_ok {p : α → M Bool} {f : α → M β} (q : α → Bool) (g : α → β) {xs : List α} (hl : xs.length ≤ big) (h : ∀ x ∈ xs, p x = .ok (q x)) (h2 : ∀ x ∈ xs, q x = true → f x = .ok (g x)) : pFil p f xs = .ok ((xs.filter q).map g) := by
  unfold pFil; rw [if_pos hl, filGo_ok h h2]
variable {vs : List Nat} {t : Tg} {elt : Den D} {test : Den Bool} {e : α → D} {e2 : β → D} {st st0 : DSt}
theorem compGo_typed {f : α → M β} {p : α → M Bool} (hb : ∀ x, ∃ st1 st2 st3, setT t (e x) st0 = some st1 ∧ RE test st1 (p x) (fun b : Bool => b) st2 ∧ RE elt st2 (f x) e2 st3 ∧ wipeD st2 vs = st0 ∧ wipeD st3 vs = st0) :
    ∀ xs : List α, match filGo p f xs with | .ok ys => compGo vs t test elt (xs.map e) st0 = .ok (ys.map e2) st0 | _ => True
  | [] => rfl
  | x :: xs => by
    obtain ⟨st1, st2, st3, h1, ht, h2, h2', h3⟩ := hb x
    have ih := compGo_typed hb xs
    simp only [filGo]
    cases hp : p x with
    | ok c =>
      rw [hp] at ht
      cases c with
      | true =>
        cases hf : f x with
        | ok y =>
          rw [hf] at h2
          cases hr : filGo p f xs with
          | ok ys =>
            rw [hr] at ih
            simp only [] at ih ⊢
            simp only [List.map_cons, compGo, h1]
            rw [show test st1 = .ok true st2 from ht]
            simp only []
            rw [show elt st2 = _ from h2]
            simp only [h3, ih]
          | exn c fs => trivial
          | stuck => trivial
        | exn c fs => trivial
        | stuck => trivial
      | false =>
        simp only []
        cases hr : filGo p f xs with
        | ok ys =>
          rw [hr] at ih
          simp only [] at ih ⊢
          simp only [List.map_cons, compGo, h1]
          rw [show test st1 = .ok false st2 from ht]
          simp only [h2', ih]
        | exn c fs => trivial
        | stuck => trivial
    | exn c fs => trivial
    | stuck => trivial
theorem filGo_exn {p : α → M Bool} {f : α → M β} {c : Str} {fs : List (Str × D)} : ∀ xs : List α, filGo p f xs ≠ .exn c fs
  | [] => fun z => by cases z
  | x :: xs => fun z => by
    have ih := filGo_exn (p := p) (f := f) (c := c) (fs := fs) xs
    simp only [filGo] at z
    split at z
    · split at z
      · split at z
        · cases z
        · cases z
      · cases z
    · exact ih z
    · cases z
/-- the comprehension behind its list -/
def compK (vs : List Nat) (t : Tg) (test : Den Bool) (elt : Den D) (ds : List D) : Den (List D) := fun st =>
  if ds.length ≤ big ∧ vs.all (plainAt st) = true then
    match compGo vs t test elt ds (wipeD st vs) with
    | .ok ys st' => .ok ys (backD st st' vs)
    | _ => .stuck
  else .stuck
theorem re_compF {xs : List α} {f : α → M β} {p : α → M Bool} (st0 : DSt) (hw : wipeD st vs = st0) (hp : vs.all (plainAt st) = true) (hbk : backD st st0 vs = st)
    (hb : ∀ x, ∃ st1 st2 st3, setT t (e x) st0 = some st1 ∧ RE test st1 (p x) (fun b : Bool => b) st2 ∧ RE elt st2 (f x) e2 st3 ∧ wipeD st2 vs = st0 ∧ wipeD st3 vs = st0) : RE (compK vs t test elt (xs.map e)) st (pFil p f xs) (List.map e2) st := by
  unfold pFil
  by_cases hl : xs.length ≤ big
  · rw [if_pos hl]
    have h := compGo_typed hb xs
    cases hr : filGo p f xs with
    | ok ys =>
      rw [hr] at h
      simp only [] at h
      show compK vs t test elt (xs.map e) st = _
      unfold compK
      rw [if_pos ⟨by rw [List.length_map]; exact hl, hp⟩, hw, h]
      simp only [hbk]
    | exn c fs => exact absurd hr (filGo_exn xs)
    | stuck => trivial
  · rw [if_neg hl]; trivial
theorem re_compM {xs : List α} {f : α → M β} (st0 : DSt) (hw : wipeD st vs = st0) (hp : vs.all (plainAt st) = true) (hbk : backD st st0 vs = st)
    (hb : ∀ x, ∃ st1 st3, setT t (e x) st0 = some st1 ∧ RE elt st1 (f x) e2 st3 ∧ wipeD st1 vs = st0 ∧ wipeD st3 vs = st0) : RE (compK vs t dYes elt (xs.map e)) st (pMap f xs) (List.map e2) st := by
  have h := re_compF (xs := xs) (f := f) (p := fun _ => .ok true) (vs := vs) (t := t) (test := dYes) (elt := elt) (e := e) (e2 := e2) st0 hw hp hbk fun x => by
    obtain ⟨st1, st3, h1, h2, h3, h4⟩ := hb x
    exact ⟨st1, st1, st3, h1, rfl, h2, h3, h4⟩
  unfold pFil at h
  unfold pMap
  rw [mapGo_fil]
  exact h
end
end DL
namespace DL
open PySem L2
def RS {γ : Type} (X : Bool) (f : DS) (st : DSt) (o : M γ) (K : γ → Fl → DSt → Prop) : Prop := match o with
  | .ok c => ∃ fl st', f st = .ok fl st' ∧ K c fl st'
  | .exn c fs => X = true → ∃ s, f st = .exn c fs s
  | .stuck => True
/-- a statement that goes on -/
def RX {γ : Type} (f : DS) (st : DSt) (o : M γ) (S : γ → DSt) : Prop := match o with
  | .ok c => f st = .ok .nx (S c)
  | .exn c fs => ∃ s, f st = .exn c fs s
  | .stuck => True
inductive F (σ ρ : Type) where
  | nx (a : σ) | ret (r : ρ) | brk (a : σ) | cnt (a : σ)
def KN {σ : Type} (I : σ → DSt → Prop) (c : σ) (fl : Fl) (st : DSt) : Prop := fl = .nx ∧ I c st
def KF {σ ρ : Type} (I : σ → DSt → Prop) (R : ρ → Fl → DSt → Prop) (c : F σ ρ) (fl : Fl) (st : DSt) : Prop := match c with
  | .nx a => fl = .nx ∧ I a st
  | .ret r => R r fl st
  | .brk a => fl = .brk ∧ I a st
  | .cnt a => fl = .cnt ∧ I a st
def pfold {α σ : Type} (f : α → σ → M σ) : List α → σ → M σ
  | [], a => .ok a
  | x :: xs, a => (f x a).bind (pfold f xs)
def pfor {α σ ρ : Type} (f : α → σ → M (F σ ρ)) : List α → σ → M (σ ⊕ ρ)
  | [], a => .ok (.inl a)
  | x :: xs, a => (f x a).bind fun c => match c with
    | .nx a => pfor f xs a
    | .cnt a => pfor f xs a
    | .brk a => .ok (.inl a)
    | .ret r => .ok (.inr r)
def pwhile {σ : Type} (t : σ → M Bool) (f : σ → M σ) : Nat → σ → M σ
  | 0, _ => .stuck
  | n + 1, a => (t a).bind fun c => if c = true then (f a).bind (pwhile t f n) else .ok a
def pK {σ ρ γ : Type} (r : σ ⊕ ρ) (k : σ → M γ) (h : ρ → γ) : M γ := match r with
  | .inl a => k a
  | .inr r => .ok (h r)
@[simp] theorem pK_inl {σ ρ γ : Type} (a : σ) (k : σ → M γ) (h : ρ → γ) : pK (.inl a) k h = k a := rfl
@[simp] theorem pK_inr {σ ρ γ : Type} (r : ρ) (k : σ → M γ) (h : ρ → γ) : pK (.inr r) k h = .ok (h r) := rfl
/-- a slot nobody looks at: empty, or with a value -/
def jk : Option D → Slot
  | none => .no
  | some d => .sh d
section
variable {γ δ α β σ ρ τ : Type} {X : Bool} {st st1 st2 : DSt} {K : γ → Fl → DSt → Prop} {o : M γ} {b : DS} {v : α → δ}
theorem rs_last {f : DS} (h : RS X (sSeq f sPass) st o K) : RS X f st o K := by
  have e : sSeq f sPass st = f st := by
    unfold sSeq
    cases hf : f st with
    | ok fl st' => cases fl <;> rfl
    | exn c fs s => rfl
    | stuck => rfl
  cases o with
  | ok c => obtain ⟨fl, st', h1, h2⟩ := h; exact ⟨fl, st', by rw [← e]; exact h1, h2⟩
  | exn c fs => intro hx; obtain ⟨s, h⟩ := h hx; exact ⟨s, by rw [← e]; exact h⟩
  | stuck => trivial
theorem rs_of_eq {f g : DS} {st1 : DSt} (e : f st = g st1) (h : RS X g st1 o K) : RS X f st o K := by
  cases o with
  | ok c => obtain ⟨fl, st', h1, h2⟩ := h; exact ⟨fl, st', by rw [e]; exact h1, h2⟩
  | exn c fs => intro hx; obtain ⟨s, h⟩ := h hx; exact ⟨s, by rw [e]; exact h⟩
  | stuck => trivial
theorem rs_bindP {a : Den δ} {k : δ → DS} {x : δ} (h1 : RV a st x st1) (h2 : RS X (sSeq (k x) b) st1 o K) : RS X (sSeq (bindD a k) b) st o K :=
  rs_of_eq (by unfold sSeq bindD; rw [show a st = _ from h1]) h2
theorem rs_bindG {a : Den δ} {k : δ → DS} {o1 : M α} {o2 : α → M γ} (h1 : RE a st o1 v st1) (h2 : ∀ c, RS X (sSeq (k (v c)) b) st1 (o2 c) K) : RS X (sSeq (bindD a k) b) st (o1.bind o2) K := by
  cases o1 with
  | ok c => exact rs_bindP (show RV a st (v c) st1 from h1) (h2 c)
  | exn c fs => intro _; obtain ⟨s, h⟩ := h1; exact ⟨s, by unfold sSeq bindD; rw [h]⟩
  | stuck => trivial
theorem rs_x {f : DS} {o1 : M α} {o2 : α → M γ} {S : α → DSt} (h1 : RX f st o1 S) (h2 : ∀ c, RS X b (S c) (o2 c) K) : RS X (sSeq f b) st (o1.bind o2) K := by
  cases o1 with
  | ok c => exact rs_of_eq (by unfold sSeq; rw [show f st = _ from h1]) (h2 c)
  | exn c fs => intro _; obtain ⟨s, h⟩ := h1; exact ⟨s, by unfold sSeq; rw [h]⟩
  | stuck => trivial
theorem rs_exec {f : DS} (h1 : f st = .ok .nx st1) (h2 : RS X b st1 o K) : RS X (sSeq f b) st o K := rs_of_eq (by unfold sSeq; rw [h1]) h2
theorem rs_ret {c : γ} {d : D} (h : K c (.ret d) st) : RS X (sSeq (retD (.ret d)) b) st (.ok c) K := ⟨_, _, rfl, h⟩
theorem rs_nx (h : RS X b st o K) : RS X (sSeq (retD .nx) b) st o K := h
theorem rs_end {c : γ} (h : K c .nx st) : RS X sPass st (.ok c) K := ⟨_, _, rfl, h⟩
theorem rs_seq {f g : DS} (h : RS X (sSeq f (sSeq g b)) st o K) : RS X (sSeq (sSeq f g) b) st o K := by
  refine rs_of_eq (g := sSeq f (sSeq g b)) (st1 := st) ?_ h
  unfold sSeq
  cases f st with
  | ok fl s => cases fl <;> rfl
  | exn c fs s => rfl
  | stuck => rfl
theorem rs_put {i : Nat} {s : Slot} (h1 : slotSet i s st = some st1) (h2 : RS X b st1 o K) : RS X (sSeq (putD i s) b) st o K := rs_exec (by unfold putD; rw [h1]) h2
theorem rs_put2 {i : Nat} {s : List (List D)} (h1 : slotSet i (.o2 s) st = some st1) (h2 : RS X b st1 o K) : RS X (sSeq (putD2 i s) b) st o K := rs_exec (by unfold putD2; rw [h1]) h2
theorem rs_ite {x : Bool} {f g : DS} {o1 o2 : M γ} (h1 : x = true → RS X (sSeq f b) st o1 K) (h2 : x = false → RS X (sSeq g b) st o2 K) : RS X (sSeq (if x = true then f else g) b) st (if x = true then o1 else o2) K := by
  cases x with
  | true => exact h1 rfl
  | false => exact h2 rfl
theorem rs_raise0 {c : Str} : RS X (sSeq (sRaise0 c) b) st (.exn c []) K := fun _ => ⟨st, rfl⟩
theorem rs_raise1 {c f : Str} {d : D} : RS X (sSeq (fun st => .exn c [(f, d)] st) b) st (.exn c [(f, d)]) K := fun _ => ⟨st, rfl⟩
/-- goes on behind -/
theorem rs_join {f : DS} {o1 : M α} {o2 : α → M γ} {I : α → DSt → Prop} (h1 : RS X f st o1 (KN I)) (h2 : ∀ c st', I c st' → RS X b st' (o2 c) K) : RS X (sSeq f b) st (o1.bind o2) K := by
  cases o1 with
  | ok c =>
    obtain ⟨fl, st', e, rfl, hi⟩ := h1
    exact rs_of_eq (st1 := st') (by unfold sSeq; rw [e]) (h2 c st' hi)
  | exn c fs => intro hx; obtain ⟨s, h⟩ := h1 hx; exact ⟨s, by unfold sSeq; rw [h]⟩
  | stuck => trivial
def KS {σ ρ : Type} (I : σ → DSt → Prop) (R : ρ → Fl → DSt → Prop) (c : σ ⊕ ρ) (fl : Fl) (st : DSt) : Prop := match c with
  | .inl a => fl = .nx ∧ I a st
  | .inr r => R r fl st
def KR (K : γ → Fl → DSt → Prop) (h : ρ → γ) (r : ρ) (fl : Fl) (st : DSt) : Prop := (∃ d, fl = .ret d) ∧ K (h r) fl st
theorem rs_joinF {f : DS} {o1 : M (σ ⊕ ρ)} {o2 : σ → M γ} {h : ρ → γ} {I : σ → DSt → Prop} (h1 : RS X f st o1 (KS I (KR K h))) (h2 : ∀ c st', I c st' → RS X b st' (o2 c) K) : RS X (sSeq f b) st (o1.bind fun r => pK r o2 h) K := by
  cases o1 with
  | ok c =>
    obtain ⟨fl, st', e, hk⟩ := h1
    cases c with
    | inl a =>
      obtain ⟨rfl, hi⟩ := hk
      exact rs_of_eq (st1 := st') (by unfold sSeq; rw [e]) (h2 a st' hi)
    | inr r =>
      obtain ⟨⟨d, rfl⟩, hk⟩ := hk
      exact ⟨_, st', by unfold sSeq; rw [e], hk⟩
  | exn c fs => intro hx; obtain ⟨s, h⟩ := h1 hx; exact ⟨s, by unfold sSeq; rw [h]⟩
  | stuck => trivial
variable {t : Tg} {body : DS} {e : α → D} {I : σ → DSt → Prop} {R : ρ → Fl → DSt → Prop}
theorem rs_fold {f : α → σ → M σ} (hb : ∀ x a st, I a st → ∃ st1, setT t (e x) st = some st1 ∧ RS X body st1 (f x a) (KN I)) : ∀ (xs : List α) (a : σ) (st : DSt), I a st → RS X (loop t body (xs.map e)) st (pfold f xs a) (KN I)
  | [], a, st, h => ⟨_, _, rfl, rfl, h⟩
  | x :: xs, a, st, h => by
    obtain ⟨st1, h1, h2⟩ := hb x a st h
    have ih := rs_fold hb xs
    simp only [pfold]
    cases hf : f x a with
    | ok c =>
      rw [hf] at h2
      obtain ⟨fl, st', e1, rfl, hi⟩ := h2
      exact rs_of_eq (st1 := st') (by simp only [List.map_cons, loop, h1, e1]) (ih c st' hi)
    | exn c fs => rw [hf] at h2; intro hx; obtain ⟨s, h2⟩ := h2 hx; exact ⟨s, by simp only [List.map_cons, loop, h1, h2]⟩
    | stuck => trivial
theorem rs_for {f : α → σ → M (F σ ρ)} (hR : ∀ r fl st, R r fl st → ∃ d, fl = .ret d) (hb : ∀ x a st, I a st → ∃ st1, setT t (e x) st = some st1 ∧ RS X body st1 (f x a) (KF I R)) : ∀ (xs : List α) (a : σ) (st : DSt), I a st → RS X (loop t body (xs.map e)) st (pfor f xs a) (KS I R)
  | [], a, st, h => ⟨_, _, rfl, rfl, h⟩
  | x :: xs, a, st, h => by
    obtain ⟨st1, h1, h2⟩ := hb x a st h
    have ih := rs_for hR hb xs
    simp only [pfor]
    cases hf : f x a with
    | ok c =>
      rw [hf] at h2
      obtain ⟨fl, st', e1, hk⟩ := h2
      cases c with
      | nx a => obtain ⟨rfl, hi⟩ := hk; exact rs_of_eq (st1 := st') (by simp only [List.map_cons, loop, h1, e1]) (ih a st' hi)
      | cnt a => obtain ⟨rfl, hi⟩ := hk; exact rs_of_eq (st1 := st') (by simp only [List.map_cons, loop, h1, e1]) (ih a st' hi)
      | brk a => obtain ⟨rfl, hi⟩ := hk; exact ⟨_, st', by simp only [List.map_cons, loop, h1, e1], rfl, hi⟩
      | ret r => obtain ⟨d, rfl⟩ := hR _ _ _ hk; exact ⟨_, st', by simp only [List.map_cons, loop, h1, e1], hk⟩
    | exn c fs => rw [hf] at h2; intro hx; obtain ⟨s, h2⟩ := h2 hx; exact ⟨s, by simp only [List.map_cons, loop, h1, h2]⟩
    | stuck => trivial
theorem rs_while {test : Den Bool} {tp : σ → M Bool} {f : σ → M σ} (ht : ∀ a st, I a st → RE test st (tp a) (fun b : Bool => b) st) (hb : ∀ a st, I a st → RS X body st (f a) (KN I)) : ∀ (n : Nat) (a : σ) (st : DSt), I a st → RS X (sWhile test body n) st (pwhile tp f n a) (KN I)
  | 0, a, st, h => trivial
  | n + 1, a, st, h => by
    have h0 := ht a st h
    have ih := rs_while ht hb n
    simp only [pwhile]
    cases hp : tp a with
    | ok c =>
      rw [hp] at h0
      have h0 : test st = .ok c st := h0
      cases c with
      | false => exact ⟨_, st, by simp only [sWhile, h0], rfl, h⟩
      | true =>
        have h2 := hb a st h
        simp only [bind_ok, if_true]
        cases hf : f a with
        | ok c =>
          rw [hf] at h2
          obtain ⟨fl, st', e1, rfl, hi⟩ := h2
          exact rs_of_eq (st1 := st') (by simp only [sWhile, h0, e1]) (ih c st' hi)
        | exn c fs => rw [hf] at h2; intro hx; obtain ⟨s, h2⟩ := h2 hx; exact ⟨s, by simp only [sWhile, h0, h2]⟩
        | stuck => trivial
    | exn c fs => rw [hp] at h0; intro _; obtain ⟨s, h0⟩ := h0; exact ⟨s, by simp only [sWhile, h0]⟩
    | stuck => trivial
theorem kr_ret {K : γ → Fl → DSt → Prop} {h : ρ → γ} (r : ρ) (fl : Fl) (st : DSt) (q : KR K h r fl st) : ∃ d, fl = .ret d := q.1
/-- a for statement and what stands behind it -/
theorem rs_for0 {xs : List α} {a : σ} {f : α → σ → M σ} {o2 : σ → M γ} (I : σ → DSt → Prop) (h0 : I a st) (hb : ∀ x a st, I a st → ∃ st1, setT t (e x) st = some st1 ∧ RS X body st1 (f x a) (KN I)) (hk : ∀ c st', I c st' → RS X b st' (o2 c) K) :
    RS X (sSeq (loop t body (xs.map e)) b) st ((pfold f xs a).bind o2) K := rs_join (rs_fold hb xs a st h0) hk
theorem rs_for1 {xs : List α} {a : σ} {f : α → σ → M (F σ ρ)} {o2 : σ → M γ} {h : ρ → γ} (I : σ → DSt → Prop) (h0 : I a st) (hb : ∀ x a st, I a st → ∃ st1, setT t (e x) st = some st1 ∧ RS X body st1 (f x a) (KF I (KR K h))) (hk : ∀ c st', I c st' → RS X b st' (o2 c) K) :
    RS X (sSeq (loop t body (xs.map e)) b) st ((pfor f xs a).bind fun r => pK r o2 h) K := rs_joinF (rs_for kr_ret hb xs a st h0) hk
theorem rs_while0 {n : Nat} {a : σ} {test : Den Bool} {tp : σ → M Bool} {f : σ → M σ} {o2 : σ → M γ} (I : σ → DSt → Prop) (h0 : I a st) (ht : ∀ a st, I a st → RE test st (tp a) (fun b : Bool => b) st) (hb : ∀ a st, I a st → RS X body st (f a) (KN I)) (hk : ∀ c st', I c st' → RS X b st' (o2 c) K) :
    RS X (sSeq (sWhile test body n) b) st ((pwhile tp f n a).bind o2) K := rs_join (rs_while ht hb n a st h0) hk
/-- the end of a def -/
def Kfn {ρ : Type} (e : ρ → D) (r : ρ) (fl : Fl) (_ : DSt) : Prop := fl = .ret (e r) ∨ (fl = .nx ∧ e r = .non)
def Kby {ρ τ : Type} (e : ρ → D) (eτ : τ → D) (r : ρ × List τ) (fl : Fl) (st : DSt) : Prop := (fl = .ret (e r.1) ∨ (fl = .nx ∧ e r.1 = .non)) ∧ ∃ tl, st = .rf 0 (r.2.map eτ) :: tl
def Kini {ρ : Type} (nd : ρ → List Str × List D) (c : Str) (r : ρ) (fl : Fl) (st : DSt) : Prop := fl = .nx ∧ ∃ tl, st = .oi 0 c (nd r).1 (nd r).2 :: tl
theorem fn_F {m n : Nat} {f : DS} {ds : List D} {o : M ρ} {e : ρ → D} (hl : ds.length = m) (h : RS true f (ds.map Slot.sh ++ List.replicate (n - ds.length) .no) o (Kfn e)) : DM (runF m n f ds) o e := by
  unfold runF
  rw [if_pos hl]
  cases o with
  | ok c =>
    obtain ⟨fl, st', e1, hk⟩ := h
    rw [e1]
    rcases hk with rfl | ⟨rfl, hk⟩
    · rfl
    · show M.ok D.non = .ok (e c); rw [hk]
  | exn c fs => obtain ⟨s, h⟩ := h rfl; rw [h]; rfl
  | stuck => trivial
def DR {ρ τ : Type} (m : M (D × List D)) (o : M (ρ × List τ)) (e : ρ → D) (eτ : τ → D) : Prop := match o with
  | .ok c => m = .ok (e c.1, c.2.map eτ)
  | _ => True
theorem fn_R {m n : Nat} {f : DS} {ds : List D} {xs : List τ} {eτ : τ → D} {o : M (ρ × List τ)} {e : ρ → D} (hl : ds.length + 1 = m) (h : RS false f (.rf 0 (xs.map eτ) :: (ds.map Slot.sh ++ List.replicate (n - ds.length - 1) .no)) o (Kby e eτ)) : DR (runR m n f (xs.map eτ) ds) o e eτ := by
  unfold runR
  rw [if_pos hl]
  cases o with
  | ok c =>
    obtain ⟨fl, st', e1, hk, tl, rfl⟩ := h
    rw [e1]
    rcases hk with rfl | ⟨rfl, hk⟩
    · rfl
    · show M.ok (D.non, _) = .ok (e c.1, _); rw [hk]
  | exn c fs => trivial
  | stuck => trivial
theorem fn_I {m n : Nat} {c : Str} {f : DS} {ds : List D} {o : M ρ} {nd : ρ → List Str × List D} (hl : ds.length + 1 = m) (h : RS true f (.oi 0 c [] [] :: (ds.map Slot.sh ++ List.replicate (n - ds.length - 1) .no)) o (Kini nd c)) : DM (makeM c (runI c m n f) ds) o (fun r => .ins c (nd r).1 (nd r).2) := by
  unfold makeM runI
  rw [if_pos hl]
  cases o with
  | ok r =>
    obtain ⟨fl, st', e1, rfl, tl, rfl⟩ := h
    rw [e1]
    simp only [if_true]
    rfl
  | exn c fs => obtain ⟨s, h⟩ := h rfl; rw [h]; rfl
  | stuck => trivial
/-- .. of a def whose errors nobody asks for -/
def D0 {α : Type} (m : M D) (o : M α) (v : α → D) : Prop := match o with
  | .ok c => m = .ok (v c)
  | _ => True
theorem fn_F0 {m n : Nat} {f : DS} {ds : List D} {o : M ρ} {e : ρ → D} (hl : ds.length = m) (h : RS false f (ds.map Slot.sh ++ List.replicate (n - ds.length) .no) o (Kfn e)) : D0 (runF m n f ds) o e := by
  unfold runF
  rw [if_pos hl]
  cases o with
  | ok c =>
    obtain ⟨fl, st', e1, hk⟩ := h
    rw [e1]
    rcases hk with rfl | ⟨rfl, hk⟩
    · rfl
    · show M.ok D.non = .ok (e c); rw [hk]
  | exn c fs => trivial
  | stuck => trivial
end
end DL
namespace DL
open PySem L2
def pApp {α : Type} (xs : List α) (y : α) : M (List α) := if xs.length < big then .ok (xs ++ [y]) else .stuck
def pPop {α : Type} (xs : List α) : M (α × List α) := match xs[xs.length - 1]? with
  | some y => .ok (y, xs.dropLast)
  | none => .stuck
def pSet {α : Type} (xs : List α) (k : Int) (v : α) : M (List α) := match ixN xs.length k with
  | some j => .ok (xs.set j v)
  | none => .stuck
def pSet2 {α : Type} (xss : List (List α)) (k l : Int) (v : α) : M (List (List α)) := (pAt xss k).bind fun r => (pSet r l v).bind fun r => pSet xss k r
def pPopAt {α : Type} (xs : List α) (k : Int) : M (α × List α) := match seqIndex? k xs.length with
  | some j => match xs[j]? with
    | some y => if k.natAbs ≤ big then .ok (y, xs.eraseIdx j) else .stuck
    | none => .stuck
  | none => .stuck
section
variable {α β γ : Type} {e : α → D} {st st1 : DSt} {i : Nat} {xs : List α} {f : Den D}
theorem x_appP {y : α} (h : st[i]? = some (.ow (xs.map e))) (hf : RV f st (e y) st1) (h1 : st1[i]? = some (.ow (xs.map e))) : RX (sExpr (dAppend i f)) st (pApp xs y) (fun ys => st1.set i (.ow (ys.map e))) := by
  unfold pApp
  by_cases hl : xs.length < big
  · rw [if_pos hl]
    show sExpr (dAppend i f) st = _
    simp only [sExpr, dAppend, bindD, dOw, h, mutD, liftO, setOw, retD]
    rw [show f st = _ from hf]
    simp only [h1, List.length_map, hl, if_true, List.map_append, List.map_cons, List.map_nil]
  · rw [if_neg hl]; trivial
theorem x_appG {o : M α} (h : st[i]? = some (.ow (xs.map e))) (hf : RE f st o e st1) (h1 : st1[i]? = some (.ow (xs.map e))) : RX (sExpr (dAppend i f)) st (o.bind fun y => pApp xs y) (fun ys => st1.set i (.ow (ys.map e))) := by
  cases o with
  | ok y => exact x_appP h hf h1
  | exn c fs => obtain ⟨s, hf⟩ := hf; exact ⟨s, by simp only [sExpr, dAppend, bindD, dOw, h]; rw [hf]⟩
  | stuck => trivial
theorem x_appPr {y : α} {k : Nat} (h : st[i]? = some (.rf k (xs.map e))) (hf : RV f st (e y) st1) (h1 : st1[i]? = some (.rf k (xs.map e))) : RX (sExpr (dAppend i f)) st (pApp xs y) (fun ys => st1.set i (.rf k (ys.map e))) := by
  unfold pApp
  by_cases hl : xs.length < big
  · rw [if_pos hl]
    show sExpr (dAppend i f) st = _
    simp only [sExpr, dAppend, bindD, dOw, h, mutD, liftO, setOw, retD]
    rw [show f st = _ from hf]
    simp only [h1, List.length_map, hl, if_true, List.map_append, List.map_cons, List.map_nil]
  · rw [if_neg hl]; trivial
theorem dropLast_map {β : Type} (f : α → β) : ∀ xs : List α, (xs.map f).dropLast = xs.dropLast.map f
  | [] => rfl
  | [x] => rfl
  | x :: y :: xs => by simp only [List.map_cons, List.dropLast_cons_cons]; rw [← dropLast_map f (y :: xs)]; rfl
/-- x = xs.pop() -/
theorem x_pop {t : Tg} {S : α × List α → DSt} (h : st[i]? = some (.ow (xs.map e))) (hS : ∀ p : α × List α, setT t (e p.1) (st.set i (.ow (p.2.map e))) = some (S p)) : RX (sAsg t (dPop i)) st (pPop xs) S := by
  unfold pPop
  cases hx : xs[xs.length - 1]? with
  | none => trivial
  | some y =>
    have h2 : (xs.map e)[(xs.map e).length - 1]? = some (e y) := by rw [List.length_map, List.getElem?_map, hx]; rfl
    show sAsg t (dPop i) st = _
    have := hS (y, xs.dropLast)
    simp only [sAsg, dPop, bindD, mutD, dOw, h, liftO, h2, setOw, retD, dropLast_map]
    simp only [this]
/-- xs[k] = v, behind value and index -/
def storeK (i : Nat) (v : D) (k : D) : DS := match k with
  | .int k => bindD (mutD i fun ds => match ixN ds.length k with | some j => some ((), ds.set j v) | none => none) fun _ => retD .nx
  | _ => fun _ => .stuck
theorem x_setK {k : Int} {v : α} (h : st[i]? = some (.ow (xs.map e))) : RX (storeK i (e v) (eI k)) st (pSet xs k v) (fun ys => st.set i (.ow (ys.map e))) := by
  unfold pSet
  cases hx : ixN xs.length k with
  | none => trivial
  | some j =>
    show storeK i (e v) (eI k) st = _
    simp only [storeK, bindD, mutD, dOw, h, liftO, List.length_map, hx, setOw, retD, List.map_set]
theorem x_setKr {k : Int} {v : α} {n : Nat} (h : st[i]? = some (.rf n (xs.map e))) : RX (storeK i (e v) (eI k)) st (pSet xs k v) (fun ys => st.set i (.rf n (ys.map e))) := by
  unfold pSet
  cases hx : ixN xs.length k with
  | none => trivial
  | some j =>
    show storeK i (e v) (eI k) st = _
    simp only [storeK, bindD, mutD, dOw, h, liftO, List.length_map, hx, setOw, retD, List.map_set]
/-- xs[k][l] = v -/
theorem pAt_j {xs : List α} {k : Int} {r : α} (h : pAt xs k = .ok r) : ∃ j, ixN xs.length k = some j ∧ xs[j]? = some r := by
  unfold pAt oM atI at h
  cases hx : ixN xs.length k with
  | none => rw [hx] at h; cases h
  | some j =>
    rw [hx, Option.bind_some] at h
    cases hy : xs[j]? with
    | none => rw [hy] at h; cases h
    | some y => rw [hy] at h; cases h; exact ⟨j, rfl, hy⟩
theorem x_set2 {xss : List (List α)} {e1 e2 f : Den D} {k l : Int} {v : α} (h : st[i]? = some (.o2 (xss.map (List.map e)))) (hf : RV f st (e v) st) (h1 : RV e1 st (eI k) st) (h2 : RV e2 (st.set i .no) (eI l) (st.set i .no)) :
    RX (sStore2 i e1 e2 f) st (pSet2 xss k l v) (fun ys => st.set i (.o2 (ys.map (List.map e)))) := by
  unfold pSet2
  cases hr : pAt xss k with
  | exn c fs => unfold pAt oM at hr; split at hr <;> cases hr
  | stuck => trivial
  | ok r =>
    obtain ⟨j, hj, hr⟩ := pAt_j hr
    simp only [bind_ok]
    unfold pSet
    cases hl : ixN r.length l with
    | none => trivial
    | some q =>
      simp only [bind_ok, hj]
      have hq := ixN_lt hl
      have hil : i < st.length := by
        rcases Nat.lt_or_ge i st.length with z | z
        · exact z
        · rw [List.getElem?_eq_none z] at h; cases h
      have a1 : rowAt (xss.map (List.map e)) (eI k) = some (j, r.map e) := by simp [rowAt, hj, hr]
      have a2 : rowAt (r.map e) (eI l) = some (q, e (r[q]'hq)) := by simp [rowAt, hl, hq]
      have a3 : (st.set i .no)[i]? = some .no := by rw [List.getElem?_set_self hil]
      show sStore2 i e1 e2 f st = _
      simp only [sStore2, bindD]
      rw [show f st = _ from hf]
      simp only [dO2, h]
      rw [show e1 st = _ from h1]
      simp only [h, liftO, a1, hideD, noX]
      rw [show e2 (st.set i .no) = _ from h2]
      simp only [a2, backO, a3, retD, List.set_set]
      congr 1
      simp [List.map_set]
end
/-- f gives a value, and what the list is then -/
def RT {α τ δ : Type} (f : Den δ) (st : DSt) (o : M (α × τ)) (v : α → δ) (S : τ → DSt) : Prop := match o with
  | .ok p => f st = .ok (v p.1) (S p.2)
  | _ => True
section
variable {α β τ δ ε : Type} {st st1 : DSt} {S : τ → DSt} {v : α → δ} {w : β → ε}
theorem rt_bindP {a : Den δ} {x : δ} {k : δ → Den ε} {o : M (β × τ)} (h1 : RV a st x st1) (h2 : RT (k x) st1 o w S) : RT (bindD a k) st o w S := by
  have e : bindD a k st = k x st1 := by unfold bindD; rw [h1]
  cases o with
  | ok c => show bindD a k st = _; rw [e]; exact h2
  | exn c fs => trivial
  | stuck => trivial
theorem rt_bindG {a : Den δ} {o : M α} {k : δ → Den ε} {o2 : α → M (β × τ)} (h1 : RE a st o v st1) (h2 : ∀ c, RT (k (v c)) st1 (o2 c) w S) : RT (bindD a k) st (o.bind o2) w S := by
  cases o with
  | ok c => exact rt_bindP (show RV a st (v c) st1 from h1) (h2 c)
  | exn c fs => trivial
  | stuck => trivial
theorem rt_bindS {a : Den δ} {o : M (α × τ)} {k : δ → Den ε} {o2 : α × τ → M (β × τ)} (h1 : RT a st o v S) (h2 : ∀ p, RT (k (v p.1)) (S p.2) (o2 p) w S) : RT (bindD a k) st (o.bind o2) w S := by
  cases o with
  | ok p => exact rt_bindP (show RV a st (v p.1) (S p.2) from h1) (h2 p)
  | exn c fs => trivial
  | stuck => trivial
theorem rt_assoc {ζ : Type} {a : Den δ} {g : δ → Den ε} {k : ε → Den ζ} {o : M (β × τ)} {w : β → ζ} (h : RT (bindD a fun x => bindD (g x) k) st o w S) : RT (bindD (bindD a g) k) st o w S := by
  have e : bindD (bindD a g) k st = bindD a (fun x => bindD (g x) k) st := by unfold bindD; cases a st <;> rfl
  cases o with
  | ok c => show _ = _; rw [e]; exact h
  | exn c fs => trivial
  | stuck => trivial
theorem rt_rv {f : Den δ} {c : α} {r : τ} (h : RV f st (v c) (S r)) : RT f st (.ok (c, r)) v S := h
theorem rt_re {f : Den δ} {o : M α} {r : τ} (h : RE f st o v (S r)) : RT f st (o.bind fun c => .ok (c, r)) v S := by
  cases o with
  | ok c => exact h
  | exn c fs => trivial
  | stuck => trivial
theorem rt_ite {a b : Den δ} {x : Bool} {o1 o2 : M (α × τ)} (h1 : x = true → RT a st o1 v S) (h2 : x = false → RT b st o2 v S) : RT (if x = true then a else b) st (if x = true then o1 else o2) v S := by
  cases x with
  | true => exact h1 rfl
  | false => exact h2 rfl
/-- a call, behind its arguments -/
def callK (df : List D → List D → M (D × List D)) (i : Nat) (ds : List D) : Den D := bindD (dOw i) fun ss => bindD (liftM' (df ss ds)) fun r => bindD (setOw i r.2) fun _ => retD r.1
theorem rt_callR {df : List D → List D → M (D × List D)} {i k : Nat} {ds : List D} {eτ : α → D} {xs : List α} {o : M (β × List α)} {w : β → D} {S : List α → DSt} (h : st[i]? = some (.rf k (xs.map eτ))) (hS : ∀ ys : List α, st.set i (.rf k (ys.map eτ)) = S ys) (hd : DR (df (xs.map eτ) ds) o w eτ) : RT (callK df i ds) st o w S := by
  cases o with
  | ok p =>
    have hd : df (xs.map eτ) ds = .ok (w p.1, p.2.map eτ) := hd
    show callK df i ds st = _
    simp only [callK, bindD, dOw, h, liftM', hd, setOw, retD, hS]
  | exn c fs => trivial
  | stuck => trivial
theorem rt_callO {df : List D → List D → M (D × List D)} {i : Nat} {ds : List D} {eτ : α → D} {xs : List α} {o : M (β × List α)} {w : β → D} {S : List α → DSt} (h : st[i]? = some (.ow (xs.map eτ))) (hS : ∀ ys : List α, st.set i (.ow (ys.map eτ)) = S ys) (hd : DR (df (xs.map eτ) ds) o w eτ) : RT (callK df i ds) st o w S := by
  cases o with
  | ok p =>
    have hd : df (xs.map eτ) ds = .ok (w p.1, p.2.map eτ) := hd
    show callK df i ds st = _
    simp only [callK, bindD, dOw, h, liftM', hd, setOw, retD, hS]
  | exn c fs => trivial
  | stuck => trivial
def mapS {α β τ : Type} (f : α → τ → M (β × τ)) : List α → τ → M (List β × τ)
  | [], r => .ok ([], r)
  | x :: xs, r => (f x r).bind fun p => (mapS f xs p.2).bind fun q => .ok (p.1 :: q.1, q.2)
def pMapS {α β τ : Type} (f : α → τ → M (β × τ)) (xs : List α) (r : τ) : M (List β × τ) := if xs.length ≤ big then mapS f xs r else .stuck
theorem compGo_S1 {vs : List Nat} {t : Tg} {elt : Den D} {e : α → D} {e2 : β → D} {f : α → τ → M (β × τ)} {S0 : τ → DSt} (S1 : α → τ → DSt) (hb : ∀ x r, setT t (e x) (S0 r) = some (S1 x r) ∧ RT elt (S1 x r) (f x r) e2 (S1 x) ∧ wipeD (S1 x r) vs = S0 r) :
    ∀ (xs : List α) (r : τ), match mapS f xs r with | .ok q => compGo vs t dYes elt (xs.map e) (S0 r) = .ok (q.1.map e2) (S0 q.2) | _ => True
  | [], r => rfl
  | x :: xs, r => by
    obtain ⟨h1, h2, h3⟩ := hb x r
    simp only [mapS]
    cases hf : f x r with
    | ok p =>
      rw [hf] at h2
      have h2 : elt (S1 x r) = .ok (e2 p.1) (S1 x p.2) := h2
      have ih := compGo_S1 S1 hb xs p.2
      have hy : dYes (S1 x r) = .ok true (S1 x r) := rfl
      have h4 := (hb x p.2).2.2
      simp only [bind_ok]
      cases hr : mapS f xs p.2 with
      | ok q =>
        rw [hr] at ih
        simp only [] at ih
        simp only [bind_ok, List.map_cons, compGo, h1, hy, h2, h4, ih]
      | exn c fs => trivial
      | stuck => trivial
    | exn c fs => trivial
    | stuck => trivial
theorem rt_comp {vs : List Nat} {t : Tg} {elt : Den D} {e : α → D} {e2 : β → D} {f : α → τ → M (β × τ)} {xs : List α} {r : τ} (S0 : τ → DSt) (S1 : α → τ → DSt) (hw : ∀ r, wipeD (S r) vs = S0 r) (hp : vs.all (plainAt (S r)) = true) (hbk : ∀ r', backD (S r) (S0 r') vs = S r')
    (hb : ∀ x r, setT t (e x) (S0 r) = some (S1 x r) ∧ RT elt (S1 x r) (f x r) e2 (S1 x) ∧ wipeD (S1 x r) vs = S0 r) : RT (compK vs t dYes elt (xs.map e)) (S r) (pMapS f xs r) (List.map e2) S := by
  unfold pMapS
  by_cases hl : xs.length ≤ big
  · rw [if_pos hl]
    have h := compGo_S1 (vs := vs) (t := t) (elt := elt) (e := e) (e2 := e2) (f := f) S1 hb xs r
    cases hr : mapS f xs r with
    | ok q =>
      rw [hr] at h
      simp only [] at h
      show compK vs t dYes elt (xs.map e) (S r) = _
      unfold compK
      rw [if_pos ⟨by rw [List.length_map]; exact hl, hp⟩, hw, h]
      simp only [hbk]
    | exn c fs => trivial
    | stuck => trivial
  · rw [if_neg hl]; trivial
/-- a statement with such an expression -/
theorem rs_bindS {γ : Type} {a : Den δ} {k : δ → DS} {b : DS} {o1 : M (α × τ)} {o2 : α × τ → M γ} {K : γ → Fl → DSt → Prop} (S : τ → DSt) (h1 : RT a st o1 v S) (h2 : ∀ p, RS false (sSeq (k (v p.1)) b) (S p.2) (o2 p) K) : RS false (sSeq (bindD a k) b) st (o1.bind o2) K := by
  cases o1 with
  | ok p => exact rs_bindP (show RV a st (v p.1) (S p.2) from h1) (h2 p)
  | exn c fs => intro z; cases z
  | stuck => trivial
end
end DL
namespace DL
open PySem L2
/-- a list still changed, or not any more -/
def fz (z : Bool) (ds : List D) : Slot := if z = true then .ow ds else .sh (.lst ds)
section
variable {α β γ δ ε σ ρ τ : Type} {st st1 st2 : DSt} {e : α → D}
theorem re_consP {a : Den D} {x : D} {r : Den (List D)} {K : List D → Den δ} {o : M α} {w : α → δ} (h1 : RV a st x st1) (h2 : RE (bindD r fun xs => K (x :: xs)) st1 o w st2) : RE (bindD (dCons a r) K) st o w st2 :=
  re_assoc (re_bindP h1 (re_assoc h2))
theorem re_consG {a : Den D} {r : Den (List D)} {K : List D → Den δ} {o : M α} {v : α → D} {o2 : α → M β} {w : β → δ} (h1 : RE a st o v st1) (h2 : ∀ c, RE (bindD r fun xs => K (v c :: xs)) st1 (o2 c) w st2) : RE (bindD (dCons a r) K) st (o.bind o2) w st2 :=
  re_assoc (re_bindG h1 fun c => re_assoc (h2 c))
theorem re_nil {K : List D → Den δ} {o : M α} {w : α → δ} (h : RE (K []) st o w st2) : RE (bindD dNil K) st o w st2 := re_bindP rv_ret h
theorem rv_cons {a : Den D} {x : D} {r : Den (List D)} {K : List D → Den δ} {y : δ} (h1 : RV a st x st1) (h2 : RV (bindD r fun xs => K (x :: xs)) st1 y st2) : RV (bindD (dCons a r) K) st y st2 :=
  rv_assoc (rv_bind h1 (rv_assoc h2))
theorem rv_nil {K : List D → Den δ} {y : δ} (h : RV (K []) st y st2) : RV (bindD dNil K) st y st2 := rv_bind rv_ret h
theorem rt_consP {S : τ → DSt} {a : Den D} {x : D} {r : Den (List D)} {K : List D → Den δ} {o : M (α × τ)} {w : α → δ} (h1 : RV a st x st1) (h2 : RT (bindD r fun xs => K (x :: xs)) st1 o w S) : RT (bindD (dCons a r) K) st o w S :=
  rt_assoc (rt_bindP h1 (rt_assoc h2))
theorem rt_consS {S : τ → DSt} {a : Den D} {r : Den (List D)} {K : List D → Den δ} {o : M (α × τ)} {v : α → D} {o2 : α × τ → M (β × τ)} {w : β → δ} (h1 : RT a st o v S) (h2 : ∀ p, RT (bindD r fun xs => K (v p.1 :: xs)) (S p.2) (o2 p) w S) : RT (bindD (dCons a r) K) st (o.bind o2) w S :=
  rt_assoc (rt_bindS h1 fun c => rt_assoc (h2 c))
theorem rt_nil {S : τ → DSt} {K : List D → Den δ} {o : M (α × τ)} {w : α → δ} (h : RT (K []) st o w S) : RT (bindD dNil K) st o w S := rt_bindP rv_ret h
theorem re_tail {a : Den δ} {k : δ → Den ε} {o : M α} {v : α → δ} {w : α → ε} (h1 : RE a st o v st1) (h2 : ∀ c, RV (k (v c)) st1 (w c) st2) : RE (bindD a k) st o w st2 := by
  cases o with
  | ok c => exact rv_bind (show RV a st (v c) st1 from h1) (h2 c)
  | exn c fs => obtain ⟨s, h⟩ := h1; exact ⟨s, by unfold bindD; rw [h]⟩
  | stuck => trivial
theorem rt_tail {S : τ → DSt} {a : Den δ} {k : δ → Den ε} {o : M (α × τ)} {v : α → δ} {w : α → ε} (h1 : RT a st o v S) (h2 : ∀ p : α × τ, RV (k (v p.1)) (S p.2) (w p.1) (S p.2)) : RT (bindD a k) st o w S := by
  cases o with
  | ok p => exact rv_bind (show RV a st (v p.1) (S p.2) from h1) (h2 p)
  | exn c fs => trivial
  | stuck => trivial
theorem rv_andE {b : Den D} {x y : Bool} (h : x = true → RV b st (eB y) st) : RV (if x = true then b else dC (.bl false)) st (eB (x && y)) st := by
  cases x with
  | true => exact h rfl
  | false => rfl
theorem rv_chain {op' : D → D → Option D} {p q : Bool} {o : Option D} {c : Den D} {y w : D} (h1 : o = some (eB p)) (hc : RV c st w st) (h2 : op' y w = some (eB q)) :
    RV (bindD (liftO o) fun z => bindD (liftO (asB z)) fun k => if k = true then bindD c fun w => liftO (op' y w) else retD (.bl false)) st (eB (p && q)) st := by
  subst h1
  cases p with
  | false => rfl
  | true =>
    show (bindD c fun w => liftO (op' y w)) st = _
    unfold bindD
    rw [show c st = _ from hc]
    simp only [liftO, h2]; rfl
theorem rs_iteN {X : Bool} {K : γ → Fl → DSt → Prop} {x : Bool} {f g : DS} {o1 o2 : M γ} (h1 : x = true → RS X f st o1 K) (h2 : x = false → RS X g st o2 K) : RS X (if x = true then f else g) st (if x = true then o1 else o2) K := by
  cases x with
  | true => exact h1 rfl
  | false => exact h2 rfl
theorem rs_st {X : Bool} {K : γ → Fl → DSt → Prop} {f : DS} {o : M γ} (st2 : DSt) (e : st = st2) (h : RS X f st2 o K) : RS X f st o K := by subst e; exact h
def pEq (x y : D) : M Bool := oM (eqD x y)
def pNe (x y : D) : M Bool := match eqD x y with | some b => .ok (!b) | none => .stuck
def pNX {α : Type} : M α → M α
  | .ok a => .ok a
  | _ => .stuck
@[simp] theorem pNX_ok {α : Type} (a : α) : pNX (.ok a) = .ok a := rfl
theorem op_eqD {x y : D} : OP (opEq x y) (pEq x y) eB := by unfold pEq opEq; cases eqD x y <;> simp [OP, oM]
theorem op_neD {x y : D} : OP (opNe x y) (pNe x y) eB := by unfold pNe opNe; cases eqD x y <;> simp [OP]
theorem op_slScr {ns : List Int} {lo hi : Option Int} : opSl (.scr ns) lo hi = some (eL eI (cutD ns lo hi)) := by simp only [opSl, eL, ← cutD_map]
def DO {α : Type} (m : Option (List D)) (o : M (List α)) (e : α → D) : Prop := match o with
  | .ok xs => m = some (xs.map e)
  | _ => True
/-- statements, then a new list -/
def RO {α : Type} (a : DS) (r : Den (List D)) (st : DSt) (o : M α) (w : α → List D) : Prop := RS false a st o (fun c fl st' => fl = .nx ∧ ∃ s, r st' = .ok (w c) s)
theorem fn_O {m n : Nat} {a : DS} {r : Den (List D)} {ds : List D} {o : M (List α)} (hl : ds.length = m) (h : RO a r (ds.map Slot.sh ++ List.replicate (n - ds.length) .no) o (List.map e)) : DO (runO m n a r ds) o e := by
  unfold runO
  rw [if_pos hl]
  cases o with
  | ok c =>
    obtain ⟨fl, st', e1, rfl, s, e2⟩ := h
    rw [e1]
    simp only [e2]
    rfl
  | exn c fs => trivial
  | stuck => trivial
theorem rs_endO {r : Den (List D)} {o : M α} {w : α → List D} (h : RE r st o w st2) : RS false sPass st o (fun c fl st' => fl = .nx ∧ ∃ s, r st' = .ok (w c) s) := by
  cases o with
  | ok c => exact ⟨_, _, rfl, rfl, _, h⟩
  | exn c fs => intro z; cases z
  | stuck => trivial
theorem re_liftO {x : Option (List D)} {o : M (List α)} (h : DO x o e) : RE (liftO x) st (pNX o) (List.map e) st := by
  cases o with
  | ok c => show liftO x st = _; rw [show x = _ from h]; rfl
  | exn c fs => trivial
  | stuck => trivial
theorem x_set2G {i : Nat} {xss : List (List α)} {e1 e2 f : Den D} {ov : M α} {ok ol : M Int} (h : st[i]? = some (.o2 (xss.map (List.map e)))) (hf : RE f st ov e st) (h1 : RE e1 st ok eI st) (h2 : RE e2 (st.set i .no) ol eI (st.set i .no)) :
    RX (sStore2 i e1 e2 f) st (pNX (ov.bind fun v => ok.bind fun k => ol.bind fun l => pSet2 xss k l v)) (fun ys => st.set i (.o2 (ys.map (List.map e)))) := by
  cases ov with
  | ok v => cases ok with
    | ok k => cases ol with
      | ok l =>
        have := x_set2 (e := e) (k := k) (l := l) (v := v) h hf h1 h2
        simp only [bind_ok]
        cases hp : pSet2 xss k l v with
        | ok c => rw [hp] at this; exact this
        | exn c fs => trivial
        | stuck => trivial
      | exn c fs => trivial
      | stuck => trivial
    | exn c fs => trivial
    | stuck => trivial
  | exn c fs => trivial
  | stuck => trivial
/-- xs.append(f), f changes another list -/
theorem rs_appS {K : γ → Fl → DSt → Prop} {i : Nat} {xs : List α} {f : Den D} {o : M (α × τ)} {o2 : α × τ → List α → M γ} {b : DS} (S : τ → DSt) (h : st[i]? = some (.ow (xs.map e))) (hf : RT f st o e S) (h1 : ∀ r, (S r)[i]? = some (.ow (xs.map e)))
    (hk : ∀ p ys, RS false b ((S p.2).set i (.ow (ys.map e))) (o2 p ys) K) : RS false (sSeq (sExpr (dAppend i f)) b) st (o.bind fun p => (pApp xs p.1).bind fun ys => o2 p ys) K := by
  cases o with
  | ok p =>
    have hx := x_appP (e := e) (xs := xs) (y := p.1) (f := fun _ => f st) (st := S p.2) (st1 := S p.2) (i := i) (h1 p.2) (show f st = _ from hf) (h1 p.2)
    have e1 : sExpr (dAppend i f) st = sExpr (dAppend i fun _ => f st) (S p.2) := by
      simp only [sExpr, dAppend, bindD, dOw, h, h1]
    have := rs_x (X := false) (b := b) (K := K) hx (fun ys => hk p ys)
    exact rs_of_eq (by unfold sSeq; rw [e1]) this
  | exn c fs => intro z; cases z
  | stuck => trivial
theorem erase_map {β : Type} (f : α → β) : ∀ (xs : List α) (q : Nat), (xs.map f).eraseIdx q = (xs.eraseIdx q).map f
  | [], _ => rfl
  | x :: xs, 0 => rfl
  | x :: xs, q + 1 => by
    show f x :: (xs.map f).eraseIdx q = f x :: (xs.eraseIdx q).map f
    rw [erase_map f xs q]
/-- xs.append(ys.pop(f)), f changes another list -/
theorem rs_appPop {K : γ → Fl → DSt → Prop} {i j : Nat} {xs ys : List α} {f : Den D} {o : M (Int × τ)} {o2 : Int × τ → α × List α → List α → M γ} {b : DS} (S : τ → DSt) (h : st[i]? = some (.ow (ys.map e))) (hj : st[j]? = some (.ow (xs.map e))) (hf : RT f st o eI S) (h1 : ∀ r, (S r)[i]? = some (.ow (ys.map e))) (h2 : ∀ r, (S r)[j]? = some (.ow (xs.map e))) (hn : i ≠ j)
    (hk : ∀ p q zs, RS false b (((S p.2).set j (.ow (q.2.map e))).set i (.ow (zs.map e))) (o2 p q zs) K) : RS false (sSeq (sExpr (dAppend i (dPopAt j f))) b) st (o.bind fun p => (pPopAt xs p.1).bind fun q => (pApp ys q.1).bind fun zs => o2 p q zs) K := by
  cases o with
  | ok p =>
    have hf : f st = .ok (eI p.1) (S p.2) := hf
    simp only [bind_ok]
    unfold pPopAt
    cases hs : seqIndex? p.1 xs.length with
    | none => trivial
    | some q =>
      simp only []
      cases hq : xs[q]? with
      | none => trivial
      | some y =>
        simp only []
        by_cases hb : p.1.natAbs ≤ big
        · rw [if_pos hb]
          simp only [bind_ok]
          have h3 : ((S p.2).set j (.ow ((xs.eraseIdx q).map e)))[i]? = some (.ow (ys.map e)) := by rw [List.getElem?_set_ne (Ne.symm hn)]; exact h1 p.2
          have hx := x_appP (e := e) (xs := ys) (y := y) (f := fun st => .ok (e y) st) (st := (S p.2).set j (.ow ((xs.eraseIdx q).map e))) (i := i) h3 rfl h3
          have ee : (xs.map e).eraseIdx q = (xs.eraseIdx q).map e := by
            clear hs hq hj h2
            exact erase_map e xs q
          have e1 : sExpr (dAppend i (dPopAt j f)) st = sExpr (dAppend i fun st => .ok (e y) st) ((S p.2).set j (.ow ((xs.eraseIdx q).map e))) := by
            simp only [sExpr, dAppend, dPopAt, bindD, dOw, h, hj, hf, eI, mutD, h2, liftO, popAt, List.length_map, hs, List.getElem?_map, hq, Option.map_some, hb, if_true, setOw, retD, ee, h3]
          have := rs_x (X := false) (b := b) (K := K) hx (fun zs => hk p (y, xs.eraseIdx q) zs)
          exact rs_of_eq (by unfold sSeq; rw [e1]) this
        · rw [if_neg hb]; trivial
  | exn c fs => intro z; cases z
  | stuck => trivial
end
section
variable {α β : Type} {vs : List Nat} {t : Tg} {elt : Den (List D)} {e : α → D} {e2 : β → D} {st st0 : DSt}
def compK2 (vs : List Nat) (t : Tg) (elt : Den (List D)) (ds : List D) : Den (List (List D)) := fun st =>
  if ds.length ≤ big ∧ vs.all (plainAt st) = true then
    match compGo2 vs t elt ds (wipeD st vs) with
    | .ok ys st' => .ok ys (backD st st' vs)
    | _ => .stuck
  else .stuck
theorem compGo2_typed {f : α → M (List β)} (hb : ∀ x, ∃ st1 st3, setT t (e x) st0 = some st1 ∧ RE elt st1 (f x) (List.map e2) st3 ∧ wipeD st3 vs = st0) :
    ∀ xs : List α, match mapGo f xs with | .ok ys => compGo2 vs t elt (xs.map e) st0 = .ok (ys.map (List.map e2)) st0 | _ => True
  | [] => rfl
  | x :: xs => by
    obtain ⟨st1, st3, h1, h2, h3⟩ := hb x
    have ih := compGo2_typed hb xs
    simp only [mapGo]
    cases hf : f x with
    | ok y =>
      rw [hf] at h2
      cases hr : mapGo f xs with
      | ok ys =>
        rw [hr] at ih
        simp only [] at ih ⊢
        simp only [List.map_cons, compGo2, h1]
        rw [show elt st1 = _ from h2]
        simp only [h3, ih]
      | exn c fs => trivial
      | stuck => trivial
    | exn c fs => trivial
    | stuck => trivial
theorem re_comp2 {xs : List α} {f : α → M (List β)} (st0 : DSt) (hw : wipeD st vs = st0) (hp : vs.all (plainAt st) = true) (hbk : backD st st0 vs = st)
    (hb : ∀ x, ∃ st1 st3, setT t (e x) st0 = some st1 ∧ RE elt st1 (f x) (List.map e2) st3 ∧ wipeD st1 vs = st0 ∧ wipeD st3 vs = st0) : RE (compK2 vs t elt (xs.map e)) st (pMap f xs) (List.map (List.map e2)) st := by
  unfold pMap
  by_cases hl : xs.length ≤ big
  · rw [if_pos hl]
    have h := compGo2_typed (vs := vs) (t := t) (elt := elt) (e := e) (e2 := e2) (f := f) (st0 := st0) (fun x => by
      obtain ⟨st1, st3, h1, h2, h3, h4⟩ := hb x
      exact ⟨st1, st3, h1, h2, h4⟩) xs
    cases hr : mapGo f xs with
    | ok ys =>
      rw [hr] at h
      simp only [] at h
      show compK2 vs t elt (xs.map e) st = _
      unfold compK2
      rw [if_pos ⟨by rw [List.length_map]; exact hl, hp⟩, hw, h]
      simp only [hbk]
    | exn c fs => rw [mapGo_fil] at hr; exact absurd hr (filGo_exn xs)
    | stuck => trivial
  · rw [if_neg hl]; trivial
end
end DL
namespace DL
open PySem L2
def ix {α : Type} [Inhabited α] (xs : List α) (i : Int) : α := xs.getD i.toNat default
section
variable {α β σ ρ : Type}
theorem pAt_ok [Inhabited α] {xs : List α} {i : Int} (h0 : 0 ≤ i) (h1 : i < xs.length) : pAt xs i = .ok (ix xs i) := by
  obtain ⟨k, rfl⟩ := Int.eq_ofNat_of_zero_le h0
  have hk : k < xs.length := by omega
  unfold pAt ix
  rw [atI_nat, List.getElem?_eq_getElem hk, List.getD_eq_getElem?_getD]
  simp [hk]
theorem ix_mem [Inhabited α] {xs : List α} {i : Int} (h0 : 0 ≤ i) (h1 : i < xs.length) : ix xs i ∈ xs := by
  unfold ix
  have hk : i.toNat < xs.length := by omega
  rw [List.getD_eq_getElem?_getD, List.getElem?_eq_getElem hk]
  simp
theorem mem_ix [Inhabited α] {xs : List α} {x : α} (h : x ∈ xs) : ∃ i : Int, 0 ≤ i ∧ i < xs.length ∧ ix xs i = x := by
  obtain ⟨k, hk, rfl⟩ := List.getElem_of_mem h
  refine ⟨(k : Int), by omega, by omega, ?_⟩
  simp [ix, hk]
theorem ix_ext [Inhabited α] {xs ys : List α} (hl : xs.length = ys.length) (h : ∀ i : Int, 0 ≤ i → i < xs.length → ix xs i = ix ys i) : xs = ys := by
  apply List.ext_getElem hl
  intro k h1 h2
  have := h k (by omega) (by omega)
  simpa [ix, h1, h2] using this
theorem ix_app1 [Inhabited α] {xs ys : List α} {i : Int} (h0 : 0 ≤ i) (h : i < xs.length) : ix (xs ++ ys) i = ix xs i := by
  unfold ix
  have hk : i.toNat < xs.length := by omega
  rw [List.getD_eq_getElem?_getD, List.getD_eq_getElem?_getD, List.getElem?_append_left hk]
theorem ix_app2 [Inhabited α] {xs ys : List α} {i : Int} (h : (xs.length : Int) ≤ i) : ix (xs ++ ys) i = ix ys (i - xs.length) := by
  unfold ix
  have hk : xs.length ≤ i.toNat := by omega
  rw [List.getD_eq_getElem?_getD, List.getD_eq_getElem?_getD, List.getElem?_append_right hk]
  congr 2; omega
@[simp] theorem ix_cons0 [Inhabited α] {x : α} {xs : List α} : ix (x :: xs) 0 = x := rfl
theorem ix_cons [Inhabited α] {x : α} {xs : List α} {i : Int} (h : 0 < i) : ix (x :: xs) i = ix xs (i - 1) := by
  unfold ix
  obtain ⟨k, hk⟩ : ∃ k : Nat, i = k + 1 := ⟨(i - 1).toNat, by omega⟩
  subst hk
  have : ((k : Int) + 1).toNat = k + 1 := by omega
  rw [this]
  simp
theorem ix_map [Inhabited α] [Inhabited β] {f : α → β} {xs : List α} {i : Int} (h0 : 0 ≤ i) (h : i < xs.length) : ix (xs.map f) i = f (ix xs i) := by
  unfold ix
  have hk : i.toNat < xs.length := by omega
  simp [hk]
@[simp] theorem mem_rng {n x : Int} : x ∈ rng n ↔ 0 ≤ x ∧ x < n := by
  unfold rng
  rw [List.mem_map]
  constructor
  · rintro ⟨k, hk, rfl⟩
    rw [List.mem_range] at hk
    omega
  · intro ⟨h0, h1⟩
    exact ⟨x.toNat, by rw [List.mem_range]; omega, by omega⟩
@[simp] theorem len_rng {n : Int} : (rng n).length = n.toNat := by simp [rng]
@[simp] theorem len_rng2 {m n : Int} : (rng2 m n).length = (n - m).toNat := by simp [rng2]
theorem rng_nodup {n : Int} : (rng n).Nodup := by
  unfold rng
  exact List.nodup_range.map _ (fun a b h => by omega) |> id
theorem ix_rng {n i : Int} (h0 : 0 ≤ i) (h : i < n) : ix (rng n) i = i := by
  unfold ix rng
  have hk : i.toNat < n.toNat := by omega
  simp [hk]; omega
theorem ix_map_rng [Inhabited β] {f : Int → β} {n i : Int} (h0 : 0 ≤ i) (h : i < n) : ix ((rng n).map f) i = f i := by
  rw [ix_map h0 (by rw [len_rng]; omega), ix_rng h0 h]
theorem list_rng [Inhabited α] {xs : List α} {n : Int} (h : (xs.length : Int) = n) : xs = (rng n).map (ix xs) := by
  apply ix_ext
  · simp; omega
  · intro i h0 h1
    rw [ix_map_rng h0 (by omega)]
theorem rng_succ {n : Int} (h : 0 ≤ n) : rng (n + 1) = rng n ++ [n] := by
  unfold rng
  have : (n + 1).toNat = n.toNat + 1 := by omega
  rw [this, List.range_succ, List.map_append]
  simp; omega
@[simp] theorem rng_zero : rng 0 = [] := rfl
theorem pRng_ok {n : Int} (h0 : 0 ≤ n) (h : n ≤ 16777216) : pRng n = .ok (rng n) := by
  unfold pRng
  rw [if_pos (by have : big = 16777216 := rfl; omega)]
theorem pApp_ok {xs : List α} {y : α} (h : xs.length < 16777216) : pApp xs y = .ok (xs ++ [y]) := by
  unfold pApp
  rw [if_pos (by have : big = 16777216 := rfl; omega)]
theorem pCat_ok {xs ys : List α} (h : xs.length + ys.length ≤ 16777216) : pCat xs ys = .ok (xs ++ ys) := by
  unfold pCat
  rw [if_pos (by have : big = 16777216 := rfl; omega)]
theorem pMul_ok {a b : Int} (h : a.natAbs < 18446744073709551616) : pMul a b = .ok (a * b) := by
  unfold pMul smallI
  simp [h]
theorem pMul_ok2 {a b : Int} (h : b.natAbs < 18446744073709551616) : pMul a b = .ok (a * b) := by
  unfold pMul smallI
  simp [h]
theorem pDiv_ok {a b : Int} (h : 0 < b) (h2 : b < 1073741824) : pDiv a b = .ok (a / b) := by
  unfold pDiv
  rw [if_pos (by omega), Int.fdiv_eq_ediv_of_nonneg _ (by omega)]
theorem pMod_ok {a b : Int} (h : 0 < b) : pMod a b = .ok (a % b) := by
  unfold pMod
  rw [if_pos (by omega), Int.fmod_eq_emod_of_nonneg _ (by omega)]
theorem pSet_ok {xs : List α} {k : Int} {v : α} (h0 : 0 ≤ k) (h : k < xs.length) : pSet xs k v = .ok (xs.set k.toNat v) := by
  obtain ⟨j, rfl⟩ := Int.eq_ofNat_of_zero_le h0
  unfold pSet
  rw [ixN_nat, if_pos (by omega)]
  simp
/-- the first place -/
def idx [DecidableEq α] (xs : List α) (x : α) : Int := (xs.idxOf x : Int)
theorem pIndex_ok [DecidableEq α] {xs : List α} {x : α} (h : x ∈ xs) : pIndex xs x = .ok (idx xs x) := by unfold pIndex idx; rw [if_pos h]
theorem ix_set [Inhabited α] {xs : List α} {k i : Int} {v : α} (h0 : 0 ≤ k) (h : k < xs.length) (h2 : 0 ≤ i) : ix (xs.set k.toNat v) i = if i = k then v else ix xs i := by
  unfold ix
  have hk : k.toNat < xs.length := by omega
  by_cases e : i = k
  · subst e; simp [hk]
  · rw [if_neg e, List.getD_eq_getElem?_getD, List.getElem?_set_ne (by omega), ← List.getD_eq_getElem?_getD]
theorem ix_idx [DecidableEq α] [Inhabited α] {xs : List α} {x : α} (h : x ∈ xs) : ix xs (idx xs x) = x := by
  have := List.idxOf_lt_length_of_mem h
  unfold ix idx
  simp [this]
theorem idx_lt [DecidableEq α] {xs : List α} {x : α} (h : x ∈ xs) : 0 ≤ idx xs x ∧ idx xs x < xs.length := by
  have := List.idxOf_lt_length_of_mem h
  unfold idx
  omega
theorem map_rng [Inhabited α] (f : α → β) (xs : List α) : xs.map f = (rng xs.length).map fun i => f (ix xs i) := by
  have h := list_rng (xs := xs) rfl
  conv => lhs; rw [h]
  rw [List.map_map]; rfl
theorem sIx_nn {n d : Nat} {k : Int} (h : 0 ≤ k) : HT.sIx n d (some k) = min k.toNat n := by
  unfold HT.sIx
  simp only
  split <;> omega
theorem cutD_to {xs : List α} {k : Int} (h : 0 ≤ k) : cutD xs none (some k) = xs.take k.toNat := by
  unfold cutD
  rw [sIx_nn h]
  show List.take _ (List.drop 0 xs) = _
  rw [List.drop_zero, show HT.sIx xs.length 0 none = 0 from rfl, Nat.sub_zero]
  rcases Nat.le_total k.toNat xs.length with q | q
  · rw [Nat.min_eq_left q]
  · rw [Nat.min_eq_right q, List.take_of_length_le q, List.take_of_length_le (Nat.le_refl _)]
theorem ix_take [Inhabited α] {xs : List α} {k i : Int} (h0 : 0 ≤ i) (h : i < k) : ix (xs.take k.toNat) i = ix xs i := by
  unfold ix
  rw [List.getD_eq_getElem?_getD, List.getElem?_take_of_lt (by omega), ← List.getD_eq_getElem?_getD]
theorem pfold_inv {F : α → σ → M σ} (I : List α → σ → Prop) : ∀ (xs pre : List α) (a : σ), I pre a → (∀ p x q a, pre ++ xs = p ++ x :: q → I p a → ∃ b, F x a = .ok b ∧ I (p ++ [x]) b) → ∃ b, pfold F xs a = .ok b ∧ I (pre ++ xs) b
  | [], pre, a, h, _ => ⟨a, rfl, by simpa using h⟩
  | x :: xs, pre, a, h, hs => by
    obtain ⟨b, h1, h2⟩ := hs pre x xs a rfl h
    obtain ⟨c, h3, h4⟩ := pfold_inv I xs (pre ++ [x]) b h2 (fun p y q a e => hs p y q a (by rw [← e]; simp))
    exact ⟨c, by simp only [pfold, h1, bind_ok, h3], by simpa using h4⟩
theorem pfold_const {F : α → σ → M σ} {a : σ} : ∀ {xs : List α}, (∀ x ∈ xs, F x a = .ok a) → pfold F xs a = .ok a
  | [], _ => rfl
  | x :: xs, h => by
    simp only [pfold, h x List.mem_cons_self, bind_ok]
    exact pfold_const fun y hy => h y (List.mem_cons_of_mem _ hy)
/-- a loop that appends -/
theorem pfold_app {F : α → List β → M (List β)} (g : α → β) : ∀ (xs : List α) (a : List β), a.length + xs.length ≤ 16777216 → (∀ x ∈ xs, ∀ a : List β, a.length < 16777216 → F x a = .ok (a ++ [g x])) → pfold F xs a = .ok (a ++ xs.map g)
  | [], a, _, _ => by simp [pfold]
  | x :: xs, a, hl, h => by
    simp only [List.length_cons] at hl
    simp only [pfold, h x List.mem_cons_self a (by omega), bind_ok]
    rw [pfold_app g xs (a ++ [g x]) (by simp; omega) fun y hy => h y (List.mem_cons_of_mem _ hy)]
    simp
theorem rng_split {n x : Int} {p q : List Int} (e : rng n = p ++ x :: q) : p = rng x ∧ 0 ≤ x ∧ x < n := by
  have hx : x ∈ rng n := by rw [e]; simp
  have hx := mem_rng.mp hx
  have hlen : (p.length : Int) = x := by
    have h1 : ix (rng n) (p.length : Int) = x := by
      rw [e, ix_app2 (Int.le_refl _)]; simp
    have hl : p.length < (rng n).length := by rw [e]; simp
    rw [len_rng] at hl
    rwa [ix_rng (by omega) (by omega)] at h1
  refine ⟨?_, hx⟩
  have h2 : p = (rng n).take p.length := by rw [e]; simp
  rw [h2]
  apply ix_ext
  · simp; omega
  · intro i h0 h1
    simp at h1
    rw [ix_rng h0 (by omega)]
    unfold ix
    rw [List.getD_eq_getElem?_getD, List.getElem?_take_of_lt (by omega), ← List.getD_eq_getElem?_getD]
    exact ix_rng (n := n) h0 (by omega)
theorem pfold_rng {F : Int → σ → M σ} (I : Int → σ → Prop) {n : Int} {a : σ} (hn : 0 ≤ n) (h0 : I 0 a) (hs : ∀ k a, 0 ≤ k → k < n → I k a → ∃ b, F k a = .ok b ∧ I (k + 1) b) : ∃ b, pfold F (rng n) a = .ok b ∧ I n b := by
  obtain ⟨b, h1, h2⟩ := pfold_inv (F := F) (fun p a => I p.length a) (rng n) [] a (by simpa using h0) (fun p x q a e hi => by
    simp only [List.nil_append] at e
    obtain ⟨rfl, h1, h2⟩ := rng_split e
    obtain ⟨b, h3, h4⟩ := hs x a h1 h2 (by rw [len_rng] at hi; rwa [Int.toNat_of_nonneg h1] at hi)
    refine ⟨b, h3, ?_⟩
    rw [List.length_append, len_rng]
    simpa [Int.toNat_of_nonneg h1] using h4)
  refine ⟨b, h1, ?_⟩
  simpa [Int.toNat_of_nonneg hn] using h2
theorem pfor_test {F : α → σ → M (DL.F σ ρ)} {a : σ} {p : α → Bool} {r : ρ} : ∀ {xs : List α}, (∀ x ∈ xs, F x a = .ok (if p x = true then .nx a else .ret r)) → pfor F xs a = .ok (if xs.all p = true then .inl a else .inr r)
  | [], _ => rfl
  | x :: xs, h => by
    have h1 := h x List.mem_cons_self
    by_cases hp : p x = true
    · rw [if_pos hp] at h1
      simp only [pfor, h1, bind_ok]
      rw [pfor_test (p := p) (r := r) fun y hy => h y (List.mem_cons_of_mem _ hy)]
      simp [hp]
    · rw [if_neg hp] at h1
      simp only [pfor, h1, bind_ok]
      simp [hp]
end
def mul (T : List (List Int)) (x y : Int) : Int := ix (ix T x) y
def tab (n : Int) (f : Int → Int → Int) : List (List Int) := (rng n).map fun x => (rng n).map fun y => f x y
structure VT (n : Int) (T : List (List Int)) : Prop where
  len : (T.length : Int) = n
  row : ∀ r ∈ T, (r.length : Int) = n
  ent : ∀ r ∈ T, ∀ x ∈ r, 0 ≤ x ∧ x < n
def Asc (n : Int) (f : Int → Int → Int) : Prop := ∀ x y z, 0 ≤ x → x < n → 0 ≤ y → y < n → 0 ≤ z → z < n → f (f x y) z = f x (f y z)
section
variable {n : Int} {T : List (List Int)} {f : Int → Int → Int} {x y : Int}
theorem VT.n0 (V : VT n T) : 0 ≤ n := by have := V.len; omega
theorem VT.rowAt (V : VT n T) (h0 : 0 ≤ x) (h1 : x < n) : ix T x ∈ T := ix_mem h0 (by rw [V.len]; exact h1)
theorem VT.rlen (V : VT n T) (h0 : 0 ≤ x) (h1 : x < n) : ((ix T x).length : Int) = n := V.row _ (V.rowAt h0 h1)
theorem VT.lt (V : VT n T) (h0 : 0 ≤ x) (h1 : x < n) (h2 : 0 ≤ y) (h3 : y < n) : 0 ≤ mul T x y ∧ mul T x y < n := V.ent _ (V.rowAt h0 h1) _ (ix_mem h2 (by rw [V.rlen h0 h1]; exact h3))
theorem VT.at1 (V : VT n T) (h0 : 0 ≤ x) (h1 : x < n) : pAt T x = .ok (ix T x) := pAt_ok h0 (by rw [V.len]; exact h1)
theorem VT.at2 (V : VT n T) (h0 : 0 ≤ x) (h1 : x < n) (h2 : 0 ≤ y) (h3 : y < n) : pAt (ix T x) y = .ok (mul T x y) := pAt_ok h2 (by rw [V.rlen h0 h1]; exact h3)
theorem mul_tab (h0 : 0 ≤ x) (h1 : x < n) (h2 : 0 ≤ y) (h3 : y < n) : mul (tab n f) x y = f x y := by
  unfold mul tab
  rw [ix_map_rng h0 h1, ix_map_rng h2 h3]
theorem VT_tab (hn : 0 ≤ n) (h : ∀ x y, 0 ≤ x → x < n → 0 ≤ y → y < n → 0 ≤ f x y ∧ f x y < n) : VT n (tab n f) := by
  refine ⟨by simp [tab]; omega, fun r hr => ?_, fun r hr y hy => ?_⟩
  · obtain ⟨x, _, rfl⟩ := List.mem_map.mp hr
    simp; omega
  · obtain ⟨x, hx, rfl⟩ := List.mem_map.mp hr
    obtain ⟨y', hy2, rfl⟩ := List.mem_map.mp hy
    rw [mem_rng] at hx hy2
    exact h x y' hx.1 hx.2 hy2.1 hy2.2
theorem row_rng (V : VT n T) (h0 : 0 ≤ x) (h1 : x < n) : ix T x = (rng n).map (mul T x) := list_rng (V.rlen h0 h1)
theorem Asc_tab (h : Asc n f) (hc : ∀ x y, 0 ≤ x → x < n → 0 ≤ y → y < n → 0 ≤ f x y ∧ f x y < n) : Asc n (mul (tab n f)) := by
  intro x y z hx hx' hy hy' hz hz'
  have h1 := hc x y hx hx' hy hy'
  have h2 := hc y z hy hy' hz hz'
  rw [mul_tab hx hx' hy hy', mul_tab hy hy' hz hz', mul_tab h1.1 h1.2 hz hz', mul_tab hx hx' h2.1 h2.2]
  exact h x y z hx hx' hy hy' hz hz'
end
/-- a table made by two blocks, one in the other -/
theorem pMap_tab {n : Int} {F : Int → Int → M Int} {f : Int → Int → Int} (h0 : 0 ≤ n) (hn : n ≤ 16777216) (h : ∀ x y, 0 ≤ x → x < n → 0 ≤ y → y < n → F x y = .ok (f x y)) : pMap (fun x => pMap (F x) (rng n)) (rng n) = .ok (tab n f) := by
  refine pMap_ok (fun x => (rng n).map (f x)) (by rw [len_rng]; have : big = 16777216 := rfl; omega) fun x hx => ?_
  rw [mem_rng] at hx
  refine pMap_ok (f x) (by rw [len_rng]; have : big = 16777216 := rfl; omega) fun y hy => ?_
  rw [mem_rng] at hy
  exact h x y hx.1 hx.2 hy.1 hy.2
def Ok {α : Type} (o : M α) (Q : α → Prop) : Prop := ∃ a, o = .ok a ∧ Q a
section
variable {α β σ ρ : Type}
theorem Ok.of {o : M α} {a : α} {Q : α → Prop} (e : o = .ok a) (q : Q a) : Ok o Q := ⟨a, e, q⟩
theorem Ok.pure {a : α} {Q : α → Prop} (q : Q a) : Ok (.ok a) Q := ⟨a, rfl, q⟩
theorem Ok.bind {o : M α} {k : α → M β} {P : α → Prop} {Q : β → Prop} (h : Ok o P) (hk : ∀ a, P a → Ok (k a) Q) : Ok (o.bind k) Q := by
  obtain ⟨a, rfl, p⟩ := h
  exact hk a p
theorem Ok.imp {o : M α} {P Q : α → Prop} (h : Ok o P) (i : ∀ a, P a → Q a) : Ok o Q := let ⟨a, e, p⟩ := h; ⟨a, e, i a p⟩
theorem Ok.ite {x : Bool} {o1 o2 : M α} {Q : α → Prop} (h1 : x = true → Ok o1 Q) (h2 : x = false → Ok o2 Q) : Ok (if x = true then o1 else o2) Q := by
  cases x with
  | true => exact h1 rfl
  | false => exact h2 rfl
theorem Ok.eq {o : M α} {a : α} (h : Ok o (fun b => b = a)) : o = .ok a := by obtain ⟨b, e, rfl⟩ := h; exact e
theorem Ok.mk {o : M α} {a : α} (h : o = .ok a) : Ok o (fun b => b = a) := ⟨a, h, rfl⟩
theorem Ok.nx {o : M α} {Q : α → Prop} (h : Ok o Q) : Ok (pNX o) Q := by obtain ⟨a, rfl, q⟩ := h; exact ⟨a, rfl, q⟩
theorem Ok.fold {F : α → σ → M σ} {xs : List α} {a : σ} {Q : σ → Prop} (I : List α → σ → Prop) (h0 : I [] a) (hs : ∀ p x q a, xs = p ++ x :: q → I p a → Ok (F x a) (I (p ++ [x]))) (hq : ∀ b, I xs b → Q b) : Ok (pfold F xs a) Q := by
  obtain ⟨b, e, h⟩ := pfold_inv I xs [] a h0 hs
  exact ⟨b, e, hq b h⟩
theorem Ok.fold_rng {F : Int → σ → M σ} {n : Int} {a : σ} {Q : σ → Prop} (I : Int → σ → Prop) (hn : 0 ≤ n) (h0 : I 0 a) (hs : ∀ k a, 0 ≤ k → k < n → I k a → Ok (F k a) (I (k + 1))) (hq : ∀ b, I n b → Q b) : Ok (pfold F (rng n) a) Q := by
  obtain ⟨b, e, h⟩ := pfold_rng I hn h0 hs
  exact ⟨b, e, hq b h⟩
/-- an invariant that holds at each turn -/
theorem Ok.fold_all {F : α → σ → M σ} {xs : List α} {a : σ} (I : σ → Prop) (h0 : I a) (hs : ∀ x ∈ xs, ∀ a, I a → Ok (F x a) I) : Ok (pfold F xs a) I :=
  Ok.fold (fun _ => I) h0 (fun p x q a e h => hs x (by rw [e]; simp) a h) fun _ h => h
theorem Ok.map {f : α → M β} {xs : List α} {Q : β → Prop} (hl : xs.length ≤ 16777216) (h : ∀ x ∈ xs, Ok (f x) Q) : Ok (pMap f xs) (fun ys => ys.length = xs.length ∧ ∀ y ∈ ys, Q y) := by
  unfold pMap
  rw [if_pos (by have : big = 16777216 := rfl; omega)]
  clear hl
  induction xs with
  | nil => exact ⟨[], rfl, rfl, fun _ h => by cases h⟩
  | cons x xs ih =>
    obtain ⟨y, e, q⟩ := h x List.mem_cons_self
    obtain ⟨ys, e2, hl, q2⟩ := ih fun z hz => h z (List.mem_cons_of_mem _ hz)
    refine ⟨y :: ys, by simp only [mapGo, e, e2], by simp [hl], fun z hz => ?_⟩
    rcases List.mem_cons.mp hz with rfl | hz
    · exact q
    · exact q2 z hz
end
structure Good (s t : Int) : Prop where
  s0 : 0 ≤ s
  t0 : 0 ≤ t
  t1 : t < 2147483647
def StOk (r : List Int) : Prop := ∃ s t, r = [s, t] ∧ Good s t
/-- from any state a value with Q comes, and a state -/
def Draw {α : Type} (f : List Int → M (α × List Int)) (Q : α → Prop) : Prop := ∀ r, StOk r → Ok (f r) (fun p => Q p.1 ∧ StOk p.2)
theorem Draw.imp {α : Type} {f : List Int → M (α × List Int)} {Q R : α → Prop} (h : Draw f Q) (i : ∀ a, Q a → R a) : Draw f R := fun r g => (h r g).imp fun _ q => ⟨i _ q.1, q.2⟩
theorem mapS_draw {α β : Type} {F : α → List Int → M (β × List Int)} {Q : β → Prop} : ∀ {xs : List α}, (∀ x ∈ xs, Draw (F x) Q) → Draw (mapS F xs) (fun ys => ys.length = xs.length ∧ ∀ y ∈ ys, Q y)
  | [], _ => fun r g => ⟨_, rfl, ⟨rfl, fun _ h => by cases h⟩, g⟩
  | x :: xs, h => fun r g =>
    (h x List.mem_cons_self r g).bind fun y hy => (mapS_draw (Q := Q) (F := F) (xs := xs) (fun y hy => h y (List.mem_cons_of_mem _ hy)) y.2 hy.2).bind fun ys hys => ⟨_, rfl, ⟨by simp [hys.1.1], fun z hz => by
      rcases List.mem_cons.mp hz with rfl | hz
      · exact hy.1
      · exact hys.1.2 z hz⟩, hys.2⟩
theorem pMapS_draw {α β : Type} {F : α → List Int → M (β × List Int)} {Q : β → Prop} {xs : List α} (hl : xs.length ≤ 16777216) (h : ∀ x ∈ xs, Draw (F x) Q) : Draw (pMapS F xs) (fun ys => ys.length = xs.length ∧ ∀ y ∈ ys, Q y) := by
  intro r g
  unfold pMapS
  rw [if_pos (by have : big = 16777216 := rfl; omega)]
  exact mapS_draw h r g
end DL
namespace DL
open PySem L2
end DL
namespace DL
open PySem L2
section
variable {α τ : Type} {st st1 : DSt} {e : α → D}
theorem rv_frzN {a : Den (List D)} {ds : List D} {d : D} (h : RV a st ds st1) (hd : .lst ds = d) : RV (dFrz a) st d st1 := by subst hd; exact rv_bind h rv_ret
theorem re_frzN {a : Den (List D)} {o : M (List α)} (h : RE a st o (List.map e) st1) : RE (dFrz a) st o (eL e) st1 := re_tail h fun _ => rv_ret
theorem rt_frzN {a : Den (List D)} {o : M (List α × τ)} {S : τ → DSt} (h : RT a st o (List.map e) S) : RT (dFrz a) st o (eL e) S := rt_tail h fun _ => rv_ret
theorem rv_tst {a : Den D} {x : Bool} (h : RV a st (eB x) st1) : RV (dTst a) st x st1 := rv_bind h (rv_lift rfl)
theorem re_tst {a : Den D} {o : M Bool} (h : RE a st o eB st1) : RE (dTst a) st o (fun b : Bool => b) st1 := re_tail h fun _ => rv_lift rfl
theorem rt_tst {a : Den D} {o : M (Bool × τ)} {S : τ → DSt} (h : RT a st o eB S) : RT (dTst a) st o (fun b : Bool => b) S := rt_tail h fun _ => rv_lift rfl
end
end DL
namespace DL
open PySem L2
section
variable {α β γ τ : Type} {st st' : DSt} {S : τ → DSt} {X : Bool} {K : γ → Fl → DSt → Prop} {c : DS} {o : M γ}
theorem rv_dOp1 {op : D → Option D} {a : Den D} {y : D} (hh : RV (bindD a fun x => liftO (op x)) st y st') : RV (dOp1 op a) st y st' := hh
theorem re_dOp1 {op : D → Option D} {a : Den D} {o : M α} {v : α → D} (hh : RE (bindD a fun x => liftO (op x)) st o v st') : RE (dOp1 op a) st o v st' := hh
theorem rt_dOp1 {op : D → Option D} {a : Den D} {o : M (α × τ)} {v : α → D} (hh : RT (bindD a fun x => liftO (op x)) st o v S) : RT (dOp1 op a) st o v S := hh
theorem rv_dOp2 {op : D → D → Option D} {a b : Den D} {y : D} (hh : RV (bindD a fun x => bindD b fun y => liftO (op x y)) st y st') : RV (dOp2 op a b) st y st' := hh
theorem re_dOp2 {op : D → D → Option D} {a b : Den D} {o : M α} {v : α → D} (hh : RE (bindD a fun x => bindD b fun y => liftO (op x y)) st o v st') : RE (dOp2 op a b) st o v st' := hh
theorem rt_dOp2 {op : D → D → Option D} {a b : Den D} {o : M (α × τ)} {v : α → D} (hh : RT (bindD a fun x => bindD b fun y => liftO (op x y)) st o v S) : RT (dOp2 op a b) st o v S := hh
theorem re_dOp2n {op : D → D → Option D} {i : Nat} {b : Den D} {o : M α} {v : α → D} (hh : RE (bindD (dRd i) fun _ => bindD b fun y => bindD (dRd i) fun x => liftO (op x y)) st o v st') : RE (dOp2n op i b) st o v st' := hh
theorem rv_dOp2m {op : D → D → Option D} {a : Den D} {j : Nat} {y : D} (hh : RV (bindD a fun x => bindD (dRd j) fun y => liftO (op x y)) st y st') : RV (dOp2m op a j) st y st' := hh
theorem rv_dOp1n {op : D → Option D} {i : Nat} {y : D} (hh : RV (bindD (dRd i) fun x => liftO (op x)) st y st') : RV (dOp1n op i) st y st' := hh
theorem rv_dN1n {op : D → Option (List D)} {i : Nat} {y : (List D)} (hh : RV (bindD (dRd i) fun x => liftO (op x)) st y st') : RV (dN1n op i) st y st' := hh
theorem re_dN1n {op : D → Option (List D)} {i : Nat} {o : M α} {v : α → (List D)} (hh : RE (bindD (dRd i) fun x => liftO (op x)) st o v st') : RE (dN1n op i) st o v st' := hh
theorem rv_dN1 {op : D → Option (List D)} {a : Den D} {y : (List D)} (hh : RV (bindD a fun x => liftO (op x)) st y st') : RV (dN1 op a) st y st' := hh
theorem re_dN2 {op : D → D → Option (List D)} {a b : Den D} {o : M α} {v : α → (List D)} (hh : RE (bindD a fun x => bindD b fun y => liftO (op x y)) st o v st') : RE (dN2 op a b) st o v st' := hh
theorem rv_dTup {a : Den (List D)} {y : D} (hh : RV (bindD a fun ds => liftO (if ds.length ≤ big then some (.tup ds) else none)) st y st') : RV (dTup a) st y st' := hh
theorem re_dTup {a : Den (List D)} {o : M α} {v : α → D} (hh : RE (bindD a fun ds => liftO (if ds.length ≤ big then some (.tup ds) else none)) st o v st') : RE (dTup a) st o v st' := hh
theorem rv_dLst {a : Den (List D)} {y : (List D)} (hh : RV (bindD a fun ds => liftO (if ds.length ≤ big then some ds else none)) st y st') : RV (dLst a) st y st' := hh
theorem re_dLst {a : Den (List D)} {o : M α} {v : α → (List D)} (hh : RE (bindD a fun ds => liftO (if ds.length ≤ big then some ds else none)) st o v st') : RE (dLst a) st o v st' := hh
theorem rv_dVal {a : Den Bool} {y : D} (hh : RV (bindD a fun b => retD (.bl b)) st y st') : RV (dVal a) st y st' := hh
theorem rv_dAnd {a b : Den Bool} {y : Bool} (hh : RV (bindD a fun x => if x = true then b else retD false) st y st') : RV (dAnd a b) st y st' := hh
theorem re_dAnd {a b : Den Bool} {o : M α} {v : α → Bool} (hh : RE (bindD a fun x => if x = true then b else retD false) st o v st') : RE (dAnd a b) st o v st' := hh
theorem rv_dOr {a b : Den Bool} {y : Bool} (hh : RV (bindD a fun x => if x = true then retD true else b) st y st') : RV (dOr a b) st y st' := hh
theorem rv_dNot {a : Den Bool} {y : Bool} (hh : RV (bindD a fun x => retD (!x)) st y st') : RV (dNot a) st y st' := hh
theorem re_dNot {a : Den Bool} {o : M α} {v : α → Bool} (hh : RE (bindD a fun x => retD (!x)) st o v st') : RE (dNot a) st o v st' := hh
theorem rv_dChain {op op' : D → D → Option D} {a b c : Den D} {y : D} (hh : RV (bindD a fun x => bindD b fun y => bindD (liftO (op x y)) fun z => bindD (liftO (asB z)) fun k => if k = true then bindD c fun w => liftO (op' y w) else retD (.bl false)) st y st') : RV (dChain op op' a b c) st y st' := hh
theorem rv_dItems {f : Den D} {y : (List D)} (hh : RV (bindD f fun d => liftO (itemsOf d)) st y st') : RV (dItems f) st y st' := hh
theorem re_dItems {f : Den D} {o : M α} {v : α → (List D)} (hh : RE (bindD f fun d => liftO (itemsOf d)) st o v st') : RE (dItems f) st o v st' := hh
theorem re_dRng {f : Den D} {o : M α} {v : α → (List D)} (hh : RE (bindD f fun d => liftO (rngD d)) st o v st') : RE (dRng f) st o v st' := hh
theorem rt_dRng {f : Den D} {o : M (α × τ)} {v : α → (List D)} (hh : RT (bindD f fun d => liftO (rngD d)) st o v S) : RT (dRng f) st o v S := hh
theorem rv_dPart {f : Den D} {y : (Option Int)} (hh : RV (bindD f fun d => liftO (match asI d with | some i => some (some i) | none => none)) st y st') : RV (dPart f) st y st' := hh
theorem rv_dSln {i : Nat} {lo hi : Den (Option Int)} {y : D} (hh : RV (bindD (dRd i) fun _ => bindD lo fun l => bindD hi fun u => bindD (dRd i) fun x => liftO (opSl x l u)) st y st') : RV (dSln i lo hi) st y st' := hh
theorem re_dIndexN {i : Nat} {h : Den D} {o : M α} {v : α → D} (hh : RE (bindD (dRd i) fun x => bindD (liftO (isL x)) fun _ => bindD h fun y => bindD (dRd i) fun x => liftO (opIndex x y)) st o v st') : RE (dIndexN i h) st o v st' := hh
theorem re_dCall {df : List D → M D} {fa : Den (List D)} {o : M α} {v : α → D} (hh : RE (bindD fa fun ds => liftM' (df ds)) st o v st') : RE (dCall df fa) st o v st' := hh
theorem rt_dCall {df : List D → M D} {fa : Den (List D)} {o : M (α × τ)} {v : α → D} (hh : RT (bindD fa fun ds => liftM' (df ds)) st o v S) : RT (dCall df fa) st o v S := hh
theorem re_dCallO {df : List D → Option (List D)} {fa : Den (List D)} {o : M α} {v : α → (List D)} (hh : RE (bindD fa fun ds => liftO (df ds)) st o v st') : RE (dCallO df fa) st o v st' := hh
theorem rt_dCallR {df : List D → List D → M (D × List D)} {i : Nat} {fa : Den (List D)} {o : M (α × τ)} {v : α → D} (hh : RT (bindD (dOw i) fun _ => bindD fa fun ds => callK df i ds) st o v S) : RT (dCallR df i fa) st o v S := hh
theorem rv_dIf {δ : Type} {t : Den Bool} {a b : Den δ} {y : δ} (hh : RV (bindD t fun x => if x = true then a else b) st y st') : RV (dIf t a b) st y st' := hh
theorem re_dIf {δ : Type} {t : Den Bool} {a b : Den δ} {o : M α} {v : α → δ} (hh : RE (bindD t fun x => if x = true then a else b) st o v st') : RE (dIf t a b) st o v st' := hh
theorem rt_dIf {δ : Type} {t : Den Bool} {a b : Den δ} {o : M (α × τ)} {v : α → δ} (hh : RT (bindD t fun x => if x = true then a else b) st o v S) : RT (dIf t a b) st o v S := hh
end
end DL
namespace DL
open PySem L2
end DL
namespace DL
open PySem PySem.Spec PyProof.Rows L2
section
variable {prog : Program} {w : World} {A : Around} {E : Value → Shared → Prop} {s : Shared}
def ltTup (h : Heap) (B : Int) (u v : Value) : Bool := decide (TS.code B (TS.intsOf h u) < TS.code B (TS.intsOf h v))
theorem swo_tup (h : Heap) (B : Int) : SrtO.Swo (ltTup h B) := by
  refine ⟨fun x y q => ?_, fun x y z q r => ?_⟩
  · unfold ltTup at *
    simp only [decide_eq_true_eq, decide_eq_false_iff_not] at *
    omega
  · unfold ltTup at *
    simp only [decide_eq_false_iff_not] at *
    omega
theorem tups_sortable {a : Addr} {h₁ : Heap} {vs : List Value} {d : Nat} {B : Int} (hd : 1 ≤ d) (h2 : 2 ≤ vs.length) (x : TS.TupsOk s.heap d B vs) (keep : ∀ b o, s.heap.get? b = some o → b ≠ a ∧ h₁.get? b = some o) : SrtO.SortableO prog w A { s with heap := h₁ } a vs (ltTup s.heap B) := by
  intro h' hk
  have x' : TS.TupsOk h' d B vs := x.keeps fun b o e _ => hk b o (keep b o e).1 (keep b o e).2
  obtain ⟨fs, k, hl, hi⟩ := TS.firsts_of hd vs x'
  refine ⟨_, fun Q E hq => PySem.W.kat_kind (s := { s with heap := h' }) (T := Value.type "int") k (by omega) (fun f hf => ?_) rfl hq, ?_⟩
  · obtain ⟨n, t, rfl⟩ := hi f hf
    exact PySem.W.Looks.of_pure rfl
  · intro p q hp hq
    have hp : p.1 ∈ vs := hp
    have hq : q.1 ∈ vs := hq
    obtain ⟨ns, tp, lp, bp⟩ := x' _ hp
    obtain ⟨ms, tq, lq, bq⟩ := x' _ hq
    obtain ⟨ns0, tp0, _, _⟩ := x _ hp
    obtain ⟨ms0, tq0, _, _⟩ := x _ hq
    have e1 : TS.intsOf s.heap p.1 = ns := by rw [tp0.ints, ← (tp0.keeps (h' := h') fun b o e _ => hk b o (keep b o e).1 (keep b o e).2).ints, tp.ints]
    have e2 : TS.intsOf s.heap q.1 = ms := by rw [tq0.ints, ← (tq0.keeps (h' := h') fun b o e _ => hk b o (keep b o e).1 (keep b o e).2).ints, tq.ints]
    have eq : SrtO.lt2 (ltTup s.heap B) p q = decide (TS.code B ns < TS.code B ms) := by
      show ltTup s.heap B p.1 q.1 = _
      unfold ltTup; rw [e1, e2]
    obtain ⟨a', xs, f1, ⟨o, ho, hc, n, hdt⟩, i⟩ := tp
    obtain ⟨a'', ys, f2, ⟨o', ho', hc', n', hdt'⟩, i'⟩ := tq
    rw [f1, f2, eq]
    refine PySem.W.kat_lt ho hdt ho' hdt' ?_
    have sz : decide (xs.size < ys.size) = false := by
      have l1 := i.length
      have l2 := i'.length
      rw [Array.length_toList] at l1 l2
      exact decide_eq_false (by omega)
    rw [sz]
    exact TS.lex_ints 0 i i' (by omega) bp bq ⟨rfl, rfl⟩
end
/-- sorted(xs), xs a list of tuples of d ints in [0, B) -/
def rSortX (K : PySem.W.Frag) : List V → Hp → VK → Prop := fun vs H Q => ∃ (d : Nat) (B : Int) (a : Addr) (xs : List V), 1 ≤ d ∧ vs = [V.ref a] ∧ SqL K H a xs ∧ (∀ x ∈ xs, ∃ ns, L2.TupI K H x ns ∧ ns.length = d ∧ TS.Bd B ns) ∧
  ∀ (ys : List V) (p : Addr), ys.Perm xs → ys.Pairwise (fun x y => ∀ n m, L2.TupI K H x n → L2.TupI K H y m → TS.code B n ≤ TS.code B m) → H p = none → Q (.ref p) (upd H p (.lst ys))
section
variable {X : Cx}
theorem cr_sortX : CallR X (.builtin "sorted") (rSortX X.K) := by
  intro pins s σ H vs us Q I r h
  obtain ⟨d, B, a, xs, hd, rfl, hs, hx, q⟩ := h
  obtain ⟨its, rv, hl, hz⟩ := I.list hs
  rw [Vals.ref1 r]
  obtain ⟨e1, e2⟩ := L2.bkV_refs rv fun x m => by
    obtain ⟨ns, ⟨t, e, _⟩, _⟩ := hx x m
    exact ⟨t, e⟩
  have tok : TS.TupsOk s.heap d B its := fun v hv => by
    obtain ⟨t, rfl⟩ := e2 v hv
    have hm : V.ref t ∈ xs := by
      rw [e1]
      exact List.mem_map.mpr ⟨_, hv, rfl⟩
    obtain ⟨ns, ⟨t', e, ht⟩, hn, hb⟩ := hx _ hm
    cases e
    exact ⟨ns, L2.tupI_raw I ht, hn, hb⟩
  refine SrtO.sorted_ord (swo_tup s.heap B) hl.isList (by rw [← rv.length]; exact hz) (fun h2 h₁ a' _ keep => tups_sortable hd h2 tok keep) fun out h1 h2 => ?_
  obtain ⟨ep, he'⟩ := PyProof.Rows.sortedAll_at s.heap its out.toArray
  have h3 : ∀ u ∈ out, ∃ a, u = Value.ref a := fun u hu => e2 u (h2.perm.mem_iff.mp hu)
  have hp : (out.map L2.bkV).Perm xs := by
    rw [e1]
    exact h2.perm.map L2.bkV
  have hlen : (out.map L2.bkV).length ≤ sizeLine := by
    rw [hp.length_eq]
    exact hz
  refine ⟨.ref _, upd H (s.heap.objs.size + 1) (.lst (out.map L2.bkV)), I.laid (t' := s.toks) (fun _ _ => PyProof.Rows.sortedAll_old) (Nat.le_succ _) ⟨hlen, out, ep, L2.bkV_vals h3, he'⟩, rfl, q _ _ hp ?_ (I.hok.fresh (Nat.le_succ _))⟩
  rw [List.pairwise_map]
  refine List.Pairwise.imp (fun {u v} huv n m hn hm => ?_) h1
  obtain ⟨t, et, ht⟩ := hn
  obtain ⟨t', et', ht'⟩ := hm
  have eu := L2.bkV_ref et
  have ev := L2.bkV_ref et'
  have i1 : TS.intsOf s.heap u = n := by
    rw [eu]
    exact (L2.tupI_raw I ht).ints
  have i2 : TS.intsOf s.heap v = m := by
    rw [ev]
    exact (L2.tupI_raw I ht').ints
  rw [← i1, ← i2]
  have huv : ltTup s.heap B v u = false := huv
  unfold ltTup at huv
  simp only [decide_eq_false_iff_not] at huv
  omega
end
end DL
namespace DL
open PySem PySem.Spec PyProof.Rows L2
section
variable {prog : Program} {w : World} {A : Around} {E : Value → Shared → Prop} {s : Shared}
theorem collect_tup {l : Addr} {vs : List Value} {Q : List Value → Shared → Prop} (hl : s.heap.IsTuple l vs.toArray)
    (h : Q vs { s with heap := (s.heap.push (seqObj "list" #[] 0)).update s.heap.objs.size (Obj.mapSeq (· ++ vs.toArray)) }) (hsz : vs.length ≤ sizeLine) :
    wpAny (model prog w) A (collect (.ref l)) Q E s := by
  obtain ⟨o, ho, hc, n, hd⟩ := id hl
  unfold collect
  refine wpAny_bind (wpAny_runValue (codeAny_builtin entry_proto_collect' ?_))
  show wpAny _ _ (do again (.builtin "list.__iadd__" ⟨[← newList [], .ref l], []⟩)) _ _ s
  refine wpAny_bind (wpAny_newList (wpAny_pure ⟨Code.quiet_builtin _ (by decide +kernel), codeAny_builtin entry_list_iadd' ?_⟩))
  show wpAny _ _ (Builtin.List.listExtendWith (.ref s.heap.objs.size) (.ref l) (.ref s.heap.objs.size)) _ _ { s with heap := s.heap.push (seqObj "list" #[] 0) }
  unfold Builtin.List.listExtendWith
  have ho' : (s.heap.push (seqObj "list" #[] 0)).get? l = some o := Heap.get?_push_of_some _ ho
  refine wpAny_bind (wpAny_typeOf (T := "tuple") ⟨o, ho', hc⟩ ?_)
  have ht : (Value.type "tuple" == Value.type "tuple") = true := by rfl
  rw [if_pos (by rw [ht]; simp)]
  refine wpAny_bind (listItems_at ho' hd ?_)
  refine wpAny_bind (listItems_at (xs := #[]) (n := 0) (Heap.get?_push_size _ rfl) rfl ?_)
  rw [if_neg (by simp)]
  refine wpAny_bind (listUpdate_at (xs := #[]) (n := 0) (Heap.get?_push_size _ rfl) rfl ?_ (Nat.zero_le _) (by show (#[] ++ vs.toArray).size ≤ sizeLine + 1; simp only [Array.size_append, List.size_toArray, List.length_nil]; omega))
  refine wpAny_pure ?_
  show wpAny (model prog w) A (do
      let o ← load s.heap.objs.size
      match o.data with
      | .seq xs _ => pure xs.toList
      | _ => unsupported "internal:collect") Q E { s with heap := (s.heap.push (seqObj "list" #[] 0)).update s.heap.objs.size (Obj.mapSeq (· ++ vs.toArray)) }
  refine wpAny_bind (wpAny_load (get?_update_seq (Heap.get?_push_size _ rfl) _) ?_)
  show wpAny _ _ (pure ((#[] : Array Value) ++ vs.toArray).toList) Q E _
  rw [show ((#[] : Array Value) ++ vs.toArray).toList = vs by simp]
  exact wpAny_pure h
theorem sorted_tupO {l : Addr} {vs : List Value} {ltv : Value → Value → Bool} {Q : Value → Shared → Prop} (O : SrtO.Swo ltv) (hl : s.heap.IsTuple l vs.toArray) (hz : vs.length ≤ sizeLine)
    (hS : 2 ≤ vs.length → ∀ (h₁ : Heap) (a : Addr), h₁.get? a = some (seqObj "list" vs.toArray 0) → (∀ b o, s.heap.get? b = some o → b ≠ a ∧ h₁.get? b = some o) → SrtO.SortableO prog w A.in1.in1 { s with heap := h₁ } a vs ltv)
    (h : ∀ out : List Value, SrtO.Srtd ltv out → SrtO.Stb ltv out vs → Q (.ref (s.heap.objs.size + 1)) { s with heap := sortedAll s.heap vs out.toArray }) :
    wpAny (model prog w) A (call (.builtin "sorted") [.ref l]) Q E s := by
  refine Calls.call_function_entry kind_sorted plain_sorted entry_sorted (args_sorted1 _) ?_
  unfold Builtin.«sorted»
  refine wpAny_bind (m := checkCount "sorted" 1 1 _) (wpAny_pure ?_)
  refine wpAny_bind (collect_tup hl ?_ hz)
  refine wpAny_bind (wpAny_newList ?_ hz)
  have hsz : ((s.heap.push (seqObj "list" #[] 0)).update s.heap.objs.size (Obj.mapSeq (· ++ vs.toArray))).objs.size = s.heap.objs.size + 1 := by
    rw [Heap.size_update, size_push']
  have hoL : (((s.heap.push (seqObj "list" #[] 0)).update s.heap.objs.size (Obj.mapSeq (· ++ vs.toArray))).push (seqObj "list" vs.toArray 0)).get? (s.heap.objs.size + 1) = some (seqObj "list" vs.toArray 0) := by
    rw [← hsz]; exact Heap.get?_push_size _ rfl
  have keep : ∀ b o, s.heap.get? b = some o → b ≠ s.heap.objs.size + 1 ∧ (((s.heap.push (seqObj "list" #[] 0)).update s.heap.objs.size (Obj.mapSeq (· ++ vs.toArray))).push (seqObj "list" vs.toArray 0)).get? b = some o := fun b o q => by
    have hlt : b < s.heap.objs.size := Heap.lt_size q
    refine ⟨Nat.ne_of_lt (Nat.lt_succ_of_lt hlt), Heap.get?_push_of_some _ ?_⟩
    rw [Heap.get?_update_ne _ _ _ _ (Nat.ne_of_lt hlt)]
    exact Heap.get?_push_of_some _ q
  show wpAny _ _ _ _ _ { s with heap := ((s.heap.push (seqObj "list" #[] 0)).update s.heap.objs.size (Obj.mapSeq (· ++ vs.toArray))).push (seqObj "list" vs.toArray 0) }
  rw [hsz]
  refine wpAny_bind (wpAny_holding (wpAny_call_entry slot_list_sort ⟨_, hoL, rfl⟩ entry_list_sort (SrtO.list_sort_ord O hoL hz (fun h2 => hS h2 _ _ hoL keep) fun out hs hb => ⟨_, rfl, ?_⟩) (args_list_sort _)))
  exact wpAny_pure ⟨_, rfl, h out hs hb⟩
end
def rSortedTu (K : PySem.W.Frag) : List V → Hp → VK → Prop := fun vs H Q => ∃ (a : Addr) (ns : List Int), vs = [V.ref a] ∧ SqT K H a (ns.map V.int) ∧ ns.length ≤ sizeLine ∧
  ∀ (ns' : List Int) (p : Addr), ns'.Perm ns → ns'.Pairwise (· ≤ ·) → H p = none → Q (.ref p) (upd H p (.lst (ns'.map V.int)))
theorem cr_sortedTu {X : Cx} : CallR X (.builtin "sorted") (rSortedTu X.K) := by
  intro pins s σ H vs us Q I r h
  obtain ⟨a, ns, rfl, hs, hz, q⟩ := h
  obtain ⟨its, rv, hT, _⟩ := I.tuple hs
  rw [Vals.ref1 r]
  have hi := rv.ints
  have hlen0 : its.length = ns.length := by rw [← rv.length, List.length_map]
  refine sorted_tupO SrtO.swo_int hT (by rw [hlen0]; exact hz) (fun h2 h₁ a' _ _ => SrtO.ints_sortable hi h2) fun out h1 h2 => ?_
  obtain ⟨k1, k2, k3⟩ := SrtO.ints_out hi h1 h2
  obtain ⟨ep, he'⟩ := PyProof.Rows.sortedAll_at s.heap its out.toArray
  have hlen : ((out.map SrtO.iv).map V.int).length ≤ sizeLine := by
    rw [List.length_map, k2.length_eq]
    exact hz
  exact ⟨.ref _, upd H (s.heap.objs.size + 1) (.lst ((out.map SrtO.iv).map V.int)), I.laid (t' := s.toks) (fun _ _ => PyProof.Rows.sortedAll_old) (Nat.le_succ _) ⟨hlen, out, ep, vals_of_ints k1, he'⟩, rfl, q _ _ k2 k3 (I.hok.fresh (Nat.le_succ _))⟩
def tupsOf : List D → Option (List (List Int))
  | [] => some []
  | .tup ds :: r => match intsOf ds, tupsOf r with | some x, some xs => some (x :: xs) | _, _ => none
  | _ :: _ => none
def encT (r : List Int) : D := .tup (r.map D.int)
theorem tupsOf_eq : ∀ {ds : List D} {rows : List (List Int)}, tupsOf ds = some rows → ds = rows.map encT
  | [], _, h => by cases h; rfl
  | .tup d :: r, rows, h => by
    unfold tupsOf at h
    split at h
    · rename_i x xs h1 h2
      cases h
      rw [List.map_cons, ← tupsOf_eq h2, intsOf_eq h1]; rfl
    · cases h
  | .non :: _, _, h => by cases h
  | .bl _ :: _, _, h => by cases h
  | .int _ :: _, _, h => by cases h
  | .str _ :: _, _, h => by cases h
  | .lst _ :: _, _, h => by cases h
  | .ins _ _ _ :: _, _, h => by cases h
  | .scr _ :: _, _, h => by cases h
def lexLe : List Int → List Int → Bool
  | [], _ => true
  | _ :: _, [] => false
  | x :: xs, y :: ys => if x = y then lexLe xs ys else decide (x < y)
def insT (x : List Int) : List (List Int) → List (List Int)
  | [] => [x]
  | y :: r => if lexLe x y = true then x :: y :: r else y :: insT x r
def sortT : List (List Int) → List (List Int)
  | [] => []
  | x :: r => insT x (sortT r)
theorem lexLe_total : ∀ x y : List Int, lexLe x y = true ∨ lexLe y x = true
  | [], _ => .inl (by simp [lexLe])
  | _ :: _, [] => .inr (by simp [lexLe])
  | x :: xs, y :: ys => by
    by_cases e : x = y
    · subst e; simpa [lexLe] using lexLe_total xs ys
    · have : ¬ y = x := fun z => e z.symm
      simp [lexLe, e, this]; omega
theorem lexLe_trans : ∀ {x y z : List Int}, lexLe x y = true → lexLe y z = true → lexLe x z = true
  | [], _, _, _, _ => by simp [lexLe]
  | x :: xs, [], _, h, _ => by simp [lexLe] at h
  | x :: xs, y :: ys, [], _, h => by simp [lexLe] at h
  | x :: xs, y :: ys, z :: zs, h1, h2 => by
    unfold lexLe at *
    by_cases e1 : x = y
    · subst e1
      by_cases e2 : x = z
      · subst e2
        simp only [if_true] at *
        exact lexLe_trans h1 h2
      · simp only [e2, if_false] at *; exact h2
    · by_cases e2 : y = z
      · subst e2
        simp only [e1, if_false] at *; exact h1
      · simp only [e1, e2, if_false, decide_eq_true_eq] at *
        have : ¬ x = z := by omega
        simp only [this, if_false, decide_eq_true_eq]; omega
theorem lexLe_anti : ∀ {x y : List Int}, lexLe x y = true → lexLe y x = true → x = y
  | [], [], _, _ => rfl
  | [], _ :: _, _, h => by simp [lexLe] at h
  | _ :: _, [], h, _ => by simp [lexLe] at h
  | x :: xs, y :: ys, h1, h2 => by
    unfold lexLe at *
    by_cases e : x = y
    · subst e
      simp only [if_true] at *
      rw [lexLe_anti h1 h2]
    · have e' : ¬ y = x := fun z => e z.symm
      simp only [e, e', if_false, decide_eq_true_eq] at *
      omega
theorem insT_perm (x : List Int) : ∀ l, (insT x l).Perm (x :: l)
  | [] => .refl _
  | y :: r => by
    unfold insT
    split
    · exact .refl _
    · exact ((insT_perm x r).cons y).trans (.swap _ _ _)
theorem sortT_perm : ∀ l, (sortT l).Perm l
  | [] => .refl _
  | x :: r => (insT_perm x _).trans ((sortT_perm r).cons x)
theorem insT_sorted (x : List Int) : ∀ l : List (List Int), l.Pairwise (fun a b => lexLe a b = true) → (insT x l).Pairwise (fun a b => lexLe a b = true)
  | [], _ => List.pairwise_singleton _ _
  | y :: r, h => by
    obtain ⟨h1, h2⟩ := List.pairwise_cons.mp h
    unfold insT
    split
    · rename_i hx
      exact List.pairwise_cons.mpr ⟨fun z hz => by
        rcases List.mem_cons.mp hz with rfl | hz
        · exact hx
        · exact lexLe_trans hx (h1 z hz), h⟩
    · rename_i hx
      refine List.pairwise_cons.mpr ⟨fun z hz => ?_, insT_sorted x r h2⟩
      rcases List.mem_cons.mp ((insT_perm x r).mem_iff.mp hz) with rfl | hz
      · rcases lexLe_total z y with q | q
        · exact absurd q hx
        · exact q
      · exact h1 z hz
theorem sortT_sorted : ∀ l, (sortT l).Pairwise (fun a b => lexLe a b = true)
  | [] => .nil
  | x :: r => insT_sorted x _ (sortT_sorted r)
theorem sortT_unique : ∀ {l m : List (List Int)}, l.Perm m → l.Pairwise (fun a b => lexLe a b = true) → m.Pairwise (fun a b => lexLe a b = true) → l = m
  | [], m, p, _, _ => (List.nil_perm.mp p).symm
  | x :: l, m, p, h1, h2 => by
    cases m with
    | nil => exact absurd p.symm (by simp)
    | cons y m =>
      obtain ⟨a1, a2⟩ := List.pairwise_cons.mp h1
      obtain ⟨b1, b2⟩ := List.pairwise_cons.mp h2
      have hxy : x = y := by
        have hx : x ∈ y :: m := p.mem_iff.mp List.mem_cons_self
        have hy : y ∈ x :: l := p.mem_iff.mpr List.mem_cons_self
        rcases List.mem_cons.mp hx with e | hx
        · exact e
        · rcases List.mem_cons.mp hy with e | hy
          · exact e.symm
          · exact lexLe_anti (a1 y hy) (b1 x hx)
      subst hxy
      rw [sortT_unique (List.Perm.cons_inv p) a2 b2]
theorem code_lexLe {B : Int} : ∀ {n m : List Int}, n.length = m.length → TS.Bd B n → TS.Bd B m → TS.code B n ≤ TS.code B m → lexLe n m = true
  | [], _, _, _, _, _ => by simp [lexLe]
  | _ :: _, [], h, _, _, _ => by simp at h
  | x :: xs, y :: ys, hl, h1, h2, h => by
    have hl' : xs.length = ys.length := by simpa using hl
    unfold lexLe
    by_cases e : x = y
    · subst e
      simp only [if_true]
      refine code_lexLe hl' h1.tail h2.tail ?_
      apply Int.not_lt.mp
      intro q
      have := (TS.code_same (d := x) (r := ys) (q := xs) hl'.symm).mpr q
      omega
    · simp only [e, if_false, decide_eq_true_eq]
      rcases Int.lt_trichotomy x y with q | q | q
      · exact q
      · exact absurd q e
      · have := TS.code_lt hl'.symm h2.tail h1.tail q
        omega
/-- the greatest number, and one more -/
def topOf (rows : List (List Int)) : Int := rows.foldl (fun b r => r.foldl (fun b x => if x < b then b else x + 1) b) 1
def okRows (rows : List (List Int)) (d : Nat) (B : Int) : Bool := decide (1 ≤ d) && rows.all fun r => decide (r.length = d) && r.all fun x => decide (0 ≤ x) && decide (x < B)
def nSortedT : D → Option (List D)
  | .lst ds => match tupsOf ds with
    | some rows => if okRows rows (rows.headD [0]).length (topOf rows) = true then some ((sortT rows).map encT) else none
    | none => none
  | _ => none
/-- sorted(..) of what is covered -/
def nSortedA (x : D) : Option (List D) := match x with
  | .lst ds => match intsOf ds with
    | some is => some ((sortI is).map D.int)
    | none => nSortedT (.lst ds)
  | .tup ds => match intsOf ds with
    | some is => if is.length ≤ big then some ((sortI is).map D.int) else none
    | none => none
  | _ => none
def rSortedA (K : PySem.W.Frag) : List V → Hp → VK → Prop := fun vs H Q => rSortedI K vs H Q ∨ rSortX K vs H Q ∨ rSortedTu K vs H Q
theorem cr_sortedA {X : Cx} : CallR X (.builtin "sorted") (rSortedA X.K) := cr_sortedI.or (cr_sortX.or cr_sortedTu)
section
variable {g : G} {F H : Hp}
theorem Rl.perm {α : Type} {enc : α → D} : ∀ {vs ys : List V}, vs.Perm ys → ∀ {rows : List α}, Rl g F vs (rows.map enc) → ∃ rows' : List α, Rl g F ys (rows'.map enc) ∧ rows'.Perm rows := by
  intro vs ys p
  induction p with
  | nil => intro rows h; exact ⟨rows, h, .refl _⟩
  | cons x p ih =>
    intro rows h
    cases rows with
    | nil => cases h
    | cons r rows =>
      cases h with
      | cons h1 h2 =>
        obtain ⟨rows', a, b⟩ := ih h2
        exact ⟨r :: rows', .cons h1 a, b.cons r⟩
  | swap x y l =>
    intro rows h
    match rows, h with
    | r1 :: r2 :: rows, .cons h1 (.cons h2 h3) => exact ⟨r2 :: r1 :: rows, .cons h2 (.cons h1 h3), .swap _ _ _⟩
  | trans p q ih1 ih2 =>
    intro rows h
    obtain ⟨r1, a, b⟩ := ih1 h
    obtain ⟨r2, c, d⟩ := ih2 a
    exact ⟨r2, c, d.trans b⟩
theorem Rl.pw {α : Type} {enc : α → D} {P : V → V → Prop} {R : α → α → Prop} (hPR : ∀ v u x y, Rv g F v (enc x) → Rv g F u (enc y) → P v u → R x y) : ∀ {vs : List V} {rows : List α}, Rl g F vs (rows.map enc) → vs.Pairwise P → rows.Pairwise R
  | _, [], _, _ => .nil
  | v :: vs, r :: rows, .cons h1 h2, hp => by
    obtain ⟨a, b⟩ := List.pairwise_cons.mp hp
    refine List.pairwise_cons.mpr ⟨fun y hy => ?_, Rl.pw hPR h2 b⟩
    obtain ⟨j, hj, rfl⟩ := List.getElem_of_mem hy
    obtain ⟨u, e1, e2⟩ := h2.get (i := j) (d := enc rows[j]) (by simp [hj])
    exact hPR v u _ _ h1 e2 (a u (List.mem_of_getElem? e1))
theorem Rv.tupI (l : Same F H) {v : V} {r : List Int} (h : Rv g F v (encT r)) : L2.TupI g.K H v r := by
  unfold encT at h
  cases h with
  | tup h1 _ h2 =>
    have := h2.ints
    subst this
    exact ⟨_, rfl, sqT_mono l h1⟩
theorem vn_sortedA : VN1 g (fun v => rSortedA g.K [v]) nSortedA := by
  intro H F v d zs le rd hz Q q
  cases d with
  | lst ds =>
    cases hi : intsOf ds with
    | some is =>
      have hz : some ((sortI is).map D.int) = some zs := by
        simpa only [nSortedA, hi] using hz
      cases hz
      exact .inl (vn_sorted H F v (.lst ds) _ le rd (by simp only [nSorted, hi]) Q q)
    | none =>
      cases ht : tupsOf ds with
      | none => simp only [nSortedA, hi, nSortedT, ht] at hz; cases hz
      | some rows =>
        by_cases hok : okRows rows (rows.headD [0]).length (topOf rows) = true
        · have hz : some ((sortT rows).map encT) = some zs := by
            rw [← hz]; simp only [nSortedA, hi, nSortedT, ht]; rw [if_pos hok]
          cases hz
          refine .inr (.inl ?_)
          have e := tupsOf_eq ht
          subst e
          obtain ⟨a, vs, rfl, h1, r1⟩ := rd.lst le
          unfold okRows at hok
          simp only [Bool.and_eq_true, decide_eq_true_eq, List.all_eq_true] at hok
          obtain ⟨hd, hrows⟩ := hok
          refine ⟨(rows.headD [0]).length, topOf rows, a, vs, hd, rfl, sqL_of h1, fun x hx => ?_, fun ys p hp hpw hn => ?_⟩
          · obtain ⟨i, hi, rfl⟩ := List.getElem_of_mem hx
            obtain ⟨u, e1, e2⟩ := r1.get' (i := i) (v := vs[i]) (by simp [hi])
            rw [List.getElem?_map] at e1
            cases hr : rows[i]? with
            | none => rw [hr] at e1; cases e1
            | some r =>
              rw [hr] at e1
              cases e1
              have hm := hrows r (List.mem_of_getElem? hr)
              exact ⟨r, Rv.tupI le e2, hm.1, fun y hy => hm.2 y hy⟩
          · obtain ⟨rows', a1, a2⟩ := Rl.perm hp.symm r1
            have hs : rows'.Pairwise (fun a b => TS.code (topOf rows) a ≤ TS.code (topOf rows) b) := Rl.pw (P := fun x y => ∀ n m, L2.TupI g.K H x n → L2.TupI g.K H y m → TS.code (topOf rows) n ≤ TS.code (topOf rows) m) (fun v u x y hv hu hP => hP x y (Rv.tupI le hv) (Rv.tupI le hu)) a1 hpw
            have hs2 : rows'.Pairwise (fun a b => lexLe a b = true) := List.Pairwise.imp_of_mem (fun {a b} ha hb hab => by
              have ha := hrows a (a2.mem_iff.mp ha)
              have hb := hrows b (a2.mem_iff.mp hb)
              exact code_lexLe (by rw [ha.1, hb.1]) (fun y hy => ha.2 y hy) (fun y hy => hb.2 y hy) hab) hs
            have e : rows' = sortT rows := sortT_unique (a2.trans (sortT_perm rows).symm) hs2 (sortT_sorted rows)
            subst e
            exact q p _ hn a1
        · have hz : none = some zs := by
            rw [← hz]; simp only [nSortedA, hi, nSortedT, ht]; rw [if_neg hok]
          cases hz
  | tup ds =>
    cases hi : intsOf ds with
    | none => simp only [nSortedA, hi] at hz; cases hz
    | some is =>
      by_cases hb : is.length ≤ big
      · have hz : some ((sortI is).map D.int) = some zs := by
          rw [← hz]; simp only [nSortedA, hi]; rw [if_pos hb]
        cases hz
        have := intsOf_eq hi
        subst this
        obtain ⟨a, vs, rfl, h1, r1⟩ := rd.tup le
        have := r1.ints
        subst this
        refine .inr (.inr ⟨a, is, rfl, h1, by rw [← big_eq]; exact hb, fun ns' p hp hs hn => ?_⟩)
        have e : ns' = sortI is := sorted_unique (hp.trans (sortI_perm is).symm) hs (sortI_sorted is)
        subst e
        exact q p _ hn (Rl.of_ints _)
      · have hz : none = some zs := by
          rw [← hz]; simp only [nSortedA, hi]; rw [if_neg hb]
        cases hz
  | non => cases hz
  | bl _ => cases hz
  | int _ => cases hz
  | str _ => cases hz
  | ins _ _ _ => cases hz
  | scr _ => cases hz
end
end DL
namespace DL
open PySem PySem.Spec PyProof.Rows L2
theorem tupsOf_map : ∀ (rows : List (List Int)), tupsOf (rows.map (eT eI)) = some rows
  | [] => rfl
  | x :: r => by
    show (match intsOf (x.map eI), tupsOf (r.map (eT eI)) with | some x, some xs => some (x :: xs) | _, _ => none) = _
    rw [tupsOf_map r, show intsOf (x.map eI) = some x from intsOf_map _]
def pSortT (rows : List (List Int)) : M (List (List Int)) := if okRows rows (rows.headD [0]).length (topOf rows) = true then .ok (sortT rows) else .stuck
theorem op_sortT {rows : List (List Int)} : OP (nSortedA (eL (eT eI) rows)) (pSortT rows) (List.map (eT eI)) := by
  cases rows with
  | nil => exact rfl
  | cons x r =>
    have e : nSortedA (eL (eT eI) (x :: r)) = nSortedT (.lst ((x :: r).map (eT eI))) := rfl
    rw [e]
    unfold pSortT
    by_cases h : okRows (x :: r) ((x :: r).headD [0]).length (topOf (x :: r)) = true
    · rw [if_pos h]
      show nSortedT _ = some _
      unfold nSortedT
      simp only [tupsOf_map]
      rw [if_pos h]; rfl
    · rw [if_neg h]; trivial
end DL
namespace DL
open PySem PySem.Spec PyProof.Rows L2
end DL
namespace DL
open PySem PySem.Spec PyProof.Rows L2
/-- what set() makes first -/
abbrev setNu (w : World) : Obj := { cls := .type "set", dict := none, data := .set #[] 0 (.fresh 0 0 (!w.params.followText "set-order")) }
section
variable {P : Program} {w : World} {A : Around} {E : Value → Shared → Prop} {s : Shared}
set_option maxHeartbeats 3200000 in
theorem set_of_ints {l : Addr} {vs : Array Value} (ns : List Int) {Q : Value → Shared → Prop} (hA : A.handled = none) (hl : s.heap.IsList l vs) (hv : IntsAre vs.toList ns) (hb : ns.length + 1 < scanBound)
    (h : ∀ (h' : Heap) (tk c : Nat), SetR w h' s.heap.objs.size (fun j => decide (j ∈ ns)) c → (∀ b o, s.heap.get? b = some o → h'.get? b = some o) → Q (.ref s.heap.objs.size) { s with heap := h', toks := tk }) :
    wpAny (model P w) A (call (.type "set") [.ref l]) Q E s := by
  have hlen : vs.size = ns.length := by rw [← IntsAre.length hv, Array.length_toList]
  obtain ⟨c, tl, hmro⟩ := F.called_set.mro
  have e1 := F.called_set.made
  have e2 := F.called_set.sub
  refine wpAny_call (codeAny_of_tree (wpAny_pure ⟨Code.quiet_builtin _ (by decide +kernel), codeAny_builtin F.entry_type_call ?_⟩))
  rw [Around.under_plain (weight_type_call_type "set" [.ref l] []) rfl]
  have e3 := F.called_set.notType
  have e4 := F.called_set.canCreate
  have e5 := F.typeCall_set_1 (.ref l)
  repeat (any_goals (first | assumption | wp_step))
  refine codeAny_mono (code_set_led1 (.ref l) (E := E) (Q₁ := fun u s₁ => u = .ref s.heap.objs.size ∧ s₁ = { s with heap := s.heap.push (setNu w) }) ⟨rfl, rfl⟩) fun r s₁ hr => ?_
  match r, hr with
  | .error e, hr => exact hr
  | .ok (.ret u), hr =>
    obtain ⟨rfl, rfl⟩ := hr
    have gS : (s.heap.push (setNu w)).get? s.heap.objs.size = some (setNu w) := Heap.get?_push_size _ rfl
    have gT : Shared.TypeIs { s with heap := s.heap.push (setNu w) } (.ref s.heap.objs.size) "set" := ⟨_, gS, rfl⟩
    have e6 := F.called_set.init.lookup
    have e7 := F.called_set.init.bind (.ref s.heap.objs.size)
    repeat (any_goals (first | assumption | wp_step))
    refine codeAny_mono (codeAny_call_builtin (R := wants (fun r s₂ => r = .none ∧ ∃ h' tk c, s₂ = { s with heap := h', toks := tk } ∧ SetR w h' s.heap.objs.size (fun j => decide (j ∈ ns)) c ∧ ∀ b o, s.heap.get? b = some o → h'.get? b = some o) E)
      F.called_set.init.plain F.entry_set_init (check_set_init_1 gT ?_)) fun r₂ s₂ hr₂ => ?_
    · obtain ⟨⟨ocls, odict, odata, oslots⟩, hol, hc, nl, hd⟩ := hl
      simp only at hc hd
      subst hc; subst hd
      have hol' : (s.heap.push (setNu w)).get? l = some { cls := .type "list", dict := odict, data := .seq vs nl, slots := oslots } := Heap.get?_push_of_some _ hol
      have e8 := F.sub_list_set
      have e9 := F.sub_list_frozenset
      have e10 : (Value.type "list" == Value.type "dict") = false := by decide
      have hl1 : (s.heap.push (setNu w)).IsList l vs := ⟨_, hol', rfl, nl, rfl⟩
      unfold Builtin.«set.__init__» noKeywords Builtin.Frozenset.updateFrom
      generalize hPI : pyIter = PI
      wp_walk
      subst hPI
      refine wpAny_pyIter_list hl1 (wpAny_bind (wpAny_runValue ?_))
      have lt : l < s.heap.objs.size := Heap.lt_size hol
      have hA3 : A.in1.in1.in1.handled = none := by simp [hA]
      have z1 : (s.heap.push (setNu w)).objs.size = s.heap.objs.size + 1 := Heap.size_push ..
      have ne1 : l ≠ (s.heap.push (setNu w)).objs.size := by rw [z1]; exact Nat.ne_of_lt (Nat.lt_succ_of_lt lt)
      have nS : s.heap.objs.size ∉ [(s.heap.push (setNu w)).objs.size, l] := by
        rw [z1]; simp only [List.mem_cons, List.not_mem_nil, or_false, not_or]
        exact ⟨Nat.ne_of_lt (Nat.lt_succ_self _), Nat.ne_of_gt lt⟩
      refine set_update_ints ((Walks.list hA3 _ l ne1 vs).toS) s.heap.objs.size nS ns hlen hb (fun i v hi => ?_) (vs.size - 0) 0 _ (by omega) (Nat.zero_le _)
        ⟨⟨_, Heap.get?_push_size _ rfl, rfl, rfl⟩, (hl1.push _)⟩ ⟨0, Nat.le_refl 0, setR_new_at (Heap.get?_push_of_some _ gS)⟩ fun s' c' hm hc' hS' => ?_
      · have lt2 : i < ns.length := by rw [← hlen]; exact (Array.getElem?_eq_some_iff.mp hi).1
        obtain ⟨t, e⟩ := hv.int_at i v (by rw [Array.getElem?_toList]; exact hi)
        refine ⟨ns[i], t, List.getElem?_eq_getElem lt2, ?_⟩
        rw [e, List.getD_eq_getElem?_getD, List.getElem?_eq_getElem lt2]; rfl
      · obtain ⟨h', g2, d', tk', os'⟩ := s'
        have eg : g2 = s.gens := hm.gens
        have ed : d' = s.drawn := hm.drawn
        have eo : os' = s.os := hm.os
        subst eg; subst ed; subst eo
        show wpAny _ _ _ _ _ _
        refine wpAny_pure ?_
        show wpAny _ _ (ret Value.none) _ _ _
        refine wpAny_pure ⟨rfl, h', tk', c', rfl, hS', fun b o e => ?_⟩
        have lb : b < s.heap.objs.size := Heap.lt_size e
        refine hm.heap b o ?_ (Heap.get?_push_of_some _ (Heap.get?_push_of_some _ e))
        rw [z1]; simp only [List.mem_cons, List.not_mem_nil, or_false, not_or]
        exact ⟨Nat.ne_of_lt lb, Nat.ne_of_lt (Nat.lt_succ_of_lt lb)⟩
    · match r₂, hr₂ with
      | .error e, hr₂ => exact hr₂
      | .ok (.ret r), hr₂ =>
        obtain ⟨rfl, h', tk, c', rfl, hS', hk'⟩ := hr₂
        repeat (any_goals (first | assumption | wp_step))
        exact h _ _ _ hS' hk'
end
def insU (x : Int) : List Int → List Int
  | [] => [x]
  | y :: r => if x < y then x :: y :: r else if x = y then y :: r else y :: insU x r
def sortU : List Int → List Int
  | [] => []
  | x :: r => insU x (sortU r)
theorem mem_insU (x y : Int) : ∀ l, y ∈ insU x l ↔ y = x ∨ y ∈ l
  | [] => by simp [insU]
  | z :: r => by
    unfold insU
    split
    · simp
    · split
      · rename_i e; subst e; simp
      · simp only [List.mem_cons, mem_insU x y r]
        constructor
        · rintro (h | h | h)
          · exact .inr (.inl h)
          · exact .inl h
          · exact .inr (.inr h)
        · rintro (h | h | h)
          · exact .inr (.inl h)
          · exact .inl h
          · exact .inr (.inr h)
theorem mem_sortU {y : Int} : ∀ {l}, y ∈ sortU l ↔ y ∈ l
  | [] => by simp [sortU]
  | x :: r => by unfold sortU; rw [mem_insU, mem_sortU (l := r), List.mem_cons]
theorem insU_pw (x : Int) : ∀ l : List Int, l.Pairwise (· < ·) → (insU x l).Pairwise (· < ·)
  | [], _ => List.pairwise_singleton _ _
  | z :: r, h => by
    obtain ⟨h1, h2⟩ := List.pairwise_cons.mp h
    unfold insU
    split
    · rename_i c
      exact List.pairwise_cons.mpr ⟨fun y hy => by
        rcases List.mem_cons.mp hy with rfl | hy
        · exact c
        · exact Int.lt_trans c (h1 y hy), h⟩
    · split
      · exact h
      · rename_i c1 c2
        refine List.pairwise_cons.mpr ⟨fun y hy => ?_, insU_pw x r h2⟩
        rcases (mem_insU x y r).mp hy with rfl | hy
        · omega
        · exact h1 y hy
theorem sortU_pw : ∀ l, (sortU l).Pairwise (· < ·)
  | [] => .nil
  | x :: r => insU_pw x _ (sortU_pw r)
theorem setR_size {w : World} {h : Heap} {a : Addr} {ns : List Int} {c : Nat} (R : SetR w h a (fun j => decide (j ∈ ns)) c) : c = (sortU ns).length := by
  obtain ⟨o, es, ep, t, _, _, _, _, hn, hm, _, _, hz, _⟩ := R
  have hp : (es.toList.map keyOf).Perm (sortU ns) := (List.perm_ext_iff_of_nodup hn ((sortU_pw ns).imp (fun h => by omega))).mpr fun k => by
    rw [← hm k, mem_sortU]; simp
  have := hp.length_eq
  rw [List.length_map, Array.length_toList] at this
  omega
/-- set(..) of a list or a tuple of numbers -/
def rSetOI (K : PySem.W.Frag) (w : World) : List V → Hp → VK → Prop := fun xs H Q => ∃ (l : Addr) (ns : List Int), xs = [V.ref l] ∧ (SqL K H l (ns.map V.int) ∨ SqT K H l (ns.map V.int)) ∧ ns.length ≤ 1000 ∧
  ∀ p, H p = none → Q (.ref p) (upd H p (SetO w p (fun j => decide (j ∈ ns)) (sortU ns).length))
section
variable {X : Cx}
theorem cr_setOI (hc : X.calm = true) : CallR X (.type "set") (rSetOI X.K X.w) := by
  intro pins s σ H xs us Q I r h
  obtain ⟨l, ns, rfl, hs, hz, q⟩ := h
  rw [Vals.ref1 r]
  have fin : ∀ (h' : Heap) (tk c : Nat), SetR X.w h' s.heap.objs.size (fun j => decide (j ∈ ns)) c → (∀ b o, s.heap.get? b = some o → h'.get? b = some o) →
      ∃ x H', Inv X pins σ H' { s with heap := h', toks := tk } ∧ RelV x (.ref s.heap.objs.size) ∧ Q x H' := fun h' tk c R k => by
    have e := setR_size R
    subst e
    exact ⟨.ref _, upd H s.heap.objs.size (SetO X.w s.heap.objs.size (fun j => decide (j ∈ ns)) (sortU ns).length), I.laid (t' := tk) k (Nat.le_refl _) (setO_new R), rfl, q _ (I.hok.fresh (Nat.le_refl _))⟩
  rcases hs with hs | hs
  · obtain ⟨its, rv, pl, _⟩ := I.list hs
    exact set_of_ints ns (I.ok.hd hc) pl.isList rv.ints (by unfold scanBound; omega) fin
  · obtain ⟨its, rv, pl, _⟩ := I.tuple hs
    exact call_set_tupI ns (I.ok.hd hc) (show s.heap.IsTuple l its.toArray from pl) rv.ints (by unfold scanBound; omega) fun h' tk c R _ k => fin h' tk c R k
def setI : D → Option (List Int)
  | .lst ds => match intsOf ds with | some is => if is.length ≤ 1000 then some (sortU is) else none | none => none
  | .tup ds => match intsOf ds with | some is => if is.length ≤ 1000 then some (sortU is) else none | none => none
  | _ => none
def opLenSet (x : D) : Option D := match setI x with
  | some is => some (.int is.length)
  | none => none
/-- len of a set -/
def rLenSet (w : World) : List V → Hp → VK → Prop := fun vs H Q => ∃ (a : Addr) (S : Int → Bool) (n : Nat), vs = [V.ref a] ∧ H a = some (SetO w a S n) ∧ Q (.int n) H
theorem cr_lenSet : CallR X (.builtin "len") (rLenSet X.w) := by
  intro pins s σ H vs us Q I r h
  obtain ⟨a, S, n, rfl, ha, q⟩ := h
  obtain ⟨o, es, ep, t, ho, hex, hd, _, _, _, hb, hf, hn, _⟩ := setO_get I ha
  rw [Vals.ref1 r]
  subst hn
  refine call_len_set ho hex hd hf (by unfold scanBound at hb; omega) ?_
  exact ⟨.int _, H, (I.tok _).tok _, ⟨_, rfl⟩, q⟩
def rThen (r0 r1 : List V → Hp → VK → Prop) : List V → Hp → VK → Prop := fun xs H Q => r0 xs H fun y H1 => r1 [y] H1 Q
variable {g : G} {W : WX} {P : Par} {σ : L2.St} {H F : Hp} {st : DSt} {e : Expr} {f : Den D}
theorem setI_at {H F : Hp} {v : V} {d : D} {is : List Int} (le : Same F H) (rd : Br g F H v d) (hz : setI d = some is) : ∃ (l : Addr) (ns : List Int), v = .ref l ∧ (SqL g.K H l (ns.map V.int) ∨ SqT g.K H l (ns.map V.int)) ∧ ns.length ≤ 1000 ∧ is = sortU ns := by
  cases d with
  | lst ds =>
    unfold setI at hz
    cases hi : intsOf ds with
    | none => simp only [hi] at hz; cases hz
    | some ns =>
      simp only [hi] at hz
      split at hz
      · rename_i hl
        cases hz
        have := intsOf_eq hi
        subst this
        obtain ⟨a, vs, rfl, h1, r1⟩ := rd.lst le
        have := r1.ints
        subst this
        exact ⟨a, ns, rfl, .inl (sqL_of h1), hl, rfl⟩
      · cases hz
  | tup ds =>
    unfold setI at hz
    cases hi : intsOf ds with
    | none => simp only [hi] at hz; cases hz
    | some ns =>
      simp only [hi] at hz
      split at hz
      · rename_i hl
        cases hz
        have := intsOf_eq hi
        subst this
        obtain ⟨a, vs, rfl, h1, r1⟩ := rd.tup le
        have := r1.ints
        subst this
        exact ⟨a, ns, rfl, .inr h1, hl, rfl⟩
      · cases hz
  | non => cases hz
  | bl _ => cases hz
  | int _ => cases hz
  | str _ => cases hz
  | ins _ _ _ => cases hz
  | scr _ => cases hz
theorem vo_lenSet {w : World} : VOC g (rThen (rSetOI g.K w) (rLenSet w)) opLenSet := by
  intro H F v d z le rd hz Q q
  unfold opLenSet at hz
  cases hi : setI d with
  | none => rw [hi] at hz; cases hz
  | some is =>
    rw [hi] at hz
    cases hz
    obtain ⟨l, ns, rfl, hs, hn, rfl⟩ := setI_at le rd hi
    exact ⟨l, ns, rfl, hs, hn, fun p hp => ⟨p, _, _, rfl, upd_same, q _ _ _ (Grow.new0 le hp) (.int _)⟩⟩
end
end DL
namespace DL
open PySem PySem.Spec PyProof.Rows L2
section
variable {X : Cx} {g : G} {W : WX} {e : Expr} {f : Den D} {r0 r1 : List V → Hp → VK → Prop} {i : Nat}
theorem evc12 {op : D → Option D} (vo : VOC g (rThen r0 r1) op) (he : PE X e (tCB r1 (tCons (tCB r0 (tCons (tE g W f) tNil)) tNil))) : PE X e (tE g W (dOp1 op f)) := evc1 (r := rThen r0 r1) vo he
end
section
variable {X : Cx}
@[simp] def dExtend (i : Nat) (f : Den D) : Den D := bindD (dOw i) fun _ => bindD f fun y => mutD i fun ds => match y with
  | .tup es => if ds.length + es.length ≤ big then some (.non, ds ++ es) else none
  | _ => none
variable {g : G} {W : WX} {e : Expr} {f : Den D}
end
def pLenSet (xs : List Int) : M Int := if xs.length ≤ 1000 then .ok (sortU xs).length else .stuck
theorem op_lenSetL {xs : List Int} : OP (opLenSet (eL eI xs)) (pLenSet xs) eI := by
  unfold pLenSet
  have e : setI (eL eI xs) = if xs.length ≤ 1000 then some (sortU xs) else none := by
    show (match intsOf (xs.map eI) with | some is => if is.length ≤ 1000 then some (sortU is) else none | none => none) = _
    rw [show intsOf (xs.map eI) = some xs from intsOf_map _]
  by_cases h : xs.length ≤ 1000
  · rw [if_pos h]
    show opLenSet _ = some _
    unfold opLenSet
    rw [e, if_pos h]
  · rw [if_neg h]; trivial
end DL
namespace DL
open PySem PySem.Spec PyProof.Rows L2
def preSt (i : Nat) (st : DSt) : DSt := match st[i]? with
  | some (.ow ds) => st.set i (.sh (.lst ds))
  | some (.o2 dss) => st.set i (.sh (.lst (dss.map .lst)))
  | _ => st
def dPre {α : Type} (i : Nat) (f : Den α) : Den α := fun st => f (preSt i st)
section
variable {X : Cx} {g : G} {W : WX} {P : Par} {σ : L2.St} {H F : Hp} {st : DSt} {e : Expr}
theorem SR.pre {i : Nat} (s : SR g P σ H F st) : ∃ F', Same F F' ∧ SR g P σ H F' (preSt i st) := by
  unfold preSt
  split
  · rename_i ds h
    obtain ⟨a, F', _, h2, _, h4⟩ := s.freeze h
    exact ⟨F', h2, h4⟩
  · rename_i dss h
    obtain ⟨a, F', _, h2, _, h4⟩ := s.freeze2 h
    exact ⟨F', h2, h4⟩
  · exact ⟨F, Same.refl _, s⟩
theorem ev_pre {i : Nat} {f : Den (List D)} (he : PE X e (tN g W f)) : PE X e (tN g W (dPre i f)) := he.imp fun σ H Q ⟨P, F, st, s, o⟩ => by
  obtain ⟨F', h1, h2⟩ := s.pre (i := i)
  exact ⟨P, F', preSt i st, h2, OutN.weak h1 o⟩
end
section
variable {α β δ : Type} {f : Den δ} {st st1 st2 : DSt} {i : Nat}
theorem re_pre {o : M α} {v : α → δ} (e : preSt i st = st1) (h : RE f st1 o v st2) : RE (dPre i f) st o v st2 := by subst e; exact h
theorem pre_fz {z : Bool} {ds : List D} (h : st[i]? = some (fz z ds)) : preSt i st = st.set i (.sh (.lst ds)) := by
  cases z with
  | true => unfold preSt; rw [h]; rfl
  | false =>
    unfold preSt; rw [h]
    show st = st.set i (.sh (.lst ds))
    have hi : i < st.length := (List.getElem?_eq_some_iff.mp h).1
    have e : st[i] = .sh (.lst ds) := (List.getElem?_eq_some_iff.mp h).2
    rw [← e, List.set_getElem_self]
end
end DL
namespace DL
open PySem PySem.Calls PySem.Spec PyProof.Rows L2
end DL
namespace DL
open PySem PySem.Spec PyProof.Rows L2
@[simp] def isLT : D → Option Unit
  | .lst _ => some ()
  | .tup _ => some ()
  | _ => none
@[simp] def opIndexT (x y : D) : Option D := match x with
  | .tup ds => if flatD y && ds.all flatD then (match ixF (fun z => eqF z y) 0 ds with | some j => some (.int (j : Nat)) | none => none) else none
  | _ => none
@[simp] def opIndexA (k x y : D) : Option D := match k with
  | .lst _ => opIndex x y
  | .tup _ => opIndexT x y
  | _ => none
@[simp] def dIndexA (f h : Den D) : Den D := bindD f fun x => bindD (liftO (isLT x)) fun _ => bindD h fun y => liftO (opIndexA x x y)
@[simp] def dIndexAN (i : Nat) (h : Den D) : Den D := bindD (dRd i) fun k => bindD (liftO (isLT k)) fun _ => bindD h fun y => bindD (dRd i) fun x => liftO (opIndexA k x y)
end DL
namespace DL
open PySem PySem.Spec PyProof.Rows L2
section
variable {κ κ' : Type} [DecidableEq κ] [DecidableEq κ']
def getA {α : Type} (kvs : List (κ × α)) (k : κ) : Option α := (kvs.find? fun p => decide (p.1 = k)).map Prod.snd
def putA {α : Type} (kvs : List (κ × α)) (k : κ) (v : α) : List (κ × α) := if (kvs.any fun p => decide (p.1 = k)) = true then kvs.map (fun p => if p.1 = k then (p.1, v) else p) else kvs ++ [(k, v)]
variable {g : G} {F : Hp} {f : κ → κ'} (inj : ∀ a b, f a = f b → a = b)
end
theorem _root_.L2.PC.imp {X : Cx} {op : CmpOp} {a b : Expr} {t t' : TE} (h : PC X op a b t) (i : ∀ σ H Q, t' σ H Q → t σ H Q) : PC X op a b t' := ⟨fun pins s σ H Q I q => h.run pins s σ H Q I (i σ H Q q)⟩
@[simp] def keyK : D → Option Int
  | .int i => some i
  | _ => none
@[simp] def keyT : D → Option (List Int)
  | .tup ds => intsOf ds
  | _ => none
@[simp] def kdK (i : Int) : D := .int i
@[simp] def kdT (ks : List Int) : D := .tup (ks.map .int)
theorem nox {α : Type} {r : Res α} : True := trivial
section
variable {X : Cx} {g : G} {W : WX} {P : Par} {σ : L2.St} {H F : Hp} {st : DSt} {e : Expr} {s : Stmt} {ss : List Stmt} {f h : Den D}
/-- the dict in slot i -/
@[simp] def dDK (i : Nat) : Den (List (Int × D)) := fun st => match st[i]? with
  | some (.dk kvs) => .ok kvs st
  | some (.lk kvs) => .ok kvs st
  | _ => .stuck
@[simp] def dOK (i : Nat) : Den (List (Int × D)) := fun st => match st[i]? with
  | some (.dk kvs) => .ok kvs st
  | _ => .stuck
theorem rdK {i : Nat} {kvs : List (Int × D)} {st' : DSt} (s : SR g P σ H F st) (h : dDK i st = .ok kvs st') : st' = st ∧ ∃ a vs, σ[i]? = some (some (.ref a)) ∧ Rd H a (hK kvs vs) ∧ Rl g F vs (kvs.map Prod.snd) := by
  unfold dDK at h
  split at h
  · rename_i kvs hd
    cases h
    obtain ⟨ov, hov⟩ := SRc.nth s hd
    obtain ⟨O, c⟩ := id s
    obtain ⟨a, vs, rfl, ho, hn, ha, r⟩ := c.sl i _ _ hd hov
    exact ⟨rfl, a, vs, hov, .inl ha, r⟩
  · rename_i kvs hd
    cases h
    obtain ⟨ov, hov⟩ := SRc.nth s hd
    obtain ⟨O, c⟩ := id s
    obtain ⟨a, od, vs, rfl, ha, r⟩ := c.sl i _ _ hd hov
    exact ⟨rfl, a, vs, hov, .inr ⟨od, c.le _ _ ha⟩, r⟩
  · cases h
theorem Out.dK {i : Nat} {α : Type} {kk : List (Int × D) → Den α} {K : α → DSt → Hp → Hp → Prop} (s : SR g P σ H F st) (o : Out g W P σ F (bindD (dDK i) kk st) K) :
    ∃ a kvs vs, σ[i]? = some (some (.ref a)) ∧ Rd H a (hK kvs vs) ∧ Rl g F vs (kvs.map Prod.snd) ∧ Out g W P σ F (kk kvs st) K := by
  unfold bindD at o
  cases e : dDK i st with
  | ok d st' =>
    rw [e] at o
    obtain ⟨rfl, a, vs, h1, h2, h3⟩ := rdK s e
    exact ⟨a, d, vs, h1, h2, h3, o⟩
  | exn c fs st' => unfold dDK at e; split at e <;> cases e
  | stuck => rw [e] at o; exact o.elim
@[simp] def sDNewK (i : Nat) : DS := putD i (.dk [])
@[simp] def dDgetK (i : Nat) (f : Den D) : Den D := bindD (dDK i) fun _ => bindD f fun y => bindD (dDK i) fun kvs => liftO (match keyK y with | some k => getA kvs k | none => none)
@[simp] def dDinK (n : Bool) (i : Nat) (f : Den D) : Den D := bindD f fun y => bindD (dDK i) fun kvs => liftO (match keyK y with | some k => some (.bl (if n then !(getA kvs k).isSome else (getA kvs k).isSome)) | none => none)
@[simp] def dDgdK (i : Nat) (f h : Den D) : Den D := bindD (dDK i) fun _ => bindD f fun y => bindD h fun z => bindD (dDK i) fun kvs => liftO (match keyK y with | some k => some ((getA kvs k).getD z) | none => none)
@[simp] def dDlenK (i : Nat) : Den D := bindD (dOK i) fun kvs => retD (.int kvs.length)
@[simp] def sDPutK (i : Nat) (k v : Den D) : DS := bindD v fun x => bindD (dDK i) fun _ => bindD k fun y => bindD (dOK i) fun kvs => match keyK y with
  | some q => if kvs.length < big then putD i (.dk (putA kvs q x)) else fun _ => .stuck
  | none => fun _ => .stuck
end
section
variable {X : Cx} {g : G} {W : WX} {P : Par} {σ : L2.St} {H F : Hp} {st : DSt} {e : Expr} {s : Stmt} {ss : List Stmt} {f h : Den D}
/-- the dict in slot i -/
@[simp] def dDT (i : Nat) : Den (List (List Int × D)) := fun st => match st[i]? with
  | some (.dt kvs) => .ok kvs st
  | some (.lt kvs) => .ok kvs st
  | _ => .stuck
@[simp] def dOT (i : Nat) : Den (List (List Int × D)) := fun st => match st[i]? with
  | some (.dt kvs) => .ok kvs st
  | _ => .stuck
theorem rdT {i : Nat} {kvs : List (List Int × D)} {st' : DSt} (s : SR g P σ H F st) (h : dDT i st = .ok kvs st') : st' = st ∧ ∃ a vs, σ[i]? = some (some (.ref a)) ∧ Rd H a (hT kvs vs) ∧ Rl g F vs (kvs.map Prod.snd) := by
  unfold dDT at h
  split at h
  · rename_i kvs hd
    cases h
    obtain ⟨ov, hov⟩ := SRc.nth s hd
    obtain ⟨O, c⟩ := id s
    obtain ⟨a, vs, rfl, ho, hn, ha, r⟩ := c.sl i _ _ hd hov
    exact ⟨rfl, a, vs, hov, .inl ha, r⟩
  · rename_i kvs hd
    cases h
    obtain ⟨ov, hov⟩ := SRc.nth s hd
    obtain ⟨O, c⟩ := id s
    obtain ⟨a, od, vs, rfl, ha, r⟩ := c.sl i _ _ hd hov
    exact ⟨rfl, a, vs, hov, .inr ⟨od, c.le _ _ ha⟩, r⟩
  · cases h
theorem Out.dT {i : Nat} {α : Type} {kk : List (List Int × D) → Den α} {K : α → DSt → Hp → Hp → Prop} (s : SR g P σ H F st) (o : Out g W P σ F (bindD (dDT i) kk st) K) :
    ∃ a kvs vs, σ[i]? = some (some (.ref a)) ∧ Rd H a (hT kvs vs) ∧ Rl g F vs (kvs.map Prod.snd) ∧ Out g W P σ F (kk kvs st) K := by
  unfold bindD at o
  cases e : dDT i st with
  | ok d st' =>
    rw [e] at o
    obtain ⟨rfl, a, vs, h1, h2, h3⟩ := rdT s e
    exact ⟨a, d, vs, h1, h2, h3, o⟩
  | exn c fs st' => unfold dDT at e; split at e <;> cases e
  | stuck => rw [e] at o; exact o.elim
@[simp] def sDNewT (i : Nat) : DS := putD i (.dt [])
@[simp] def dDgetT (i : Nat) (f : Den D) : Den D := bindD (dDT i) fun _ => bindD f fun y => bindD (dDT i) fun kvs => liftO (match keyT y with | some k => getA kvs k | none => none)
@[simp] def dDinT (n : Bool) (i : Nat) (f : Den D) : Den D := bindD f fun y => bindD (dDT i) fun kvs => liftO (match keyT y with | some k => some (.bl (if n then !(getA kvs k).isSome else (getA kvs k).isSome)) | none => none)
@[simp] def dDgdT (i : Nat) (f h : Den D) : Den D := bindD (dDT i) fun _ => bindD f fun y => bindD h fun z => bindD (dDT i) fun kvs => liftO (match keyT y with | some k => some ((getA kvs k).getD z) | none => none)
@[simp] def dDlenT (i : Nat) : Den D := bindD (dOT i) fun kvs => retD (.int kvs.length)
@[simp] def sDPutT (i : Nat) (k v : Den D) : DS := bindD v fun x => bindD (dDT i) fun _ => bindD k fun y => bindD (dOT i) fun kvs => match keyT y with
  | some q => if kvs.length < big then putD i (.dt (putA kvs q x)) else fun _ => .stuck
  | none => fun _ => .stuck
end
end DL
namespace DL
open PySem PySem.Spec PyProof.Rows L2
section
variable {g : G} {P : Par} {σ : L2.St} {H F F' : Hp} {st : DSt}
mutual
theorem Rv.dropA {a : Addr} (ht : g.tk = false) (n1 : ∀ vs, F a ≠ some (.lst vs)) (n2 : ∀ vs, F a ≠ some (.tup vs)) (n3 : ∀ C d fs, F a ≠ some (.ins C d fs)) (n4 : ∀ o vs, F a ≠ some (.frz o (.lst vs))) (e : ∀ x o, x ≠ a → F x = some o → F' x = some o) : ∀ {v : V} {d : D}, Rv g F v d → Rv g F' v d
  | _, _, .non => .non
  | _, _, .bl b => .bl b
  | _, _, .int b => .int b
  | _, _, .str b => .str b
  | _, _, .lst q r => .lst (e _ _ (fun z => n1 _ (by rw [← z]; exact q)) q) (Rl.dropA ht n1 n2 n3 n4 e r)
  | _, _, .tup q k r => by
    unfold TkP at k
    rw [ht] at k
    have k : F _ = some (.tup _) := k
    have k' := e _ _ (fun z => n2 _ (by rw [← z]; exact k)) k
    exact .tup (.inl (.inl k')) (by unfold TkP; rw [ht]; exact k') (Rl.dropA ht n1 n2 n3 n4 e r)
  | _, _, .ins q m l r => .ins (e _ _ (fun z => n3 _ _ _ (by rw [← z]; exact q)) q) m l (Rl.dropA ht n1 n2 n3 n4 e r)
  | _, _, .scr h => .scr (by
    rcases h with (h | ⟨o, h⟩) | h
    · exact .inl (.inl (e _ _ (fun z => n1 _ (by rw [← z]; exact h)) h))
    · exact .inl (.inr ⟨o, e _ _ (fun z => n4 _ _ (by rw [← z]; exact h)) h⟩)
    · exact .inr h)
theorem Rl.dropA {a : Addr} (ht : g.tk = false) (n1 : ∀ vs, F a ≠ some (.lst vs)) (n2 : ∀ vs, F a ≠ some (.tup vs)) (n3 : ∀ C d fs, F a ≠ some (.ins C d fs)) (n4 : ∀ o vs, F a ≠ some (.frz o (.lst vs))) (e : ∀ x o, x ≠ a → F x = some o → F' x = some o) : ∀ {vs : List V} {ds : List D}, Rl g F vs ds → Rl g F' vs ds
  | _, _, .nil => .nil
  | _, _, .cons r t => .cons (Rv.dropA ht n1 n2 n3 n4 e r) (Rl.dropA ht n1 n2 n3 n4 e t)
end
end
def noLk : Slot → Bool
  | .lk _ => false
  | .lt _ => false
  | .xc _ _ _ => false
  | _ => true
/-- no number, no text, no class: the thing that a lock lays there -/
structure Lkd (F : Hp) (a : Addr) : Prop where
  n1 : ∀ vs, F a ≠ some (.lst vs)
  n2 : ∀ vs, F a ≠ some (.tup vs)
  n3 : ∀ C d fs, F a ≠ some (.ins C d fs)
  n4 : ∀ o vs, F a ≠ some (.frz o (.lst vs))
section
variable {g : G} {P : Par} {O : Addr → Option Nat} {σ : L2.St} {H F F' H' : Hp} {st : DSt}
theorem SlotOk.drop {a : Addr} {O' : Addr → Option Nat} {i : Nat} {s : Slot} {ov : Option V} (ht : g.tk = false) (L : Lkd F a) (ha : O a = none) (e : ∀ x o, x ≠ a → F x = some o → F' x = some o) (eh : ∀ x o, x ≠ a → H x = some o → H' x = some o)
    (hO : ∀ b, O b = some i → O' b = some i) (hs : noLk s = true) (h : SlotOk g P O F H i s ov) : SlotOk g P O' F' H' i s ov := by
  have ne : ∀ {b}, O b = some i → b ≠ a := fun o z => by rw [z, ha] at o; cases o
  have rv : ∀ {v d}, Rv g F v d → Rv g F' v d := fun r => r.dropA ht L.n1 L.n2 L.n3 L.n4 e
  have rl : ∀ {vs ds}, Rl g F vs ds → Rl g F' vs ds := fun r => r.dropA ht L.n1 L.n2 L.n3 L.n4 e
  cases s with
  | no => trivial
  | sh d => obtain ⟨v, e1, r⟩ := h; exact ⟨v, e1, rv r⟩
  | ow ds => obtain ⟨b, vs, e1, o, n, h1, r⟩ := h; exact ⟨b, vs, e1, hO b o, n, eh _ _ (ne o) h1, rl r⟩
  | rf k ds => obtain ⟨b, vs, e1, b1, o, h1, r⟩ := h; exact ⟨b, vs, e1, b1, hO b o, eh _ _ (ne o) h1, rl r⟩
  | oi k c ns ds => obtain ⟨b, C, dx, vs, e1, b1, o, m, l, h1, r⟩ := h; exact ⟨b, C, dx, vs, e1, b1, hO b o, m, l, eh _ _ (ne o) h1, rl r⟩
  | xc c nm x => cases hs
  | gy ds => obtain ⟨vs, r⟩ := h; exact ⟨vs, rl r⟩
  | dk kvs => obtain ⟨b, vs, e1, o, n, h1, r⟩ := h; exact ⟨b, vs, e1, hO b o, n, eh _ _ (ne o) h1, rl r⟩
  | dt kvs => obtain ⟨b, vs, e1, o, n, h1, r⟩ := h; exact ⟨b, vs, e1, hO b o, n, eh _ _ (ne o) h1, rl r⟩
  | lk kvs => cases hs
  | lt kvs => cases hs
  | o2 dss =>
    obtain ⟨b, bs, e1, o, n, h1, nd, na, l, r⟩ := h
    refine ⟨b, bs, e1, hO b o, n, eh _ _ (ne o) h1, nd, na, l, fun j b' ds e2 e3 => ?_⟩
    obtain ⟨o', n', vs, h2, r2⟩ := r j b' ds e2 e3
    exact ⟨hO b' o', n', vs, eh _ _ (ne o') h2, rl r2⟩
end
end DL
namespace DL
open PySem PySem.Spec PyProof.Rows L2
section
variable {X : Cx} {g : G} {W : WX} {P : Par} {σ : L2.St} {H F : Hp} {st : DSt} {s : Stmt} {k v : Den D}
def dispDK (i : Nat) (x y : D) : DS := match keyK x with
  | some q => putD i (.dk [(q, y)])
  | none => fun _ => .stuck
@[simp] def sDispK (i : Nat) (k v : Den D) : DS := bindD k fun x => bindD v fun y => dispDK i x y
end
section
variable {X : Cx} {g : G} {W : WX} {P : Par} {σ : L2.St} {H F : Hp} {st : DSt} {s : Stmt} {k v : Den D}
def dispDT (i : Nat) (x y : D) : DS := match keyT x with
  | some q => putD i (.dt [(q, y)])
  | none => fun _ => .stuck
@[simp] def sDispT (i : Nat) (k v : Den D) : DS := bindD k fun x => bindD v fun y => dispDT i x y
end
end DL
namespace DL
open PySem PySem.Spec PyProof.Rows L2
end DL
namespace DL
open PySem PySem.Spec PyProof.Rows L2
@[simp] def dPeekB (f : Den Bool) : Den Bool := fun st => match f (st.map frzS) with
  | .ok b _ => .ok b st
  | _ => .stuck
end DL
namespace DL
open PySem PySem.Spec PyProof.Rows L2
def signs (z : Str) : List Str := z.cps.toList.map fun c => ⟨#[c]⟩
@[simp] def strItems : D → Option (List D)
  | .str z => some ((signs z).map D.str)
  | _ => none
@[simp] def dStrItems (f : Den D) : Den (List D) := bindD f fun d => liftO (strItems d)
@[simp] def opSlS (d : D) (lo hi : Option Int) : Option D := match d with
  | .str z => if z.length ≤ big then some (.str (cutS z lo hi)) else none
  | _ => none
@[simp] def dSlS (a : Den D) (lo hi : Den (Option Int)) : Den D := bindD a fun x => bindD lo fun l => bindD hi fun u => liftO (opSlS x l u)
@[simp] def isStrD : D → Option Unit
  | .str _ => some ()
  | _ => none
@[simp] def opIndexS : D → D → Option D
  | .str a, .str b => match Builtin.Str.occurrences a b 0 a.length 1 with
    | i :: _ => some (.int (i : Nat))
    | [] => none
  | _, _ => none
@[simp] def dIndexS (f h : Den D) : Den D := bindD f fun x => bindD (liftO (isStrD x)) fun _ => bindD h fun y => liftO (opIndexS x y)
end DL
namespace DL
open PySem PySem.Spec PyProof.Rows L2
@[simp] def dApp2 (i : Nat) (e1 e : Den D) : Den D := bindD (dO2 i) fun _ => bindD e1 fun k1 => bindD (dO2 i) fun dss => bindD (liftO (rowAt dss k1)) fun r => bindD (hideD i) fun _ => bindD (noX e) fun v =>
  bindD (liftO (if r.2.length < big then some () else none)) fun _ => bindD (backO i (dss.set r.1 (r.2 ++ [v]))) fun _ => retD .non
end DL
namespace DL
open PySem PySem.Spec PyProof.Rows L2
end DL
namespace DL
open PySem PySem.Spec PyProof.Rows L2
end DL
namespace DL
open PySem PySem.Spec PyProof.Rows L2
end DL
namespace DL
open PySem PySem.Spec PyProof.Rows L2
@[simp] def strsOf : List D → Option (List Str)
  | [] => some []
  | .str z :: r => (strsOf r).map (z :: ·)
  | _ :: _ => none
def joinFit (a : Str) (ys : List Str) : Bool := decide ((ys.map (·.length)).sum + ys.length * a.length ≤ 16777216)
@[simp] def opJoin : D → D → Option D
  | .str a, .lst ds => match strsOf ds with
    | some ys => if joinFit a ys = true then some (.str (Txt.join a ys)) else none
    | none => none
  | _, _ => none
@[simp] def dJoin (f h : Den D) : Den D := bindD f fun x => bindD (liftO (isStrD x)) fun _ => bindD h fun y => liftO (opJoin x y)
end DL
namespace DL
open PySem PySem.Spec PyProof.Rows L2
end DL
namespace DL
open PySem PySem.Spec PyProof.Rows L2
theorem TupI.at {h h' : Heap} {a t : Addr} {i : Nat} (x : IsTupIter h a t i) (e : ∀ o, h.get? a = some o → h'.get? a = some o) : IsTupIter h' a t i := let ⟨o, ho, r⟩ := x; ⟨o, e _ ho, r⟩
theorem TupA.at {h h' : Heap} {a : Addr} {items : Array Value} (x : IsTup h a items) (e : ∀ o, h.get? a = some o → h'.get? a = some o) : IsTup h' a items := let ⟨o, ho, r⟩ := x; ⟨o, e _ ho, r⟩
section
variable {prog : Program} {w : World} {A : Around} {E : Value → Shared → Prop} {s : Shared}
/-- the enumerate object; fr: what stands in the first two fields -/
abbrev EnumF (h : Heap) (e it : Addr) (i : Int) (f0 f1 old : Value) : Prop :=
  h.get? e = some { cls := .type "enumerate", dict := none, data := .fields #[f0, f1, .ref it, rawInt i, .none, old], slots := #[] }
/-- at turn i of a list that takes all: the first tuple handed out still stands -/
def EnumSt (h : Heap) (e it S : Addr) (i : Nat) : Prop :=
  (i = 0 ∧ ∃ old, EnumF h e it 0 .none (.bool false) old) ∨ ∃ (a : Addr) (b : Bool) (old : Value) (oa : Obj), EnumF h e it i (rawInt a) (.bool b) old ∧ h.get? a = some oa ∧ a ≠ e ∧ a ≠ it ∧ a ≠ S
theorem EnumSt.keep {h h' : Heap} {e it S : Addr} {i : Nat} (x : EnumSt h e it S i) (hk : ∀ b o, b ≠ S → h.get? b = some o → h'.get? b = some o) (hI : e ≠ S) : EnumSt h' e it S i := by
  rcases x with ⟨z, old, q⟩ | ⟨a, b, old, oa, q, ha, h1, h2, h3⟩
  · exact .inl ⟨z, old, hk _ _ hI q⟩
  · exact .inr ⟨a, b, old, oa, hk _ _ hI q, hk _ _ h3 ha, h1, h2, h3⟩
end
end DL
namespace DL
open PySem PySem.Spec PyProof.Rows L2
/-- the pairs made so far -/
structure EnumG (items : Array Value) (lo : Addr) (h : Heap) (as : List Addr) : Prop where
  rise : as.Pairwise (· < ·)
  above : ∀ a ∈ as, lo < a
  pairs : ∀ (j : Nat) (a : Addr), as[j]? = some a → ∃ t x, items[j]? = some x ∧ h.get? a = some { cls := .type "tuple", data := .seq #[.int j t, x] }
section
variable {prog : Program} {w : World} {A : Around} {E : Value → Shared → Prop} {s : Shared} {R : Result → Shared → Prop} {items : Array Value} {e it l S : Addr}
theorem EnumG.lt {lo : Addr} {h : Heap} {as : List Addr} (g : EnumG items lo h as) {a : Addr} (ha : a ∈ as) : a < h.objs.size := by
  obtain ⟨j, hj⟩ := List.mem_iff_getElem?.mp ha
  obtain ⟨_, _, _, q⟩ := g.pairs j a hj
  exact Heap.lt_size q
end
end DL
namespace DL
open PySem PySem.Spec PyProof.Rows L2
def enumD : Nat → List D → List D
  | _, [] => []
  | k, d :: ds => .tup [.int (k : Nat), d] :: enumD (k + 1) ds
@[simp] def enumOp : D → Option (List D)
  | .tup ds => if ds.length ≤ big then some (enumD 0 ds) else none
  | _ => none
@[simp] def dEnumL (f : Den D) : Den (List D) := bindD f fun d => liftO (enumOp d)
end DL
namespace DL
open PySem PySem.Spec PyProof.Rows L2
end DL
namespace DL
open PySem PySem.Spec PyProof.Rows L2
section
variable {prog : Program} {w : World} {A : Around} {E : Value → Shared → Prop} {s : Shared}
/-- tuples of d numbers -/
def TupsL (h : Heap) (d : Nat) (vs : List Value) : Prop := ∀ v, v ∈ vs → ∃ ns, TS.TupInts h v ns ∧ ns.length = d
theorem TupsL.keeps {h h' : Heap} {d : Nat} {vs : List Value} (x : TupsL h d vs) (k : ∀ b o, h.get? b = some o → o.cls = .type "tuple" → h'.get? b = some o) : TupsL h' d vs := fun v hv =>
  let ⟨ns, t, r⟩ := x v hv; ⟨ns, t.keeps k, r⟩
end
end DL
namespace DL
open PySem PySem.Spec PyProof.Rows L2
end DL
namespace DL
open PySem PySem.Spec PyProof.Rows L2
end DL
namespace DL
open PySem PySem.Spec PyProof.Rows L2
end DL
namespace DL
open PySem PySem.Spec PyProof.Rows L2
@[simp] def opIsS (c : Str) : D → Option D
  | .ins c' _ _ => if c' = c then some (.bl false) else none
  | d => opIsi "str" d
end DL
namespace DL
open PySem PySem.Spec PyProof.Rows L2
@[simp] def opRev : D → Option D
  | .lst xs => some (.lst xs.reverse)
  | .tup xs => some (.tup xs.reverse)
  | _ => none
section
variable {X : Cx} {g : G} {W : WX} {e : Expr} {f : Den D}
theorem Rl.reverse {F : Hp} : ∀ {vs : List V} {ds : List D}, Rl g F vs ds → Rl g F vs.reverse ds.reverse
  | [], _, .nil => .nil
  | v :: vs, _, .cons h1 h2 => by
    rw [List.reverse_cons, List.reverse_cons]
    exact (Rl.reverse h2).append (.cons h1 .nil)
end
end DL
namespace DL
open PySem PySem.Spec PyProof.Rows L2
end DL
namespace DL
open PySem PySem.Spec PySem.W PyProof.Rows L2
end DL
namespace DL
open PySem PySem.Spec PyProof.Rows L2 GenW
/-- the code runs till it ends or hands something out; then Z holds -/
def Go1 (m : Model) (A : Around) (Z : End → Shared → Prop) (c : Code) (t : Sem PySem.Fin) (fs : List Frame) (s : Shared) : Prop :=
  ∀ Γ p, Γ.code = c → Γ.Woken A → ∃ e s', Runs m Γ p t fs s e s' ∧ Z e s'
section
variable {m : Model} {A : Around} {Z : End → Shared → Prop} {c : Code} {fs : List Frame} {s : Shared}
theorem go_wrap {α : Type} {t : Sem α} {K : α → Sem PySem.Fin} {J : Value → Sem PySem.Fin} {gd : Bool → Bool} {lv : List Value → List Value}
    (h : wpAny m (A.over c fs) t (fun a s' => Go1 m A Z c (K a) fs s') (fun x s' => Go1 m A Z c (J x) fs s') s) : Go1 m A Z c (t.wrap K J gd lv) fs s := by
  intro Γ p hc hΓ
  subst hc
  refine runs_wrap_of_wp K J gd lv t (h (Γ.over fs) p (hΓ.over fs)) ?_ ?_
  · exact fun a p' s' q => q Γ p' rfl hΓ
  · exact fun x p' s' q => q Γ p' rfl hΓ
theorem go_at {q : Pos} {k : Unit → Sem PySem.Fin} (h : Go1 m A Z c (k ()) fs s) : Go1 m A Z c (.at q k) fs s :=
  go_wrap (t := standAt q) (K := k) (J := Sem.raise) (gd := fun b => b) (lv := fun l => l) (wpAny_standAt h)
theorem go_point {l : List Value} {k : Unit → Sem PySem.Fin} (h : Go1 m A Z c (k ()) fs s) : Go1 m A Z c (.point l k) fs s :=
  go_wrap (t := point) (K := k) (J := Sem.raise) (gd := fun b => b) (lv := fun _ => l) (wpAny_point h)
theorem go_call {c' : Code} {hh : Option Value} {g : Bool} {l : List Value} {k : Result → Sem PySem.Fin} (h : ∀ p, Go1 m A Z c' (m.den c') (.ret k hh g l c p [] :: fs) s) : Go1 m A Z c (.call c' hh g l k) fs s := by
  intro Γ p hc hΓ
  subst hc
  obtain ⟨e, s', r, q⟩ := h p (Γ.goto c') p rfl (hΓ.goto c')
  exact ⟨e, s', runs_call_seg r, q⟩
theorem go_leaf {k : Result → Sem PySem.Fin} {hh : Option Value} {g : Bool} {l : List Value} {c1 : Code} {p1 : Pos} {kp : List Value} (r : Result) (h : Go1 m A Z c1 (k r) fs s) : Go1 m A Z c (leafOf r) (.ret k hh g l c1 p1 kp :: fs) s := by
  intro Γ p hc hΓ
  subst hc
  obtain ⟨e, s', q, z⟩ := h (Γ.goto c1) p1 rfl (hΓ.goto c1)
  exact ⟨e, s', Runs.pop r q, z⟩
theorem go_again {c' : Code} (hq : c'.quiet = true) (h : Go1 m A Z c' (m.den c') fs s) : Go1 m A Z c (.pure (.again c')) fs s := by
  intro Γ p hc hΓ
  subst hc
  obtain ⟨e, s', q, z⟩ := h (Γ.goto c') p rfl (hΓ.goto c')
  exact ⟨e, s', Runs.head (c₁ := c') (fun _ _ x => .again hq x) q, z⟩
theorem go_end (r : Result) (h : Z (.ret r) s) : Go1 m A Z c (leafOf r) [] s := by
  intro Γ p hc _
  subst hc
  exact ⟨_, s, Runs.leaf r, h⟩
theorem go_yield {v : Value} {g : Bool} {l : List Value} {k : Resume → Sem PySem.Fin} (hf : splitAtGen fs = none) (h : ∀ p, Z (.susp v g l k c p fs) s) : Go1 m A Z c (.yield v g l k) fs s := by
  intro Γ p hc _
  subst hc
  exact ⟨_, s, Runs.yield' fs hf, h p⟩
theorem go_mono {Z' : End → Shared → Prop} {t : Sem PySem.Fin} (h : Go1 m A Z c t fs s) (i : ∀ e s, Z e s → Z' e s) : Go1 m A Z' c t fs s := by
  intro Γ p hc hΓ
  obtain ⟨e, s', r, q⟩ := h Γ p hc hΓ
  exact ⟨e, s', r, i e s' q⟩
theorem go_nil {env : Env} {K : Flow → Sem PySem.Fin} {J : Value → Sem PySem.Fin} {gd : Bool → Bool} {lv : List Value → List Value} (h : Go1 m A Z c (K .next) fs s) : Go1 m A Z c ((execs [] env).wrap K J gd lv) fs s := h
theorem go_cons {env : Env} {st : Stmt} {rest : List Stmt} {K : Flow → Sem PySem.Fin} {J : Value → Sem PySem.Fin} {gd : Bool → Bool} {lv : List Value → List Value}
    (h : Go1 m A Z c ((exec st env).wrap (fun f => match f with | .next => (execs rest env).wrap K J gd lv | f => K f) J gd lv) fs s) : Go1 m A Z c ((execs (st :: rest) env).wrap K J gd lv) fs s := by
  rw [execs_cons_wrap]; exact h
end
/-- a generator that stands somewhere goes on -/
def Ready (m : Model) (A : Around) (Z : End → Shared → Prop) (gs : GenState) (s : Shared) : Prop := match gs with
  | .fresh c => Go1 m A Z c (m.den c) [] s
  | .suspended k _ c _ fs _ => Go1 m A Z c (k (.send .none)) fs s
  | _ => False
theorem go_resume {α : Type} {m : Model} {A : Around} {Z : End → Shared → Prop} {E : Value → Shared → Prop} {s : Shared} {g : Nat} {gs : GenState} {l : List Value} {k : GenResult → Sem α} {Q : α → Shared → Prop}
    (hg : s.gens[g]? = some gs) (h : Ready m A Z gs (s.setGen g .running)) (hz : ∀ e s1, Z e s1 → e.quiet = true)
    (hq : ∀ e s1, Z e s1 → wpAny m A (k e.result) Q E (s1.setGen g e.genState)) : wpAny m A (.resume g (.send .none) l k) Q E s := by
  intro Γ p hΓ
  rw [Sem.wp_resume]
  have wk := fun c => hΓ.wake c p
  cases gs with
  | fresh c =>
    obtain ⟨e, s1, r, z⟩ := h (Γ.wake c p) p rfl (wk c)
    refine ⟨_, _, ?_, hq e s1 z Γ p hΓ⟩
    unfold Wakes
    rw [hg]
    exact ⟨e, s1, r, hz e s1 z, rfl, rfl⟩
  | suspended k0 l0 c0 p0 fs0 cl =>
    obtain ⟨e, s1, r, z⟩ := h (Γ.wake c0 p) p0 rfl (wk c0)
    refine ⟨_, _, ?_, hq e s1 z Γ p hΓ⟩
    unfold Wakes
    rw [hg]
    exact ⟨e, s1, r, hz e s1 z, rfl, rfl⟩
  | running => exact h.elim
  | finished => exact h.elim
end DL
namespace DL
open PySem PySem.Spec PyProof.Rows L2 GenW
def hid (n : Nat) (st : DSt) : List D := match st[n]? with | some (.gy ys) => ys | _ => []
def isGy (n : Nat) (st : DSt) : Bool := match st[n]? with | some (.gy _) => true | _ => false
def sYield (n : Nat) (f : Den D) : DS := fun st => match f st with
  | .ok d st1 => if isGy n st1 = true then .ok .nx (st1.set n (.gy (hid n st1 ++ [d]))) else .stuck
  | .exn c fs st1 => .exn c fs st1
  | .stuck => .stuck
def W0 : WX := fun _ _ _ _ => False
/-- what is fixed for one generator -/
structure GF where
  P : Program
  w : World
  env : Env
  A : Around
  Aw : Around
  mem : Cx → Prop
  g : G
  n : Nat
  all : List D
  hP : ∀ X, mem X → X.prog = P
  hw : ∀ X, mem X → X.w = w
  he : ∀ X, mem X → X.env = env
  hA : ∀ X, mem X → X.A = A
  own : ∀ X, mem X → PassesOwn (model X.prog X.w) X.A X.env X.xe
/-- m things are still to come; what was told at the last wake: P, F, X -/
def ZN (T : GF) : Nat → Par → Hp → Cx → End → Shared → Prop
  | 0, P, F, X => fun e s => ∃ r, e = .ret r ∧ (r = .ok (.ret .none) ∨ r = .ok .next) ∧ ∃ σ H F1 st, T.mem X ∧ Inv X [] σ H s ∧ SR T.g P σ H F1 st ∧ Same F F1
  | m + 1, P, F, X => fun e s => ∃ v b l k c p fs σ H F1 st x d, e = .susp v b l k c p fs ∧ e.quiet = true ∧ T.mem X ∧ Inv X [] σ H s ∧ SR T.g P σ H F1 st ∧ Same F F1 ∧ T.all[T.all.length - (m + 1)]? = some d ∧ RelV x v ∧ Rv T.g F1 x d ∧
      ∀ X' P' H' F' s', T.mem X' → Inv X' [] σ H' s' → SR T.g P' σ H' F' st → Go1 (model T.P T.w) T.Aw (ZN T m P' F' X') c (k (.send .none)) fs s'
theorem ZN.weak {T : GF} {P : Par} {F F' : Hp} {X : Cx} (h : Same F F') : ∀ {m : Nat} {e : End} {s : Shared}, ZN T m P F' X e s → ZN T m P F X e s
  | 0, e, s, ⟨r, h1, h2, σ, H, F1, st, a, b, c, d⟩ => ⟨r, h1, h2, σ, H, F1, st, a, b, c, h.trans d⟩
  | m + 1, e, s, ⟨v, b, l, k, c, p, fs, σ, H, F1, st, x, d, h1, h2, h3, h4, h5, h6, r⟩ => ⟨v, b, l, k, c, p, fs, σ, H, F1, st, x, d, h1, h2, h3, h4, h5, h.trans h6, r⟩
theorem ZN.quiet {T : GF} {P : Par} {F : Hp} {X : Cx} {m : Nat} {e : End} {s : Shared} (h : ZN T m P F X e s) : e.quiet = true := by
  cases m with
  | zero => obtain ⟨r, rfl, _⟩ := h; rfl
  | succ m => obtain ⟨v, b, l, k, c, p, fs, σ, H, F1, st, x, d, h1, h2, _⟩ := h; exact h2
/-- where the code stands -/
structure Pl (T : GF) (c : Code) (fs : List Frame) (gd : Bool → Bool) : Prop where
  over : T.Aw.over c fs = T.A
  split : splitAtGen fs = none
  guard : fs.any Frame.guarded = false
  gd : gd false = false
def flowOf : Fl → Option Flow
  | .nx => some .next
  | .brk => some .brk
  | .cnt => some .cont
  | .ret _ => none
/-- an exception cannot come here -/
def NoJ (T : GF) (c : Code) (fs : List Frame) (J : Value → Sem PySem.Fin) : Prop := ∀ X e s, T.mem X → X.xe e s → ∀ Z, Go1 (model T.P T.w) T.Aw Z c (J e) fs s
/-- what follows -/
def Nxt (T : GF) (c : Code) (fs : List Frame) (K : Flow → Sem PySem.Fin) (fl : Fl) (st1 : DSt) : Prop := ∀ X P F σ H m s, T.mem X → Inv X [] σ H s → SR T.g P σ H F st1 → (hid T.n st1).length + m = T.all.length →
  ∃ f, flowOf fl = some f ∧ Go1 (model T.P T.w) T.Aw (ZN T m P F X) c (K f) fs s
def GSd (T : GF) (x : Env → Sem Flow) (den : DS) : Prop := ∀ (c : Code) (fs : List Frame) (K : Flow → Sem PySem.Fin) (J : Value → Sem PySem.Fin) (gd : Bool → Bool) (lv : List Value → List Value) (X : Cx) (P : Par) (F : Hp) (σ : L2.St) (H : Hp) (st0 : DSt) (m : Nat) (s : Shared) (fl : Fl) (st1 : DSt),
  Pl T c fs gd → NoJ T c fs J → T.mem X → Inv X [] σ H s → SR T.g P σ H F st0 → isGy T.n st0 = true → den st0 = .ok fl st1 → (hid T.n st0).length + m = T.all.length → (∃ zs, T.all = hid T.n st1 ++ zs) → Nxt T c fs K fl st1 →
  Go1 (model T.P T.w) T.Aw (ZN T m P F X) c ((x T.env).wrap K J gd lv) fs s
/-- the slot only grows -/
def Mono (n : Nat) (den : DS) : Prop := ∀ st fl st', isGy n st = true → den st = .ok fl st' → isGy n st' = true ∧ ∃ zs, hid n st' = hid n st ++ zs
/-- .. or stays -/
def Keeps (n : Nat) (den : DS) : Prop := ∀ st fl st', den st = .ok fl st' → st'[n]? = st[n]?
theorem Keeps.mono {n : Nat} {den : DS} (h : Keeps n den) : Mono n den := fun st fl st' hg e => by
  have := h st fl st' e
  unfold isGy hid at *
  rw [this]
  exact ⟨hg, [], by simp⟩
section
variable {T : GF} {a b : DS} {n : Nat}
theorem Mono.seq (ha : Mono n a) (hb : Mono n b) : Mono n (sSeq a b) := fun st fl st' hg e => by
  unfold sSeq at e
  cases q : a st with
  | ok f1 s1 =>
    rw [q] at e
    obtain ⟨g1, z1, e1⟩ := ha st f1 s1 hg q
    cases f1 with
    | nx =>
      obtain ⟨g2, z2, e2⟩ := hb s1 fl st' g1 e
      exact ⟨g2, z1 ++ z2, by rw [e2, e1, List.append_assoc]⟩
    | brk => cases e; exact ⟨g1, z1, e1⟩
    | cnt => cases e; exact ⟨g1, z1, e1⟩
    | ret d => cases e; exact ⟨g1, z1, e1⟩
  | exn c f s1 => rw [q] at e; cases e
  | stuck => rw [q] at e; cases e
theorem Mono.yield {f : Den D} (hf : ∀ st d st', f st = .ok d st' → st'[n]? = st[n]?) : Mono n (sYield n f) := fun st fl st' hg e => by
  unfold sYield at e
  cases q : f st with
  | ok d s1 =>
    rw [q] at e
    simp only at e
    split at e
    · rename_i hg1
      cases e
      have h1 := hf st d s1 q
      have hl : n < s1.length := by
        unfold isGy at hg1
        split at hg1
        · rename_i h2; exact (List.getElem?_eq_some_iff.mp h2).1
        · cases hg1
      refine ⟨by unfold isGy; rw [List.getElem?_set_self hl], [d], ?_⟩
      have : hid n s1 = hid n st := by unfold hid; rw [h1]
      unfold hid
      rw [List.getElem?_set_self hl]
      show hid n s1 ++ [d] = hid n st ++ [d]
      rw [this]
    · cases e
  | exn c f s1 => rw [q] at e; cases e
  | stuck => rw [q] at e; cases e
theorem Mono.sif {t : Den Bool} (ht : ∀ st b st', t st = .ok b st' → st'[n]? = st[n]?) (ha : Mono n a) (hb : Mono n b) : Mono n (sIf t a b) := fun st fl st' hg e => by
  unfold sIf bindD at e
  cases q : t st with
  | ok x s1 =>
    rw [q] at e
    have h1 := ht st x s1 q
    have hg1 : isGy n s1 = true := by unfold isGy at *; rw [h1]; exact hg
    have hh : hid n s1 = hid n st := by unfold hid; rw [h1]
    cases x with
    | true => obtain ⟨g2, z, e2⟩ := ha s1 fl st' hg1 e; exact ⟨g2, z, by rw [e2, hh]⟩
    | false => obtain ⟨g2, z, e2⟩ := hb s1 fl st' hg1 e; exact ⟨g2, z, by rw [e2, hh]⟩
  | exn c f s1 => rw [q] at e; cases e
  | stuck => rw [q] at e; cases e
theorem Mono.swhile {t : Den Bool} (ht : ∀ st b st', t st = .ok b st' → st'[n]? = st[n]?) (ha : Mono n a) : ∀ k, Mono n (sWhile t a k)
  | 0 => fun st fl st' hg e => by cases e
  | k + 1 => fun st fl st' hg e => by
    unfold sWhile at e
    cases q : t st with
    | ok x s1 =>
      rw [q] at e
      have h1 := ht st x s1 q
      have hg1 : isGy n s1 = true := by unfold isGy at *; rw [h1]; exact hg
      have hh : hid n s1 = hid n st := by unfold hid; rw [h1]
      cases x with
      | false => cases e; exact ⟨hg1, [], by rw [hh]; simp⟩
      | true =>
        simp only at e
        cases q2 : a s1 with
        | ok f2 s2 =>
          rw [q2] at e
          obtain ⟨g2, z2, e2⟩ := ha s1 f2 s2 hg1 q2
          cases f2 with
          | nx => obtain ⟨g3, z3, e3⟩ := Mono.swhile ht ha k s2 fl st' g2 e; exact ⟨g3, z2 ++ z3, by rw [e3, e2, hh, List.append_assoc]⟩
          | cnt => obtain ⟨g3, z3, e3⟩ := Mono.swhile ht ha k s2 fl st' g2 e; exact ⟨g3, z2 ++ z3, by rw [e3, e2, hh, List.append_assoc]⟩
          | brk => cases e; exact ⟨g2, z2, by rw [e2, hh]⟩
          | ret d => cases e; exact ⟨g2, z2, by rw [e2, hh]⟩
        | exn c f s2 => rw [q2] at e; cases e
        | stuck => rw [q2] at e; cases e
    | exn c f s1 => rw [q] at e; cases e
    | stuck => rw [q] at e; cases e
theorem gs_plain {st : Stmt} (h : ∀ X, T.mem X → PS X st (tS T.g W0 a)) (hk : Keeps T.n a) (hr : ∀ s f s', a s = .ok f s' → (flowOf f).isSome = true) : GSd T (exec st) a := by
  intro c fs K J gd lv X P F σ H st0 m s fl st1 pl nj hX I sr hg hd hl hz nx
  refine go_wrap ?_
  rw [pl.over, ← T.hA X hX, ← T.he X hX, ← T.hP X hX, ← T.hw X hX]
  obtain ⟨f, hf⟩ := Option.isSome_iff_exists.mp (hr st0 fl st1 hd)
  have hm : (hid T.n st1).length + m = T.all.length := by
    have := hk st0 fl st1 hd
    unfold hid at *
    rw [this]; exact hl
  let N : L2.St → Hp → Prop := fun σ' H' => ∃ F', Same F F' ∧ SR T.g P σ' H' F' st1
  have key : tS T.g W0 a { nx := fun σ' H' => fl = .nx ∧ N σ' H', rt := fun _ _ => False, bk := fun σ' H' => fl = .brk ∧ N σ' H', ct := fun σ' H' => fl = .cnt ∧ N σ' H' } σ H := by
    refine ⟨P, F, st0, sr, ?_⟩
    rw [hd]
    intro σ' H' F' le s'
    cases fl with
    | nx => exact ⟨rfl, F', le, s'⟩
    | brk => exact ⟨rfl, F', le, s'⟩
    | cnt => exact ⟨rfl, F', le, s'⟩
    | ret d => cases hf
  have go : ∀ {σ' : L2.St} {H' : Hp} {s' : Shared} {f' : Flow}, flowOf fl = some f' → Inv X [] σ' H' s' → N σ' H' → Go1 (model X.prog X.w) T.Aw (ZN T m P F X) c (K f') fs s' := fun hf' I' ⟨F', le, s2⟩ => by
    obtain ⟨f2, e2, q⟩ := nx X P F' _ _ m _ hX I' s2 hm
    rw [hf'] at e2; cases e2
    rw [T.hP X hX, T.hw X hX]
    exact go_mono q fun e s => ZN.weak le
  refine wpAny_mono ((h X hX).run [] s σ H _ I key) (fun f' s' hs => ?_) fun e s' hx => ?_
  · cases f' with
    | next => obtain ⟨σ', H', I', e, q⟩ := hs; exact go (by rw [e]; rfl) I' q
    | brk => obtain ⟨σ', H', I', e, q⟩ := hs; exact go (by rw [e]; rfl) I' q
    | cont => obtain ⟨σ', H', I', e, q⟩ := hs; exact go (by rw [e]; rfl) I' q
    | ret u => obtain ⟨v, σ', H', I', _, q⟩ := hs; exact q.elim
  · rw [T.hP X hX, T.hw X hX]
    exact nj X e s' hX hx _
theorem gs_nil : GSd T (execs []) sPass := by
  intro c fs K J gd lv X P F σ H st0 m s fl st1 pl nj hX I sr hg hd hl hz nx
  cases hd
  obtain ⟨f, hf, q⟩ := nx X P F σ H m s hX I sr hl
  cases hf
  exact go_nil q
theorem gs_cons {st : Stmt} {rest : List Stmt} (ha : GSd T (exec st) a) (hb : GSd T (execs rest) b) (ma : Mono T.n a) (mb : Mono T.n b) : GSd T (execs (st :: rest)) (sSeq a b) := by
  intro c fs K J gd lv X P F σ H st0 m s fl st1 pl nj hX I sr hg hd hl hz nx
  refine go_cons ?_
  unfold sSeq at hd
  cases q : a st0 with
  | ok f1 s1 =>
    rw [q] at hd
    obtain ⟨g1, z1, e1⟩ := ma st0 f1 s1 hg q
    obtain ⟨zs, hz⟩ := hz
    cases f1 with
    | nx =>
      obtain ⟨g2, z2, e2⟩ := mb s1 fl st1 g1 hd
      refine ha c fs _ J gd lv X P F σ H st0 m s .nx s1 pl nj hX I sr hg q hl ⟨z2 ++ zs, by rw [hz, e2, List.append_assoc]⟩ fun X' P' F' σ' H' m' s' hX' I' sr' hl' => ⟨.next, rfl, ?_⟩
      exact hb c fs K J gd lv X' P' F' σ' H' s1 m' s' fl st1 pl nj hX' I' sr' g1 hd hl' ⟨zs, hz⟩ nx
    | brk =>
      cases hd
      refine ha c fs _ J gd lv X P F σ H st0 m s .brk st1 pl nj hX I sr hg q hl ⟨zs, hz⟩ fun X' P' F' σ' H' m' s' hX' I' sr' hl' => ?_
      obtain ⟨f, hf, z⟩ := nx X' P' F' σ' H' m' s' hX' I' sr' hl'
      cases hf
      exact ⟨.brk, rfl, z⟩
    | cnt =>
      cases hd
      refine ha c fs _ J gd lv X P F σ H st0 m s .cnt st1 pl nj hX I sr hg q hl ⟨zs, hz⟩ fun X' P' F' σ' H' m' s' hX' I' sr' hl' => ?_
      obtain ⟨f, hf, z⟩ := nx X' P' F' σ' H' m' s' hX' I' sr' hl'
      cases hf
      exact ⟨.cont, rfl, z⟩
    | ret d =>
      cases hd
      refine ha c fs _ J gd lv X P F σ H st0 m s (.ret d) st1 pl nj hX I sr hg q hl ⟨zs, hz⟩ fun X' P' F' σ' H' m' s' hX' I' sr' hl' => ?_
      obtain ⟨f, hf, z⟩ := nx X' P' F' σ' H' m' s' hX' I' sr' hl'
      cases hf
  | exn c f s1 => rw [q] at hd; cases hd
  | stuck => rw [q] at hd; cases hd
theorem gs_one {st : Stmt} (ha : GSd T (exec st) a) (ma : Mono T.n a) : GSd T (execs [st]) a := by
  have h := gs_cons ha (gs_nil (T := T)) ma (Keeps.mono fun st fl st' e => by cases e; rfl)
  have : sSeq a sPass = a := by
    funext st
    unfold sSeq sPass retD
    cases a st with
    | ok f s => cases f <;> rfl
    | exn c f s => rfl
    | stuck => rfl
  rw [this] at h
  exact h
theorem gs_if {t : Expr} {xs ys : List Stmt} {pos : Pos} {tt : Den Bool} (ht : ∀ X, T.mem X → PT X t (tT T.g W0 tt)) (kt : ∀ st b st', tt st = .ok b st' → st'[T.n]? = st[T.n]?) (ha : GSd T (execs xs) a) (hb : GSd T (execs ys) b) : GSd T (exec (.If t xs ys pos)) (sIf tt a b) := by
  intro c fs K J gd lv X P F σ H st0 m s fl st1 pl nj hX I sr hg hd hl hz nx
  unfold sIf bindD at hd
  cases q : tt st0 with
  | exn c f s1 => rw [q] at hd; cases hd
  | stuck => rw [q] at hd; cases hd
  | ok x s1 =>
    rw [q] at hd
    simp only at hd
    have h1 := kt st0 x s1 q
    have hg1 : isGy T.n s1 = true := by unfold isGy at *; rw [h1]; exact hg
    have hl1 : (hid T.n s1).length + m = T.all.length := by unfold hid at *; rw [h1]; exact hl
    have key : tT T.g W0 tt σ H fun y H' => y = x ∧ ∃ F', Same F F' ∧ SR T.g P σ H' F' s1 := by
      refine ⟨P, F, st0, sr, ?_⟩
      rw [q]
      exact fun H' F' le s' => ⟨rfl, F', le, s'⟩
    have step : wpAny (model T.P T.w) (T.Aw.over c fs) (isTrue t T.env (eval t T.env)) (fun y s' => y = x ∧ ∃ H' F', Inv X [] σ H' s' ∧ Same F F' ∧ SR T.g P σ H' F' s1) X.xe s := by
      rw [pl.over, ← T.hA X hX, ← T.he X hX, ← T.hP X hX, ← T.hw X hX]
      exact wpAny_mono ((ht X hX).run [] s σ H _ I key) (fun y s' ⟨H', I', e, F', le, s2⟩ => ⟨e, H', F', I', le, s2⟩) fun _ _ z => z
    have e : (exec (.If t xs ys pos) T.env) = (do standAt pos; if (← isTrue t T.env (eval t T.env)) then execs xs T.env else execs ys T.env) := rfl
    rw [e]
    refine go_at ?_
    show Go1 _ _ _ _ (((isTrue t T.env (eval t T.env)).bind fun z => if z = true then execs xs T.env else execs ys T.env).wrap K J gd lv) fs s
    rw [Sem.bind_eq_wrap, Sem.wrap_wrap]
    refine go_wrap (wpAny_mono step (fun y s' hy => ?_) fun e s' hx => ?_)
    · obtain ⟨rfl, H', F', I', le, s2⟩ := hy
      cases y with
      | true => exact go_mono (ha c fs K J gd lv X P F' σ H' s1 m s' fl st1 pl nj hX I' s2 hg1 hd hl1 hz nx) fun e s => ZN.weak le
      | false => exact go_mono (hb c fs K J gd lv X P F' σ H' s1 m s' fl st1 pl nj hX I' s2 hg1 hd hl1 hz nx) fun e s => ZN.weak le
    · exact nj X e s' hX hx _
end
end DL
namespace DL
open PySem PySem.Spec PyProof.Rows L2 GenW
section
variable {T : GF} {a : DS}
/-- an exception that comes back to a loop's caller -/
theorem go_back {c c' : Code} {fs : List Frame} {K : Flow → Sem PySem.Fin} {J : Value → Sem PySem.Fin} {gd : Bool → Bool} {lv : List Value → List Value} {l kp : List Value} {p : Pos} {b : Bool} {Z : End → Shared → Prop} {X : Cx} {e : Value} {s : Shared} (pl : Pl T c fs gd) (nj : NoJ T c fs J) (hX : T.mem X)
    (h : cameBackBy (model X.prog X.w) X.A X.env X.xe e s) : Go1 (model T.P T.w) T.Aw Z c' (leafOf (.error e)) (.ret (fun r => ((match r with | .ok f => (Sem.pure f : Sem Flow) | .error e => .raise e).onRaise (cameBack T.env)).wrap K J gd lv) none b l c p kp :: fs) s := by
  refine go_leaf (.error e) ?_
  show Go1 _ _ _ _ (((cameBack T.env e).bind fun _ => (Sem.raise e : Sem Flow)).wrap K J gd lv) fs s
  rw [Sem.bind_eq_wrap, Sem.wrap_wrap]
  refine go_wrap ?_
  rw [pl.over, ← T.hA X hX, ← T.he X hX, ← T.hP X hX, ← T.hw X hX]
  refine wpAny_mono h (fun _ s' hx => ?_) fun x s' hx => ?_
  · rw [T.hP X hX, T.hw X hX]; exact nj X e s' hX hx _
  · rw [T.hP X hX, T.hw X hX]; exact nj X x s' hX hx _
theorem gs_while {t : Expr} {xs : List Stmt} {pos : Pos} {tt : Den Bool} {k : Nat} (ht : ∀ X, T.mem X → PT X t (tT T.g W0 tt)) (kt : ∀ st b st', tt st = .ok b st' → st'[T.n]? = st[T.n]?) (ha : GSd T (execs xs) a) (ma : Mono T.n a) (hnr : ∀ s f s', a s = .ok f s' → (flowOf f).isSome = true) : GSd T (exec (.While t xs [] pos)) (sWhile tt a k) := by
  intro c fs K J gd lv X P F σ H st0 m s fl st1 pl nj hX I sr hg hd hl hz nx
  refine go_at (go_call fun p => ?_)
  have pl2 : Pl T (.whileLoop t xs [] T.env) (.ret (fun r => ((match r with | .ok f => (Sem.pure f : Sem Flow) | .error e => .raise e).onRaise (cameBack T.env)).wrap K J gd lv) none (gd false) (lv []) c p [] :: fs) id := by
    refine ⟨(over_loop rfl rfl).trans pl.over, ?_, ?_, rfl⟩
    · show (splitAtGen fs).map _ = none
      rw [pl.split]; rfl
    · show (gd false || fs.any Frame.guarded) = false
      rw [pl.gd, pl.guard]; rfl
  have nj2 : NoJ T (.whileLoop t xs [] T.env) (.ret (fun r => ((match r with | .ok f => (Sem.pure f : Sem Flow) | .error e => .raise e).onRaise (cameBack T.env)).wrap K J gd lv) none (gd false) (lv []) c p [] :: fs) (fun e => ((do noteFrame e T.env; theTreesLotGoes e : Sem Unit)).wrap (fun _ => .raise e) .raise id id) := by
    intro X' e s' hX' hx Z
    refine go_wrap ?_
    rw [pl2.over, ← T.hA X' hX', ← T.he X' hX', ← T.hP X' hX', ← T.hw X' hX']
    refine wpAny_bind (wpAny_mono (T.own X' hX' e s' hx) (fun _ s2 hb => wpAny_theTreesLotGoes ?_) fun y s2 hb => ?_)
    · rw [T.hP X' hX', T.hw X' hX', T.he X' hX']
      exact go_back pl nj hX' hb
    · rw [T.hP X' hX', T.hw X' hX', T.he X' hX']
      exact go_back pl nj hX' hb
  -- the turns
  have turns : ∀ (k : Nat) (X : Cx) (P : Par) (F : Hp) (σ : L2.St) (H : Hp) (st0 : DSt) (m : Nat) (s : Shared), T.mem X → Inv X [] σ H s → SR T.g P σ H F st0 → isGy T.n st0 = true → sWhile tt a k st0 = .ok fl st1 → (hid T.n st0).length + m = T.all.length →
      Go1 (model T.P T.w) T.Aw (ZN T m P F X) (.whileLoop t xs [] T.env) ((model T.P T.w).den (.whileLoop t xs [] T.env)) (.ret (fun r => ((match r with | .ok f => (Sem.pure f : Sem Flow) | .error e => .raise e).onRaise (cameBack T.env)).wrap K J gd lv) none (gd false) (lv []) c p [] :: fs) s := by
    intro k
    induction k with
    | zero => intro X P F σ H st0 m s hX I sr hg hd hl; cases hd
    | succ k ih =>
      intro X P F σ H st0 m s hX I sr hg hd hl
      unfold sWhile at hd
      cases q : tt st0 with
      | exn c f s1 => rw [q] at hd; cases hd
      | stuck => rw [q] at hd; cases hd
      | ok x s1 =>
        rw [q] at hd
        have h1 := kt st0 x s1 q
        have hg1 : isGy T.n s1 = true := by unfold isGy at *; rw [h1]; exact hg
        have hl1 : (hid T.n s1).length + m = T.all.length := by unfold hid at *; rw [h1]; exact hl
        have key : tT T.g W0 tt σ H fun y H' => y = x ∧ ∃ F', Same F F' ∧ SR T.g P σ H' F' s1 := by
          refine ⟨P, F, st0, sr, ?_⟩
          rw [q]
          exact fun H' F' le s' => ⟨rfl, F', le, s'⟩
        have step : wpAny (model T.P T.w) T.A (isTrue t T.env (eval t T.env)) (fun y s' => y = x ∧ ∃ H' F', Inv X [] σ H' s' ∧ Same F F' ∧ SR T.g P σ H' F' s1) X.xe s := by
          rw [← T.hA X hX, ← T.he X hX, ← T.hP X hX, ← T.hw X hX]
          exact wpAny_mono ((ht X hX).run [] s σ H _ I key) (fun y s' ⟨H', I', e, F', le, s2⟩ => ⟨e, H', F', I', le, s2⟩) fun _ _ z => z
        show Go1 _ _ _ _ ((whileTurn t xs [] T.env).onRaise (fun x => do noteFrame x T.env; theTreesLotGoes x)) _ s
        unfold whileTurn
        rw [Sem.onRaise_eq_wrap, Sem.bind_eq_wrap', Sem.wrap_wrap]
        refine go_wrap ?_
        rw [pl2.over]
        refine wpAny_mono step (fun y s' hy => ?_) fun e s' hx => ?_
        · obtain ⟨rfl, H', F', I', le, s2⟩ := hy
          refine go_mono ?_ fun e s => ZN.weak le
          cases y with
          | true =>
            simp only at hd
            cases q2 : a s1 with
            | exn c f s2 => rw [q2] at hd; cases hd
            | stuck => rw [q2] at hd; cases hd
            | ok f2 s3 =>
              rw [q2] at hd
              obtain ⟨g3, z3, e3⟩ := ma s1 f2 s3 hg1 q2
              have hall : ∃ zs, T.all = hid T.n s3 ++ zs := by
                obtain ⟨zs, hz⟩ := hz
                cases f2 with
                | nx => obtain ⟨_, z4, e4⟩ := Mono.swhile kt ma k s3 fl st1 g3 hd; exact ⟨z4 ++ zs, by rw [hz, e4, List.append_assoc]⟩
                | cnt => obtain ⟨_, z4, e4⟩ := Mono.swhile kt ma k s3 fl st1 g3 hd; exact ⟨z4 ++ zs, by rw [hz, e4, List.append_assoc]⟩
                | brk => cases hd; exact ⟨zs, hz⟩
                | ret d => cases hd; exact ⟨zs, hz⟩
              rw [if_pos rfl, Sem.bind_eq_wrap', Sem.wrap_wrap]
              refine ha _ _ _ _ _ _ X P F' σ H' s1 m s' f2 s3 ⟨pl2.over, pl2.split, pl2.guard, rfl⟩ ?_ hX I' s2 hg1 q2 hl1 hall ?_
              · intro X' e s5 hX' hx Z
                have := nj2 X' e s5 hX' hx Z
                first
                  | exact this
                  | (show Go1 _ _ _ _ ((do noteFrame e T.env; theTreesLotGoes e : Sem Unit).bind fun _ => .raise e) _ _
                     rw [Sem.bind_eq_wrap]
                     exact this)
              · intro X' P5 F5 σ5 H5 m5 s5 hX' I5 sr5 hl5
                cases f2 with
                | nx => exact ⟨.next, rfl, go_again rfl (ih X' P5 F5 σ5 H5 s3 m5 s5 hX' I5 sr5 g3 hd hl5)⟩
                | cnt => exact ⟨.cont, rfl, go_again rfl (ih X' P5 F5 σ5 H5 s3 m5 s5 hX' I5 sr5 g3 hd hl5)⟩
                | brk =>
                  cases hd
                  obtain ⟨f, hf, z⟩ := nx X' P5 F5 σ5 H5 m5 s5 hX' I5 sr5 hl5
                  cases hf
                  exact ⟨.brk, rfl, go_leaf (.ok .next) z⟩
                | ret d => have := hnr s1 _ _ q2; cases this
          | false =>
            cases hd
            obtain ⟨f, hf, z⟩ := nx X P F' σ H' m s' hX I' s2 hl1
            cases hf
            rw [if_neg Bool.false_ne_true, Sem.bind_eq_wrap', Sem.wrap_wrap]
            exact go_nil (go_leaf (.ok .next) z)
        · have := nj2 X e s' hX hx (ZN T m P F X)
          first
            | exact this
            | (show Go1 _ _ _ _ ((do noteFrame e T.env; theTreesLotGoes e : Sem Unit).bind fun _ => .raise e) _ _
               rw [Sem.bind_eq_wrap]
               exact this)
  exact turns k X P F σ H st0 m s hX I sr hg hd hl
end
end DL
namespace DL
open PySem PySem.Spec PyProof.Rows L2 GenW
section
variable {T : GF}
theorem SR.setGy {g : G} {P : Par} {σ : L2.St} {H F : Hp} {st : DSt} {n : Nat} {ds : List D} {vs : List V} (s : SR g P σ H F st) (r : Rl g F vs ds) : SR g P σ H F (st.set n (.gy ds)) := by
  obtain ⟨O, c⟩ := s
  refine ⟨O, c.le, c.rr, c.oo, c.no, by rw [List.length_set]; exact c.len, fun i sl ov e1 e2 => ?_⟩
  by_cases h : i = n
  · subst h
    have hi : i < st.length := by
      rw [← c.len]; exact (List.getElem?_eq_some_iff.mp e2).1
    rw [List.getElem?_set_self hi] at e1
    cases e1
    exact ⟨vs, r⟩
  · rw [List.getElem?_set_ne (Ne.symm h)] at e1
    exact c.sl i sl ov e1 e2
theorem SR.gy {g : G} {P : Par} {σ : L2.St} {H F : Hp} {st : DSt} {n : Nat} {ds : List D} (s : SR g P σ H F st) (h : st[n]? = some (.gy ds)) : ∃ vs, Rl g F vs ds := by
  obtain ⟨O, c⟩ := s
  have hn : n < σ.length := by rw [c.len]; exact (List.getElem?_eq_some_iff.mp h).1
  exact c.sl n _ _ h (List.getElem?_eq_getElem hn)
theorem gs_yield {e : Expr} {yp pos : Pos} {f : Den D} (he : ∀ X, T.mem X → PE X e (tE T.g W0 f)) (kf : ∀ st d st', f st = .ok d st' → st'[T.n]? = st[T.n]?) (hco : T.env.scope.isCoroutine = false) : GSd T (exec (.Expr (.Yield (some e) yp) pos)) (sYield T.n f) := by
  intro c fs K J gd lv X P F σ H st0 m s fl st1 pl nj hX I sr hg hd hl hz nx
  unfold sYield at hd
  cases q : f st0 with
  | exn c f s1 => rw [q] at hd; cases hd
  | stuck => rw [q] at hd; cases hd
  | ok d s1 =>
    rw [q] at hd
    have h1 := kf st0 d s1 q
    have hg1 : isGy T.n s1 = true := by unfold isGy at *; rw [h1]; exact hg
    simp only [hg1, if_true] at hd
    cases hd
    have hh : hid T.n s1 = hid T.n st0 := by unfold hid; rw [h1]
    have hs1 : s1[T.n]? = some (.gy (hid T.n s1)) := by
      unfold isGy at hg1
      unfold hid
      split at hg1
      · rename_i ys h; rw [h]
      · cases hg1
    have hlt : T.n < s1.length := (List.getElem?_eq_some_iff.mp hs1).1
    have hset : hid T.n (s1.set T.n (.gy (hid T.n s1 ++ [d]))) = hid T.n s1 ++ [d] := by
      unfold hid
      rw [List.getElem?_set_self hlt]
    obtain ⟨zs, hz⟩ := hz
    rw [hset, hh] at hz
    have hlen : T.all.length = (hid T.n st0).length + 1 + zs.length := by rw [hz]; simp; omega
    obtain ⟨m, rfl⟩ : ∃ k, m = k + 1 := ⟨m - 1, by omega⟩
    have hat : T.all[T.all.length - (m + 1)]? = some d := by
      have : T.all.length - (m + 1) = (hid T.n st0).length := by omega
      rw [this, hz, List.append_assoc, List.getElem?_append_right (Nat.le_refl _), Nat.sub_self]; rfl
    have key : tE T.g W0 f σ H fun v H' => ∃ F', Same F F' ∧ SR T.g P σ H' F' s1 ∧ Rv T.g F' v d := by
      refine ⟨P, F, st0, sr, ?_⟩
      rw [q]
      exact fun H' F' le s' v r => ⟨F', le, s', r⟩
    have hi : interactive T.env = false := by rw [← T.he X hX]; exact I.quiet
    rw [exec_Expr T.env _ pos hi rfl]
    have hy : ∀ v, yieldOut T.env v = yieldValue v := fun v => by simp only [yieldOut, hco, Bool.false_eq_true, if_false]
    show Go1 _ _ _ c (.at pos fun _ => ((eval e T.env >>= fun v => (standAt yp >>= fun _ => yieldOut T.env v)) >>= fun x => dropValue (.Yield (some e) yp) pos x).wrap K J gd lv) fs s
    simp only [hy]
    refine go_at ?_
    rw [Sem.bind_eq_wrap', Sem.bind_eq_wrap', Sem.wrap_wrap, Sem.wrap_wrap]
    refine go_wrap ?_
    rw [pl.over, ← T.hA X hX, ← T.he X hX, ← T.hP X hX, ← T.hw X hX]
    refine wpAny_mono ((he X hX).run [] s σ H _ I key) (fun v s' hv => ?_) fun x s' hx => ?_
    · obtain ⟨x, H', I', rx, F', le, s2, r2⟩ := hv
      rw [T.hP X hX, T.hw X hX]
      refine go_at (go_yield pl.split fun p => ?_)
      obtain ⟨vs, rvs⟩ := s2.gy hs1
      have sr2 : SR T.g P σ H' F' (s1.set T.n (.gy (hid T.n s1 ++ [d]))) := s2.setGy (rvs.append (.cons r2 .nil))
      refine ⟨_, _, _, _, c, p, fs, σ, H', F', _, x, d, rfl, ?_, hX, I', sr2, le, hat, rx, r2, fun X' P' H2 F2 s3 hX' I2 sr3 => ?_⟩
      · simp [End.quiet, pl.gd, pl.guard]
      · obtain ⟨fl, hf, z⟩ := nx X' P' F2 σ H2 m s3 hX' I2 sr3 (by rw [hset, List.length_append, List.length_singleton, hh]; omega)
        cases hf
        exact z
    · rw [T.hP X hX, T.hw X hX]
      exact nj X x s' hX hx _
end
end DL
namespace DL
open PySem PySem.Spec PyProof.Rows L2 GenW
def EN : XK := fun _ _ _ => False
structure Near (base : Heap) (outer : List Env) (L : Addr) (s sB : Shared) : Prop where
  os : sB.os = s.os
  sz : sB.heap.objs.size = s.heap.objs.size
  eq : ∀ b, b ≠ L → sB.heap.get? b = s.heap.get? b
  fu : sB.heap.FunFrames base outer
/-- what may happen meanwhile -/
structure Nap (L : Addr) (H H' : Hp) (s s' : Shared) : Prop where
  os : s'.os = s.os
  bare : AllBare s'.gens
  keep : ∀ b o, b ≠ L → s.heap.get? b = some o → H b = none → s'.heap.get? b = some o
  there : ∀ b o, s.heap.get? b = some o → ∃ o', s'.heap.get? b = some o'
  free : ∀ b o, s.heap.get? b = some o → H b = none → H' b = none
  tups : ∀ b xs, H b = some (.tup xs) → H' b = some (.tup xs)
  frzs : ∀ b o u, H b = some (.frz o u) → H' b = some (.frz o u)
  tbls : ∀ b ps, H b = some (.tbl ps) → ∃ more, H' b = some (.tbl (ps ++ more))
section
variable {P : Program} {w : World} {K : PySem.W.Frag} {mg : Str → Option Value} {base : Heap} {N : List Str} {qual : Str} {scope : Scope} {f : Addr} {cd : Value} {A : Around} {outer : List Env} {s sB sC s1 s' : Shared} {H H1 H' : Hp} {pn : List (Addr × Obj)} {σ : L2.St} {L : Addr}
theorem fam_move (hnc : ∀ k, cellsFrom k scope.names [] = []) (hL : L ∈ frs outer) (n1 : Near base outer L s sB) (n2 : Near base outer L s sC) (I : Inv (gcxOf P w K mg base N qual scope f cd A outer sB H EN pn) [] σ H1 s1) (np : Nap L H1 H' s1 s') (hok : HOk P w H' s'.heap)
    (hat : s'.heap.get? L = sC.heap.get? L) : Inv (gcxOf P w K mg base N qual scope f cd A outer sC H EN pn) [] σ H' s' := by
  have e : sC.heap.objs.size = sB.heap.objs.size := n2.sz.trans n1.sz.symm
  have same : ∀ b, b ≠ L → sC.heap.get? b = sB.heap.get? b := fun b hb => (n2.eq b hb).trans (n1.eq b hb).symm
  have hbL : base.get? L = none := (n2.fu.mem hL).1
  have nol : ∀ x, (cellsFrom (sC.heap.objs.size + 1) scope.names []).lookup x = none := fun x => by rw [hnc]; rfl
  have oL : ∃ o, sB.heap.get? L = some o := (n1.fu.mem hL).2.imp fun _ h => h.1
  have locL : sB.heap.objs.size ≠ L := fun z => by
    obtain ⟨o, ho⟩ := oL
    have := Heap.lt_size ho
    rw [z] at this
    exact Nat.lt_irrefl _ this
  have ok : Cx.Ok (gcxOf P w K mg base N qual scope f cd A outer sC H EN pn) := by
    refine ⟨I.ok.mod, I.ok.kind, I.ok.glob, I.ok.blt, Nat.le_refl _, ?_, ?_, ?_, I.ok.hd, ?_, .inr ⟨rfl, rfl⟩, ?_, ?_, ?_, ?_, ?_, n2.fu, I.ok.frf⟩
    · intro x y c h _
      have h : (cellsFrom (sC.heap.objs.size + 1) scope.names []).lookup x = some c := h
      rw [nol] at h; cases h
    · intro x hx
      obtain ⟨c, h⟩ := I.ok.has x hx
      have h : (cellsFrom (sB.heap.objs.size + 1) scope.names []).lookup x = some c := h
      rw [hnc] at h; cases h
    · intro x c _ h
      have h : (cellsFrom (sC.heap.objs.size + 1) scope.names []).lookup x = some c := h
      rw [nol] at h; cases h
    · have := I.ok.frames
      show (A.deeper (envOfC qual scope sC.heap.objs.size f cd)).frames = some (envOfC qual scope sC.heap.objs.size f cd :: outer)
      rw [e]; exact this
    · exact fun b hb => absurd (show b ∈ ([] : List Addr) from hb) (by simp)
    · intro b o hb
      obtain ⟨h1, h2⟩ := I.ok.bs b o hb
      have hb : base.get? b = some o := hb
      have hne : b ≠ L := fun z => by rw [z, hbL] at hb; cases hb
      exact ⟨(same b hne).trans h1, h2⟩
    · show base.objs.size ≤ sC.heap.objs.size
      rw [e]; exact I.ok.bsz
    · exact fun b o _ hb => absurd (show b ∈ ([] : List Addr) from hb) (by simp)
    · exact fun b hb => absurd (show b ∈ ([] : List Addr) from hb) (by simp)
  have noex : ∀ b : Addr, b ∉ ([] : List Addr) := fun b => by simp
  have Ib : Un (frs outer) [] H H1 sB.heap s1.heap := I.base
  refine ⟨ok, np.os.trans (I.os.trans (n1.os.trans n2.os.symm)), np.bare, ?_, ?_, ?_, ?_, ?_, ?_, hok, I.len⟩
  · refine ⟨fun b o hb hn hf hx => ?_, fun b o hb hn hf hx => ?_, fun b o hb hn hx => ?_, fun b o hb hx => ?_, fun b xs h => np.tups b xs (Ib.tups b xs h), fun b o u h => np.frzs b o u (Ib.frzs b o u h), fun b ps h => ?_⟩
    · have hne : b ≠ L := fun z => hf (by rw [z]; exact hL)
      have hb : sC.heap.get? b = some o := hb
      rw [same b hne] at hb
      exact np.keep b o hne (Ib.keep b o hb hn hf (noex b)) (Ib.free b o hb hn (noex b))
    · by_cases hne : b = L
      · subst hne
        have hb : sC.heap.get? b = some o := hb
        exact ⟨o.slots, by rw [hat, hb]⟩
      · have hb : sC.heap.get? b = some o := hb
        rw [same b hne] at hb
        obtain ⟨sl, h1⟩ := Ib.slot b o hb hn hf (noex b)
        exact ⟨sl, np.keep b _ hne h1 (Ib.free b o hb hn (noex b))⟩
    · have hb : sC.heap.get? b = some o := hb
      obtain ⟨ob, hob⟩ : ∃ ob, sB.heap.get? b = some ob := by
        by_cases hne : b = L
        · rw [hne]; exact oL
        · exact ⟨o, by rw [← same b hne]; exact hb⟩
      obtain ⟨o1, h1⟩ := Ib.there b ob hob (noex b)
      exact np.free b o1 h1 (Ib.free b ob hob hn (noex b))
    · have hb : sC.heap.get? b = some o := hb
      obtain ⟨ob, hob⟩ : ∃ ob, sB.heap.get? b = some ob := by
        by_cases hne : b = L
        · rw [hne]; exact oL
        · exact ⟨o, by rw [← same b hne]; exact hb⟩
      obtain ⟨o1, h1⟩ := Ib.there b ob hob (noex b)
      exact np.there b o1 h1
    · obtain ⟨m1, h1⟩ := Ib.tbls b ps h
      obtain ⟨m2, h2⟩ := np.tbls b _ h1
      exact ⟨m1 ++ m2, by rw [h2, Array.append_assoc]⟩
  · obtain ⟨m, ⟨o, es, ep, ho, r⟩, hl⟩ := I.loc
    have ho : s1.heap.get? sB.heap.objs.size = some o := ho
    refine ⟨m, ⟨o, es, ep, ?_, r⟩, fun i x v e1 e2 e3 => ?_⟩
    · show s'.heap.get? sC.heap.objs.size = some o
      rw [e]
      exact np.keep _ o locL ho I.free
    · obtain ⟨u, ru, lk⟩ := hl i x v e1 e2 e3
      refine ⟨u, ru, ?_⟩
      rcases lk with lk | ⟨_, c, h, _⟩
      · exact .inl lk
      · have h : (cellsFrom (sB.heap.objs.size + 1) scope.names []).lookup x = some c := h
        rw [hnc] at h; cases h
  · intro x c h
    have h : (cellsFrom (sC.heap.objs.size + 1) scope.names []).lookup x = some c := h
    rw [nol] at h; cases h
  · obtain ⟨m, ⟨o, es, ep, ho, r⟩, hl⟩ := I.loc
    show H' sC.heap.objs.size = none
    rw [e]
    exact np.free _ o ho I.free
  · intro x c h
    have h : (cellsFrom (sC.heap.objs.size + 1) scope.names []).lookup x = some c := h
    rw [nol] at h; cases h
  · intro p hp
    obtain ⟨h1, h2, h3, h4, h5⟩ := I.pin p hp
    have hne : p.1 ≠ L := fun z => h4 (by rw [z]; exact hL)
    refine ⟨np.keep _ _ hne h1 h2, np.free _ _ h1 h2, ?_, h4, h5⟩
    show p.1 ≠ sC.heap.objs.size
    rw [e]; exact h3
end
end DL
namespace DL
open PySem PySem.Spec PyProof.Rows L2 GenW
/-- its meaning: all that it hands out; the last slot has no name -/
def runG (m n : Nat) (b : DS) (ds : List D) : M D := if ds.length = m then match b (ds.map Slot.sh ++ List.replicate (n - ds.length) .no ++ [.gy []]) with
  | .ok .nx st' => .ok (.lst (hid n st'))
  | _ => .stuck
  else .stuck
/-- a generator that has not begun -/
def GMd (P : Program) (w : World) (base : Heap) (k : Nat) (g : G) (outer : List Env) (L : Addr) (H : Hp) (s : Shared) (F : Hp) (all : List D) (u : Value) (s' : Shared) : Prop :=
  ∃ (a : Addr) (gi : Nat) (c : Code), u = .ref a ∧ s.heap.objs.size ≤ a ∧ s'.heap.IsGen a gi ∧ s'.gens[gi]? = some (.fresh c) ∧ s'.os = s.os ∧ AllBare s'.gens ∧ s'.heap.NoLimit ∧ (∀ b o, s.heap.get? b = some o → s'.heap.get? b = some o) ∧
    ∀ Aw, Room k Aw → Aw.frames = some outer → ∃ (T : GF) (gx : Shared → Cx), T.P = P ∧ T.w = w ∧ T.Aw = Aw ∧ T.g = g ∧ T.all = all ∧ (∀ sB, Near base outer L s sB → T.mem (gx sB)) ∧
      (∀ sB σ H1 s1, Near base outer L s sB → Inv (gx sB) [] σ H1 s1 → s1.os = s.os ∧ AllBare s1.gens ∧ Un (frs outer) [] H H1 sB.heap s1.heap ∧ HOk P w H1 s1.heap ∧ s1.heap.IsGen a gi ∧ H1 a = none) ∧
      (∀ sB sC σ H1 H' s1 s2, Near base outer L s sB → Near base outer L s sC → Inv (gx sB) [] σ H1 s1 → Nap L H1 H' s1 s2 → HOk P w H' s2.heap → s2.heap.get? L = sC.heap.get? L → Inv (gx sC) [] σ H' s2) ∧
      ∀ s2 P0, (∀ b o, s'.heap.get? b = some o → s2.heap.get? b = some o) → s2.os = s'.os → AllBare s2.gens → Same P0.R H → (∀ b, P0.N b → F b = none ∧ NT H b) → Go1 (model P w) Aw (ZN T all.length P0 F (gx s)) c ((model P w).den c) [] s2
structure GFd (P : Program) (w : World) (K : PySem.W.Frag) (mg : Str → Option Value) (base : Heap) (k : Nat) (f : Addr) (fd : FuncData) (ps : List Str) (g : G) (df : List D → M D) : Prop where
  run : ∀ (A : Around) (outer : List Env) (L : Addr) (s : Shared) (H F : Hp) (args : Args) (us : List Value) (vs : List V) (ds all : List D), Room k A → Env0 P w K mg base A outer s H → L ∈ frs outer → BindsTo s fd args (ps.zip us) → Vals vs us → Same F H → Rl g F vs ds → df ds = .ok (.lst all) →
    codeAny (model P w) A (.call (.ref f) args) (fun r s' => match r with
      | .ok (.ret u) => GMd P w base k g outer L H s F all u s'
      | _ => False) s
section
variable {P : Program} {w : World} {K : PySem.W.Frag} {mg : Str → Option Value} {base : Heap} {N ps : List Str} {x qual : Str} {params : Arguments} {body : List Stmt} {scope : Scope} {f : Addr} {fd : FuncData} {k : Nat} {tk : Bool} {b : DS} {hx : Str}
theorem go_func {m : Model} {A : Around} {Z : End → Shared → Prop} {P : Program} {w : World} {fs : List Frame} {s : Shared} {env : Env} (h : Go1 (model P w) A Z (.func body env) ((execs body env).wrap (fun f => .pure (.done (.ret (match f with | .ret v => v | _ => .none)))) (fun e => (leaving env e).wrap (fun _ => .raise e) .raise id id) id id) fs s) :
    Go1 (model P w) A Z (.func body env) ((model P w).den (.func body env)) fs s := by
  show Go1 _ A Z _ (.point [] fun _ => ((execs body env).onRaise (leaving env)) >>= _) fs s
  refine go_point ?_
  rw [Sem.onRaise_eq_wrap, Sem.bind_eq_wrap', Sem.wrap_wrap]
  refine Eq.mp ?_ h
  congr 1
  exact Sem.wrap_congr _ _ _ (fun f => by cases f <;> rfl) fun e => by rw [Sem.bind_eq_wrap, Sem.wrap_wrap]; rfl
theorem hid_start {ds : List D} {n : Nat} (h : ds.length ≤ n) : hid n (ds.map Slot.sh ++ List.replicate (n - ds.length) .no ++ [.gy []]) = [] ∧ isGy n (ds.map Slot.sh ++ List.replicate (n - ds.length) .no ++ [.gy []]) = true := by
  have : (ds.map Slot.sh ++ List.replicate (n - ds.length) Slot.no ++ [.gy []])[n]? = some (.gy []) := by
    rw [List.getElem?_append_right (by simp; omega)]
    have : n - (ds.map Slot.sh ++ List.replicate (n - ds.length) Slot.no).length = 0 := by simp; omega
    rw [this]; rfl
  unfold hid isGy
  rw [this]; exact ⟨rfl, rfl⟩
theorem sr_start {g : G} {P0 : Par} {H F : Hp} {vs : List V} {ds : List D} {M : List Str} (le : Same F H) (rr : Same P0.R H) (no : ∀ b, P0.N b → F b = none ∧ NT H b) (r : Rl g F vs ds) (hm : ds.length < M.length) :
    SR g P0 (L2.start M vs) H F (ds.map Slot.sh ++ List.replicate (M.length - 1 - ds.length) .no ++ [.gy []]) := by
  have hl : vs.length = ds.length := r.length
  refine ⟨fun _ => none, le, rr, (fun a i e => by cases e), no, ?_, fun i sl ov e1 e2 => ?_⟩
  · unfold L2.start
    simp; omega
  · rcases Nat.lt_or_ge i (M.length - 1) with h | h
    · rw [List.getElem?_append_left (by simp; omega)] at e1
      exact init_sl r _ i sl ov e1 e2
    · rw [List.getElem?_append_right (by simp; omega)] at e1
      rcases List.getElem?_eq_some_iff.mp e1 with ⟨q, e⟩
      have q : i - (ds.map Slot.sh ++ List.replicate (M.length - 1 - ds.length) Slot.no).length < 1 := q
      have e0 : i - (ds.map Slot.sh ++ List.replicate (M.length - 1 - ds.length) Slot.no).length = 0 := by omega
      rw [e0] at e1
      cases e1
      exact ⟨[], .nil⟩
theorem gfn_data (Fd : FunD K x qual params body scope [] [] f fd) (S : GScope N ps scope) (hp : ps.length < N.length) (hnc : ∀ k, cellsFrom k scope.names [] = [])
    (hbody : ∀ T : GF, T.P = P → T.w = w → T.g = ⟨K, mg, none, tk⟩ → T.n = N.length - 1 → T.env.scope.isCoroutine = false → (∀ X, T.mem X → ∃ (cdv : Value) (A : Around) (outer : List Env) (s : Shared) (H : Hp) (pn : List (Addr × Obj)), X = gcxOf P w K mg base N qual scope f cdv A outer s H EN pn ∧ Room k (A.deeper (envOfC qual scope s.heap.objs.size f cdv)) ∧ Takes X (fun cls dd _ H => EN cls dd H)) → GSd T (execs body) b ∧ Mono (N.length - 1) b) :
    GFd P w K mg base (k + 1) f fd ps ⟨K, mg, none, tk⟩ (runG ps.length (N.length - 1) b) := by
  obtain ⟨oc, od, dV, kV, doc, pm, an, cdv, ct, osl, rfl, lk, hcd, _, _⟩ := Fd.ex
  refine ⟨fun A outer L s H F args us vs ds all hr e0 hL hb r le rl hd => ?_⟩
  have hdl : ds.length = ps.length := by
    unfold runG at hd
    split at hd
    · assumption
    · cases hd
  have hvl : vs.length = ps.length := rl.length.trans hdl
  have kin : K.In s.heap := e0.mod.kin.keeps fun c o e => (e0.bs c o e).1
  have lim0 : s.heap.NoLimit := e0.mod.nolimit.keeps fun c o e => (e0.bs c o e).1
  have par : ∀ y ∈ ps.zip us, scope.names.lookup y.1 = some .local ∨ (scope.names.lookup y.1 = some .cell ∧ ((cellsFrom (s.heap.objs.size + 1) scope.names []).lookup y.1).isSome = true) := by
    rintro ⟨nm, v⟩ hy
    have := S.par nm (List.of_mem_zip hy).1
    rcases this with q | q
    · exact .inl q
    · exact .inr ⟨q, PySem.W.cellsFrom_some _ _ _ (.inl q)⟩
  refine codeAny_call_generator hr.depth (kin _ _ lk) rfl S.co S.gen rfl (PySem.W.codeRec_of kin hcd) (hb _ _ _ _ (wpAny_newFunctionEnv_cells S.kind par fun env he s1 x => ?_))
  subst he
  have lim1 : s1.heap.NoLimit := lim0.keeps x.toInCall.keep
  obtain ⟨h1, tk1, es1, hk1⟩ := x.done
  have os1 : s1.os = s.os := by rw [es1]
  have gen1 : s1.gens = s.gens := by rw [es1]
  have lt1 : s.heap.objs.size < s1.heap.objs.size := x.toInCall.ns.lt
  have kp1 : ∀ c o, s.heap.get? c = some o → s1.heap.get? c = some o := x.toInCall.keep
  refine ⟨lim1, ?_⟩
  have main : ∀ (go : Obj) (nm qn : Value) (tk2 : Nat), go.cls = .type "generator" → go.data = .fields #[.int s1.gens.size 0, nm, qn] → go.slots = #[] → (∀ h : Heap, (h.push go).get? h.objs.size = some go) →
      GMd P w base (k + 1) ⟨K, mg, none, tk⟩ outer L H s F all (.ref s1.heap.objs.size) { s1 with gens := s1.gens.push (.fresh (.func body (envOfC qual scope s.heap.objs.size f cdv))), toks := tk2, heap := s1.heap.push go } := by
    intro go nm qn tk2 c1 c2 c3 c4
    have isg : ∀ h : Heap, h.get? s1.heap.objs.size = some go → h.IsGen s1.heap.objs.size s1.gens.size := fun h e => ⟨go, nm, qn, e, c1, c2, c3⟩
    refine ⟨s1.heap.objs.size, s1.gens.size, _, rfl, Nat.le_of_lt lt1, isg _ (c4 _), Array.getElem?_push_size .., os1, AllBare.push (by rw [gen1]; exact e0.bare) rfl, lim1.keeps fun c o e => Heap.get?_push_of_some _ e, fun c o e => Heap.get?_push_of_some _ (kp1 c o e), ?_⟩
    intro Aw hrw hfr
    have e0w : Env0 P w K mg base Aw outer s H := ⟨hfr, e0.mod, e0.bs, e0.bsz, e0.funs, e0.frf, e0.hok, e0.bare⟩
    have near0 : Near base outer L s s := ⟨rfl, rfl, fun _ _ => rfl, e0.funs⟩
    let gx : Shared → Cx := fun sB => gcxOf P w K mg base N qual scope f cdv Aw outer sB H EN [(s1.heap.objs.size, go)]
    have envEq : ∀ sB, Near base outer L s sB → (gx sB).env = envOfC qual scope s.heap.objs.size f cdv := fun sB h => by
      show envOfC qual scope sB.heap.objs.size f cdv = _
      rw [h.sz]
    let T : GF := {
      P := P, w := w, env := envOfC qual scope s.heap.objs.size f cdv, A := Aw.deeper (envOfC qual scope s.heap.objs.size f cdv), Aw := Aw
      mem := fun X => ∃ sB, Near base outer L s sB ∧ X = gx sB
      g := ⟨K, mg, none, tk⟩, n := N.length - 1, all := all
      hP := fun X h => by obtain ⟨sB, _, rfl⟩ := h; rfl
      hw := fun X h => by obtain ⟨sB, _, rfl⟩ := h; rfl
      he := fun X h => by obtain ⟨sB, n, rfl⟩ := h; exact envEq sB n
      hA := fun X h => by
        obtain ⟨sB, n, rfl⟩ := h
        show Aw.deeper (envOfC qual scope sB.heap.objs.size f cdv) = _
        rw [n.sz]
      own := fun X h => by obtain ⟨sB, n, rfl⟩ := h; exact owns_gcx }
    have hT : ∀ X, T.mem X → ∃ (cdv : Value) (A : Around) (outer : List Env) (s : Shared) (H : Hp) (pn : List (Addr × Obj)), X = gcxOf P w K mg base N qual scope f cdv A outer s H EN pn ∧ Room k (A.deeper (envOfC qual scope s.heap.objs.size f cdv)) ∧ Takes X (fun cls dd _ H => EN cls dd H) := fun X h => by
      obtain ⟨sB, n, rfl⟩ := h
      exact ⟨cdv, Aw, outer, sB, H, _, rfl, hrw.deeper _, takes_gcx⟩
    obtain ⟨gs, mo⟩ := hbody T rfl rfl rfl rfl S.co hT
    refine ⟨T, gx, rfl, rfl, rfl, rfl, rfl, fun sB n => ⟨sB, n, rfl⟩, fun sB σ H1 s2 n I => ?_, fun sB sC σ H1 H' s2 s3 n1 n2 I np hok hat => fam_move hnc hL n1 n2 I np hok hat, fun s2 P0 hk2 hos hba hrr hno => ?_⟩
    · have hp := I.pin (s1.heap.objs.size, go) (List.mem_append_left _ (List.mem_singleton.mpr rfl))
      exact ⟨I.os.trans n.os, I.bare, I.base, I.hok, isg _ hp.1, hp.2.1⟩
    · have I1 : Inv (gcxOf P w K mg base N qual scope f cdv Aw outer s H EN []) [] (start N vs) H s1 := inv_startG S hrw.hd e0w hvl r x
      have kp2 : ∀ c o, s1.heap.get? c = some o → s2.heap.get? c = some o := fun c o e => hk2 c o (Heap.get?_push_of_some _ e)
      have I2 : Inv (gcxOf P w K mg base N qual scope f cdv Aw outer s H EN []) [] (start N vs) H s2 :=
        I1.call' (ch := []) (hos.trans rfl) (Un.kept kp2) (I1.hok.kept kp2) hba fun c z => by cases z
      have I3 : Inv (gx s) [] (start N vs) H s2 := by
        refine Inv.pinnedG I2 fun p hp => ?_
        have hp : p = (s1.heap.objs.size, go) := by simpa using hp
        subst hp
        exact ⟨hk2 _ _ (c4 _), I1.hok.fresh (Nat.le_refl _), Nat.ne_of_gt lt1, I1.nofs (Nat.le_refl _), fun v q => by rw [c2] at q; cases q⟩
      unfold runG at hd
      rw [if_pos hdl] at hd
      obtain ⟨hh, hg⟩ := hid_start (ds := ds) (n := N.length - 1) (by omega)
      generalize hst : (ds.map Slot.sh ++ List.replicate (N.length - 1 - ds.length) Slot.no ++ [.gy []] : DSt) = st0 at hd hh hg
      have sr : SR ⟨K, mg, none, tk⟩ P0 (start N vs) H F st0 := by
        rw [← hst]
        exact sr_start le hrr hno rl (by omega)
      split at hd
      · rename_i st1 hb1
        have ha : hid (N.length - 1) st1 = all := by cases hd; rfl
        refine go_func (m := model P w) ?_
        refine gs _ [] _ _ id id (gx s) P0 F _ H st0 all.length s2 .nx st1 ⟨over_func, rfl, rfl, rfl⟩ ?_ ⟨s, near0, rfl⟩ I3 sr hg hb1 ?_ ⟨[], ?_⟩ ?_
        · intro X e s3 hX hx Z
          obtain ⟨sB, n, rfl⟩ := hX
          refine go_wrap ?_
          have hov : Aw.over (.func body (envOfC qual scope s.heap.objs.size f cdv)) [] = Aw.deeper (envOfC qual scope s.heap.objs.size f cdv) := over_func
          show wpAny (model P w) (Aw.over (.func body (envOfC qual scope s.heap.objs.size f cdv)) []) _ _ _ s3
          rw [hov, ← n.sz]
          have hx : wpAny (model P w) (Aw.deeper (envOfC qual scope sB.heap.objs.size f cdv)) (leaving (envOfC qual scope sB.heap.objs.size f cdv) e) (fun _ s'' => L2.CX P w outer H sB EN e s'' ∧ ∀ p ∈ [(s1.heap.objs.size, go)], s''.heap.get? p.1 = some p.2) (fun _ _ => False) s3 := hx
          refine wpAny_mono hx (fun _ s4 q => ?_) fun _ _ q => q.elim
          obtain ⟨⟨_, _, _, _, _, _, _, _, _, _, _, _, q⟩, _⟩ := q
          exact q.elim
        · show (hid (N.length - 1) st0).length + all.length = all.length
          rw [hh]; simp
        · show all = hid (N.length - 1) st1 ++ []
          rw [ha]; simp
        · intro X' P' F' σ' H' m' s3 hX' I' sr' hl'
          have hl' : (hid (N.length - 1) st1).length + m' = all.length := hl'
          have : m' = 0 := by rw [ha] at hl'; omega
          subst this
          exact ⟨.next, rfl, go_end (.ok (.ret .none)) ⟨_, rfl, .inl rfl, σ', H', F', st1, hX', I', sr', Same.refl _⟩⟩
      · cases hd
  exact main _ _ _ _ rfl rfl rfl fun h => Heap.get?_push_size _ rfl
end
end DL
namespace DL
open PySem PySem.Spec PyProof.Rows L2 GenW
section
variable {g : G} {Pc P' : Par} {Oc Og : Addr → Option Nat} {σc σg : L2.St} {H F H1 F1 : Hp} {stc stg : DSt}
/-- what the caller has, when it wakes the generator with P' -/
structure Holds (P' Pc : Par) (Oc : Addr → Option Nat) (H : Hp) : Prop where
  r : ∀ a o, H a = some o → (Oc a ≠ none ∨ Pc.R a ≠ none ∨ Pc.N a) → P'.R a = some o
  n : ∀ a, (Oc a ≠ none ∨ Pc.N a) → P'.N a
/-- behind the generator's turn the caller has what it had -/
theorem SRc.turn (c : SRc g Pc Oc σc H F stc) (h : Holds P' Pc Oc H) (s : SR g P' σg H1 F1 stg) (le : Same F F1) : SRc g Pc Oc σc H1 F1 stc ∧ ∃ Og, SRc g P' Og σg H1 F1 stg ∧ ∀ a, Og a ≠ none → Oc a = none ∧ Pc.R a = none ∧ ¬ Pc.N a := by
  obtain ⟨Og, q⟩ := s
  have keep : ∀ a o, H a = some o → (Oc a ≠ none ∨ Pc.R a ≠ none ∨ Pc.N a) → H1 a = some o := fun a o ha hh => q.rr a o (h.r a o ha hh)
  refine ⟨⟨q.le, fun a o ha => keep a o (c.rr a o ha) (.inr (.inl (by rw [ha]; simp))), fun a i ha => ?_, fun a ha => ?_, c.len, fun i s ov e1 e2 => (c.sl i s ov e1 e2).move rfl (fun _ h => h) le (fun a o ha hh => keep a o hh (.inl (by rw [ha]; simp))) fun _ _ h => h⟩, Og, q, fun a ha => ?_⟩
  · obtain ⟨h1, h2, h3⟩ := c.oo a i ha
    have := q.no a (h.n a (.inl (by rw [ha]; simp)))
    exact ⟨this.1, h2, this.2⟩
  · exact q.no a (h.n a (.inr ha))
  · obtain ⟨j, hj⟩ := ne_some ha
    obtain ⟨h1, h2, h3⟩ := q.oo a j hj
    refine ⟨?_, ?_, fun hn => ?_⟩
    · cases e : Oc a with
      | none => rfl
      | some i =>
        obtain ⟨o, ho⟩ := (c.oo a i e).2.2.get
        rw [h.r a o ho (.inl (by rw [e]; simp))] at h2; cases h2
    · cases e : Pc.R a with
      | none => rfl
      | some o =>
        rw [h.r a o (c.rr a o e) (.inr (.inl (by rw [e]; simp)))] at h2; cases h2
    · obtain ⟨o, ho⟩ := (c.no a hn).2.get
      rw [h.r a o ho (.inr (.inr hn))] at h2; cases h2
/-- what the caller's turn owes: the generator's things stay -/
def parC (Pc : Par) (Oc Og : Addr → Option Nat) (H : Hp) : Par := ⟨Pc.B, fun a => match Oc a with | some _ => none | none => H a, fun a => Pc.N a ∨ Og a ≠ none⟩
theorem SRc.toC (c : SRc g Pc Oc σc H F stc) (q : SRc g P' Og σg H F stg) (d : ∀ a, Og a ≠ none → Oc a = none ∧ Pc.R a = none ∧ ¬ Pc.N a) : SRc g (parC Pc Oc Og H) Oc σc H F stc := by
  refine ⟨c.le, fun a o ha => ?_, fun a i ha => ?_, fun a ha => ?_, c.len, fun i s ov e1 e2 => (c.sl i s ov e1 e2).move rfl (fun _ h => h) (Same.refl _) (fun _ _ _ h => h) fun a ha hn => ?_⟩
  · unfold parC at ha
    simp only at ha
    split at ha
    · cases ha
    · exact ha
  · obtain ⟨h1, h2, h3⟩ := c.oo a i ha
    refine ⟨h1, ?_, h3⟩
    unfold parC
    simp only [ha]
  · rcases ha with ha | ha
    · exact c.no a ha
    · obtain ⟨j, hj⟩ := ne_some ha
      exact ⟨(q.oo a j hj).1, (q.oo a j hj).2.2⟩
  · rintro (h | h)
    · exact hn h
    · have := (d a h).1
      rw [ha] at this; cases this
/-- behind the caller's turn: what the generator may be woken with -/
def parG (Pg : Par) (Og : Addr → Option Nat) (H F : Hp) : Par := ⟨Pg.B, fun a => match Og a with | some _ => none | none => H a, fun a => F a = none ∧ NT H a ∧ Og a = none⟩
theorem SRc.back {σc' : L2.St} {H' F' : Hp} {stc' : DSt} (c : SRc g Pc Oc σc H F stc) (q : SRc g P' Og σg H F stg) (d : ∀ a, Og a ≠ none → Oc a = none ∧ Pc.R a = none ∧ ¬ Pc.N a) (s : SR g (parC Pc Oc Og H) σc' H' F' stc') (le : Same F F') :
    ∃ Oc', SRc g Pc Oc' σc' H' F' stc' ∧ SRc g (parG P' Og H' F') Og σg H' F' stg ∧ Holds (parG P' Og H' F') Pc Oc' H' := by
  obtain ⟨Oc', z⟩ := s
  have rP : ∀ a o, H a = some o → Oc a = none → H' a = some o := fun a o ha ho => z.rr a o (by
    unfold parC
    simp only [ho]; exact ha)
  have own : ∀ a i, Oc' a = some i → (∃ j, Oc a = some j) ∨ H a = none := fun a i ha => by
    have h2 := (z.oo a i ha).2.1
    unfold parC at h2
    simp only at h2
    split at h2
    · rename_i j hj; exact .inl ⟨j, hj⟩
    · exact .inr h2
  have disj : ∀ a, Og a ≠ none → Oc' a = none := fun a ha => by
    cases e : Oc' a with
    | none => rfl
    | some i =>
      obtain ⟨j, hj⟩ := ne_some ha
      rcases own a i e with ⟨k, hk⟩ | hk
      · rw [(d a ha).1] at hk; cases hk
      · obtain ⟨o, ho⟩ := (q.oo a j hj).2.2.get
        rw [hk] at ho; cases ho
  refine ⟨Oc', ⟨z.le, fun a o ha => ?_, fun a i ha => ?_, fun a ha => z.no a (.inl ha), z.len, fun i s ov e1 e2 => (z.sl i s ov e1 e2).move rfl (fun _ h => h) (Same.refl _) (fun _ _ _ h => h) fun a _ hn h => hn (.inl h)⟩,
    ⟨z.le, fun a o ha => ?_, fun a i ha => ?_, fun a ha => ⟨ha.1, ha.2.1⟩, q.len, fun i s ov e1 e2 => (q.sl i s ov e1 e2).move rfl (fun _ h => h) le (fun a o ha hh => rP a o hh (d a (by rw [ha]; simp)).1) fun a ha _ hn => ?_⟩, ?_⟩
  · refine rP a o (c.rr a o ha) ?_
    cases e : Oc a with
    | none => rfl
    | some i => rw [(c.oo a i e).2.1] at ha; cases ha
  · obtain ⟨h1, h2, h3⟩ := z.oo a i ha
    refine ⟨h1, ?_, h3⟩
    cases e : Pc.R a with
    | none => rfl
    | some o =>
      rcases own a i ha with ⟨k, hk⟩ | hk
      · rw [(c.oo a k hk).2.1] at e; cases e
      · rw [c.rr a o e] at hk; cases hk
  · unfold parG at ha
    simp only at ha
    split at ha
    · cases ha
    · exact ha
  · have hn := z.no a (.inr (by rw [ha]; simp))
    refine ⟨hn.1, ?_, hn.2⟩
    unfold parG
    simp only [ha]
  · rw [hn.2.2] at ha; cases ha
  · refine ⟨fun a o ha hh => ?_, fun a hh => ?_⟩
    · have : Og a = none := by
        cases e : Og a with
        | none => rfl
        | some j =>
          have da := d a (by rw [e]; simp)
          rcases hh with h | h | h
          · exact absurd (disj a (by rw [e]; simp)) h
          · exact absurd da.2.1 h
          · exact absurd h da.2.2
      unfold parG
      simp only [this]; exact ha
    · have : Og a = none := by
        cases e : Og a with
        | none => rfl
        | some j =>
          have da := d a (by rw [e]; simp)
          rcases hh with h | h
          · exact absurd (disj a (by rw [e]; simp)) h
          · exact absurd h da.2.2
      rcases hh with h | h
      · obtain ⟨i, hi⟩ := ne_some h
        obtain ⟨h1, h2, h3⟩ := z.oo a i hi
        exact ⟨h1, h3, this⟩
      · have := z.no a (.inl h)
        exact ⟨this.1, this.2, by assumption⟩
/-- at the first wake the generator has nothing -/
def parG0 (H F : Hp) : Par := ⟨[], H, fun a => F a = none ∧ NT H a⟩
theorem SRc.holds0 (c : SRc g Pc Oc σc H F stc) : Holds (parG0 H F) Pc Oc H := by
  refine ⟨fun a o ha _ => ha, fun a hh => ?_⟩
  rcases hh with h | h
  · obtain ⟨i, hi⟩ := ne_some h
    exact ⟨(c.oo a i hi).1, (c.oo a i hi).2.2⟩
  · exact c.no a h
end
end DL
namespace DL
open PySem PySem.Spec PyProof.Rows L2 GenW
section
variable {P : Program} {w : World} {A : Around} {Z : End → Shared → Prop} {Q : Option Value → Shared → Prop} {E : Value → Shared → Prop} {s : Shared} {a : Addr} {gi : Nat} {gs : GenState}
/-- the exception at the end of a generator -/
theorem stop_made {B : Around} {α : Type} {K : Value → Unit → Sem α} {R : α → Shared → Prop} {R' : Value → Shared → Prop} {s : Shared} (hB : B.handled = none)
    (h : ∀ n h', (∀ b o, s.heap.get? b = some o → h'.get? b = some o) → (∃ o, h'.get? n = some o ∧ o.cls = .type "StopIteration") → R' (.ref n) { s with heap := h' }) :
    wpAny (model P w) B ((newExc (.type "StopIteration") [] >>= fun e => raiseNew e >>= K e) : Sem α) R R' s := by
  simp only [newExc, newTuple, raiseNew]
  refine wpAny_bind (wpAny_bind (wpAny_newObj_type (wpAny_bind ?_) (by size_fits)))
  refine wpAny_of_eq (a := Value.none) (by first | rfl | (simp only [firstArgMember]; rfl)) ?_
  refine wpAny_newObj_type (wpAny_bind (wpAny_bind (wpAny_bind (wpAny_handled ?_)))) (by size_fits)
  rw [hB]
  refine wpAny_pure (wpAny_throw ?_)
  exact h _ _ (fun b o e => Heap.get?_push_of_some _ (Heap.get?_push_of_some _ e)) ⟨_, Heap.get?_push_size _ rfl, rfl⟩
/-- the next item of a generator -/
theorem gen_next (hA : A.handled = none) (lim : s.heap.NoLimit) (room : A.depth < recursionLimit) (isg : s.heap.IsGen a gi) (at' : s.gens[gi]? = some gs) (ready : Ready (model P w) A.in1 Z gs (s.setGen gi .running))
    (after : ∀ e s1, Z e s1 → e.quiet = true ∧ ((∃ v b l k c p fs, e = .susp v b l k c p fs ∧ Q (some v) (s1.setGen gi e.genState)) ∨
      ((e = .ret (.ok (.ret .none)) ∨ e = .ret (.ok .next)) ∧ ∀ h', (∀ b o, s1.heap.get? b = some o → h'.get? b = some o) → Q none { s1.setGen gi .finished with heap := h' }))) :
    wpAny (model P w) A (pyNext (.ref a)) Q E s := by
  unfold pyNext
  refine wpAny_bind (wpAny_attempt (wpAny_callSpecial?_slot (name := Str.ofString "__next__") isg.typeIs slot_gen_next (wpAny_call_entry slot_gen_next isg.typeIs entry_gen_next ?_ (args_gen_next _))))
  change wpAny (model P w) A.in1 (Builtin.Generator.genWake (.ref a) (.send .none)) _ _ s
  unfold Builtin.Generator.genWake; dsimp only [] <;> skip
  refine wpAny_bind (wpAny_holding (wpAny_genNumber isg (wpAny_bind (wpAny_genState at' ?_))))
  cases gs with
  | running => exact ready.elim
  | finished => exact ready.elim
  | _ =>
    refine wpAny_bind (wpAny_roomToWake lim room ?_)
    refine go_resume at' ready (fun e s1 z => (after e s1 z).1) fun e s1 z => ?_
    rcases (after e s1 z).2 with ⟨v, b, l, k, c, p, fs, rfl, q⟩ | ⟨he, q⟩
    · exact wpAny_pure ⟨v, rfl, wpAny_pure q⟩
    · have h1 : e.result = .returned .none := by rcases he with rfl | rfl <;> rfl
      have h2 : e.genState = .finished := by rcases he with rfl | rfl <;> rfl
      rw [h1, h2]
      show wpAny _ A.in1 (newExc (.type "StopIteration") [] >>= fun e => raiseNew e >>= fun _ => _) _ _ (s1.setGen gi .finished)
      refine stop_made (B := A.in1) hA fun n h' k1 ⟨o, k2, k3⟩ => ?_
      exact wpAny_bind (wpAny_isInstance (T := "StopIteration") (b := true) ⟨o, k2, k3⟩ isSubtype_stop (wpAny_pure (q h' k1)))
end
end DL
namespace DL
open PySem PySem.Spec PyProof.Rows L2 GenW
section
variable {X : Cx} {pins : List (Addr × Obj)} {σ σ0 : L2.St} {H H0 H1 : Hp} {s s0 sC : Shared}
/-- only the frame is another one -/
theorem inv_loc (hc : X.env.cells = []) (I : Inv X pins σ0 H s) (hb : Heap.SameBut X.env.locals s.heap sC.heap) (ho : sC.os = s.os) (hg : AllBare sC.gens)
    (hl : ∃ m, sC.heap.Ns X.env.locals m ∧ ∀ (i : Nat) (x : Str) (v : V), X.N[i]? = some x → σ[i]? = some (some v) → Vis X.env.scope x → ∃ u, RelV v u ∧ Look X.env sC.heap m x u) (hn : σ.length = X.N.length) : Inv X pins σ H sC := by
  have old : ∀ {b : Addr} {o : Obj}, X.s_0.heap.get? b = some o → b ≠ X.env.locals := fun e => Nat.ne_of_lt (Nat.lt_of_lt_of_le (Heap.lt_size e) I.ok.above)
  have noc : ∀ {x c}, X.env.cells.lookup x = some c → False := fun e => by rw [hc] at e; cases e
  refine ⟨I.ok, ho.trans I.os, hg, ⟨fun b o e n h1 h2 => ?_, fun b o e n h1 h2 => ?_, I.base.free, fun b o e h2 => ?_, I.base.tups, I.base.frzs, I.base.tbls⟩, hl, fun x c e => (noc e).elim, I.free, fun x c e => (noc e).elim, fun p hp => ?_, fun b u e => ?_, hn⟩
  · rw [hb.2 b (old e)]; exact I.base.keep b o e n h1 h2
  · obtain ⟨sl, q⟩ := I.base.slot b o e n h1 h2
    exact ⟨sl, by rw [hb.2 b (old e)]; exact q⟩
  · obtain ⟨o', q⟩ := I.base.there b o e h2
    exact ⟨o', by rw [hb.2 b (old e)]; exact q⟩
  · obtain ⟨q, n, ne, nf, d⟩ := I.pin p hp
    exact ⟨by rw [hb.2 p.1 ne]; exact q, n, ne, nf, d⟩
  · refine (I.hok b u e).stay (fun c v hx q => by
      rw [hb.2 c ?_]
      · exact q
      · rintro rfl
        rcases hx with rfl | hx
        · rw [I.free] at e; cases e
        · rw [I.free] at hx; cases hx) (fun _ q => q) fun _ _ q => q
theorem ns_at {h h' : Heap} {L : Addr} {m : Str → Option Value} (n : h.Ns L m) (e : h'.get? L = h.get? L) : h'.Ns L m := by
  obtain ⟨o, es, ep, ho, r⟩ := n
  exact ⟨o, es, ep, e.trans ho, r⟩
/-- what the frame tells now, over what stood at the call -/
theorem cons_mix (hc : X.env.cells = []) (I0 : Inv X pins σ0 H0 s0) (I1 : Inv X pins σ H s) (hb : Heap.SameBut X.env.locals s0.heap sC.heap) (ho : sC.os = s0.os) (hg : AllBare sC.gens) (hat : sC.heap.get? X.env.locals = s.heap.get? X.env.locals) : Inv X pins σ H0 sC := by
  obtain ⟨m, n, l⟩ := I1.loc
  refine inv_loc hc I0 hb ho hg ⟨m, ns_at n hat, fun i x v e1 e2 e3 => ?_⟩ I1.len
  obtain ⟨u, r, lk⟩ := l i x v e1 e2 e3
  refine ⟨u, r, ?_⟩
  rcases lk with lk | ⟨_, c, h, _⟩
  · exact .inl lk
  · rw [hc] at h; cases h
/-- a name is stored, and nothing else -/
theorem inv_store {M : Model} {A : Around} {E : Value → Shared → Prop} {i : Nat} {x : Str} {v : V} {u : Value} {Q : Unit → Shared → Prop} (hc : X.env.cells = []) (I : Inv X pins σ H s) (hN : X.N.Nodup) (hi : X.N[i]? = some x) (hk : X.env.scope.names.lookup x = some .local) (r : RelV v u)
    (h : ∀ h' t, Inv X pins (σ.set i (some v)) H { s with heap := h', toks := t } → Heap.SameBut X.env.locals s.heap h' → Q () { s with heap := h', toks := t }) : wpAny M A (storeName X.env x u) Q E s := by
  obtain ⟨m, hn, hl⟩ := I.loc
  have hiσ : i < σ.length := by rw [I.len]; exact (List.getElem?_eq_some_iff.mp hi).1
  refine wpAny_storeName_local hk hn (fun h' hn' hs => ?_) (by rw [I.ok.kind]; rfl)
  refine h h' _ (inv_loc hc I hs rfl I.bare ⟨_, hn', fun j y v' e1 e2 e3 => ?_⟩ (by rw [List.length_set]; exact I.len)) hs
  by_cases hj : j = i
  · subst hj
    rw [hi] at e1
    cases e1
    rw [List.getElem?_set_self hiσ] at e2
    cases e2
    exact ⟨u, r, Or.inl ⟨hk, by simp⟩⟩
  · rw [List.getElem?_set_ne (Ne.symm hj)] at e2
    obtain ⟨u', r', lk⟩ := hl j y v' e1 e2 e3
    refine ⟨u', r', ?_⟩
    rcases lk with ⟨k, e⟩ | ⟨_, c, z, _⟩
    · have ne : y ≠ x := fun z => hj (nodup_ix hN e1 (by rw [z]; exact hi))
      exact Or.inl ⟨k, by simp [ne, e]⟩
    · rw [hc] at z; cases z
end
/-- a loop's body that leaves every generator as it is -/
structure BG (X : Cx) (g : G) (W : WX) (ss : List Stmt) (b : DS) : Prop where
  run : ∀ pins s σ H P F st D, Inv X pins σ H s → SR g P σ H F st → OutS g W P F (b st) D → wpAny (model X.prog X.w) X.A (execs ss X.env) (fun f s' => match f with
    | .next => ∃ σ' H' F' st', b st = .ok .nx st' ∧ Inv X pins σ' H' s' ∧ SR g P σ' H' F' st' ∧ Same F F' ∧ Nap X.env.locals H H' s s' ∧ s'.gens = s.gens
    | .ret u => ∃ v σ' H', Inv X pins σ' H' s' ∧ RelV v u ∧ D.rt v H'
    | _ => False) X.xe s
section
variable {X : Cx} {g : G} {W : WX} {ss : List Stmt} {b : DS}
theorem bg_ret (h : PSs X ss (tS g W b)) (hr : ∀ st fl st', b st = .ok fl st' → ∃ d, fl = .ret d) : BG X g W ss b := by
  refine ⟨fun pins s σ H P F st D I sr o => ?_⟩
  let D' : Ends := { nx := fun _ _ => False, rt := D.rt }
  have o' : OutS g W P F (b st) D' := by
    cases q : b st with
    | ok fl st' =>
      obtain ⟨d, rfl⟩ := hr _ _ _ q
      rw [q] at o; exact o
    | exn c fs st' => rw [q] at o; exact o
    | stuck => rw [q] at o; exact o
  refine wpAny_mono (h.run pins s σ H D' I ⟨P, F, st, sr, o'⟩) (fun f s' hq => ?_) fun _ _ z => z
  cases f with
  | next => obtain ⟨_, _, _, q⟩ := hq; exact q.elim
  | brk => obtain ⟨_, _, _, q⟩ := hq; exact q.elim
  | cont => obtain ⟨_, _, _, q⟩ := hq; exact q.elim
  | ret u =>
    obtain ⟨v, σ', H', I', r, q⟩ := hq
    exact ⟨v, σ', H', I', r, q⟩
theorem outs_par {P P' : Par} {F : Hp} {r : Res Fl} {D : Ends} (h : OutS g W P F r D) (k : ∀ σ' H' F' st', Same F F' → SR g P' σ' H' F' st' → SR g P σ' H' F' st') : OutS g W P' F r D := by
  cases r with
  | ok fl st' => exact fun σ' H' F' le s' => h σ' H' F' le (k _ _ _ _ le s')
  | exn c fs st' => exact fun cls dd σ' H' F' le s' => h cls dd σ' H' F' le (k _ _ _ _ le s')
  | stuck => exact h
end
end DL
namespace DL
open PySem PySem.Spec PyProof.Rows L2 GenW
theorem Nap.eqv {L : Addr} {H H' : Hp} {s s1 s2 : Shared} (n : Nap L H H' s s1) (hh : s2.heap = s1.heap) (ho : s2.os = s1.os) (hb : AllBare s2.gens) : Nap L H H' s s2 :=
  ⟨ho.trans n.os, hb, fun b o h1 h2 h3 => by rw [hh]; exact n.keep b o h1 h2 h3, fun b o h => by rw [hh]; exact n.there b o h, n.free, n.tups, n.frzs, n.tbls⟩
theorem Nap.before {L : Addr} {H H' : Hp} {s s0 s1 : Shared} (n : Nap L H H' s s1) (hh : s.heap = s0.heap) (ho : s.os = s0.os) : Nap L H H' s0 s1 :=
  ⟨n.os.trans ho, n.bare, fun b o h1 h2 h3 => n.keep b o h1 (by rw [hh]; exact h2) h3, fun b o h => n.there b o (by rw [hh]; exact h), fun b o h => n.free b o (by rw [hh]; exact h), n.tups, n.frzs, n.tbls⟩
theorem Nap.andThen {L : Addr} {H H1 H2 : Hp} {s s1 s2 : Shared} (n : Nap L H H1 s s1) (n2 : Nap L H1 H2 s1 s2) : Nap L H H2 s s2 := by
  refine ⟨n2.os.trans n.os, n2.bare, fun b o h1 h2 h3 => n2.keep b o h1 (n.keep b o h1 h2 h3) (n.free b o h2 h3), fun b o h => ?_, fun b o h1 h2 => ?_, fun b xs h => n2.tups b xs (n.tups b xs h), fun b o u h => n2.frzs b o u (n.frzs b o u h), fun b ps h => ?_⟩
  · obtain ⟨o1, h1⟩ := n.there b o h
    exact n2.there b o1 h1
  · obtain ⟨o1, h3⟩ := n.there b o h1
    exact n2.free b o1 h3 (n.free b o h1 h2)
  · obtain ⟨m1, h1⟩ := n.tbls b ps h
    obtain ⟨m2, h2⟩ := n2.tbls b _ h1
    exact ⟨m1 ++ m2, by rw [h2, Array.append_assoc]⟩
theorem Nap.kept {L : Addr} {H : Hp} {s s' : Shared} (ho : s'.os = s.os) (hb : AllBare s'.gens) (k : ∀ b o, s.heap.get? b = some o → s'.heap.get? b = some o) : Nap L H H s s' :=
  ⟨ho, hb, fun b o _ h _ => k b o h, fun b o h => ⟨o, k b o h⟩, fun _ _ _ h => h, fun _ _ h => h, fun _ _ _ h => h, fun b ps h => ⟨#[], by rw [h]; simp⟩⟩
theorem Nap.store {L : Addr} {H : Hp} {s s' : Shared} (ho : s'.os = s.os) (hb : AllBare s'.gens) (hs : Heap.SameBut L s.heap s'.heap) (hL : ∃ o, s'.heap.get? L = some o) : Nap L H H s s' := by
  refine ⟨ho, hb, fun b o h1 h _ => (hs.2 b h1).trans h, fun b o h => ?_, fun _ _ _ h => h, fun _ _ h => h, fun _ _ _ h => h, fun b ps h => ⟨#[], by rw [h]; simp⟩⟩
  by_cases hb : b = L
  · rw [hb]; exact hL
  · exact ⟨o, (hs.2 b hb).trans h⟩
/-- the generator sleeps; m things are to come -/
def Asleep (X : Cx) (T : GF) (gx : Shared → Cx) (a : Addr) (gi : Nat) (s0 : Shared) (P : Par) (Oc : Addr → Option Nat) (m : Nat) (H F : Hp) (s : Shared) : Prop :=
  s.heap.IsGen a gi ∧ H a = none ∧ ∃ gs P' sC, s.gens[gi]? = some gs ∧ Holds P' P Oc H ∧ Near X.base X.stack X.env.locals s0 sC ∧ AllBare sC.gens ∧ sC.heap.get? X.env.locals = s.heap.get? X.env.locals ∧
    ∀ s2 : Shared, s2.heap = s.heap → s2.os = s.os → AllBare s2.gens → Ready (model X.prog X.w) X.A.in1 (ZN T m P' F (gx sC)) gs s2
/-- what a generator that was called has told -/
structure Told (X : Cx) (g : G) (T : GF) (gx : Shared → Cx) (a : Addr) (gi : Nat) (s0 : Shared) (H0 : Hp) : Prop where
  P : T.P = X.prog
  w : T.w = X.w
  Aw : T.Aw = X.A.in1
  g : T.g = g
  mem : ∀ sB, Near X.base X.stack X.env.locals s0 sB → T.mem (gx sB)
  out : ∀ sB σ H1 s1, Near X.base X.stack X.env.locals s0 sB → Inv (gx sB) [] σ H1 s1 → s1.os = s0.os ∧ AllBare s1.gens ∧ Un (frs X.stack) [] H0 H1 sB.heap s1.heap ∧ HOk X.prog X.w H1 s1.heap ∧ s1.heap.IsGen a gi ∧ H1 a = none
  move : ∀ sB sC σ H1 H' s1 s2, Near X.base X.stack X.env.locals s0 sB → Near X.base X.stack X.env.locals s0 sC → Inv (gx sB) [] σ H1 s1 → Nap X.env.locals H1 H' s1 s2 → HOk X.prog X.w H' s2.heap → s2.heap.get? X.env.locals = sC.heap.get? X.env.locals → Inv (gx sC) [] σ H' s2
  ge : s0.heap.objs.size ≤ a
section
variable {X : Cx} {g : G} {W : WX} {ss : List Stmt} {b : DS} {pins : List (Addr × Obj)} {σ σ0 : L2.St} {H H0 H1 : Hp} {s s0 sC : Shared} {T : GF} {gx : Shared → Cx} {a : Addr} {gi i : Nat} {x : Str} {px : Pos}
/-- the state at the call with the frame of now -/
theorem near_now (hc : X.env.cells = []) (I0 : Inv X pins σ0 H0 s0) (I : Inv X pins σ H s) : ∃ sC, Near X.base X.stack X.env.locals s0 sC ∧ AllBare sC.gens ∧ sC.heap.get? X.env.locals = s.heap.get? X.env.locals := by
  obtain ⟨m, ⟨o, es, ep, ho, hd, r⟩, l⟩ := I.loc
  obtain ⟨m0, ⟨o0, es0, ep0, ho0, hd0, r0⟩, l0⟩ := I0.loc
  have live : o.isFreed = false := (Heap.get?_some_iff.mp ho).2
  have h1 : (s0.heap.update X.env.locals fun _ => o).get? X.env.locals = some o := Heap.get?_update_self _ ho0 live
  have sb : Heap.SameBut X.env.locals s0.heap (s0.heap.update X.env.locals fun _ => o) := Heap.SameBut.update ..
  have IC : Inv X pins σ H0 { s0 with heap := s0.heap.update X.env.locals fun _ => o } := cons_mix hc I0 I sb rfl I0.bare (h1.trans ho.symm)
  exact ⟨{ s0 with heap := s0.heap.update X.env.locals fun _ => o }, ⟨rfl, sb.1, sb.2, IC.stack⟩, I0.bare, h1.trans ho.symm⟩
theorem forG_loop (hc : X.env.cells = []) (hN : X.N.Nodup) (hi : X.N[i]? = some x) (hk : X.env.scope.names.lookup x = some .local) (hh : X.A.handled = none) (room : X.A.depth < recursionLimit) (hp : PassesOwn (model X.prog X.w) X.A X.env X.xe)
    (I0 : Inv X pins σ0 H0 s0) (K : Told X g T gx a gi s0 H0) (body : BG X g W ss b) {P : Par} {D : Ends} : ∀ m s, (∃ σ H F st Oc, Inv X pins σ H s ∧ SRc g P Oc σ H F st ∧ OutS g W P F (loop (.nm i) b (T.all.drop (T.all.length - m)) st) D ∧ m ≤ T.all.length ∧ Asleep X T gx a gi s0 P Oc m H F s) →
    codeAny (model X.prog X.w) X.A (.forLoop (.Name x px) (.ref a) ss [] X.env) (fun r s' => match r with | .ok f => SP X pins D f s' | .error e => cameBackBy (model X.prog X.w) X.A X.env X.xe e s') s := by
  have aL : a ≠ X.env.locals := Nat.ne_of_gt (Nat.lt_of_lt_of_le I0.lt K.ge)
  -- behind the generator's turn
  have woke : ∀ {σ : L2.St} {H F : Hp} {s : Shared} {sC : Shared} {σg : L2.St} {H1 : Hp} {s1 : Shared}, Inv X pins σ H s → Near X.base X.stack X.env.locals s0 sC → AllBare sC.gens → sC.heap.get? X.env.locals = s.heap.get? X.env.locals → Inv (gx sC) [] σg H1 s1 → ∀ s2 : Shared, (∀ b o, s1.heap.get? b = some o → s2.heap.get? b = some o) → s2.os = s1.os → AllBare s2.gens → Inv X pins σ H1 s2 := by
    intro σ H F s sC σg H1 s1 I n bC hat Ig s2 hk2 ho2 hb2
    obtain ⟨q1, q2, q3, q4, _⟩ := K.out sC σg H1 s1 n Ig
    have IC : Inv X pins σ H0 sC := cons_mix hc I0 I ⟨n.sz, n.eq⟩ n.os bC hat
    exact IC.call' (ch := []) (ho2.trans (q1.trans n.os.symm)) (q3.trans (Un.kept hk2)) (q4.kept hk2) hb2 fun b hb => by simp at hb
  intro m s h
  refine codeAny_forLoop_any (fun m s => ∃ σ H F st Oc, Inv X pins σ H s ∧ SRc g P Oc σ H F st ∧ OutS g W P F (loop (.nm i) b (T.all.drop (T.all.length - m)) st) D ∧ m ≤ T.all.length ∧ Asleep X T gx a gi s0 P Oc m H F s) ?_ m h
  clear h m s
  rintro m s ⟨σ, H, F, st, Oc, I, c, o, hm, isg, ha, gs, P', sC, hgs, hold, near, bC, hat, ready⟩
  have rdy := ready (s.setGen gi .running) rfl rfl (allBare_setGen I.bare rfl)
  have gil : gi + 1 ≤ s.gens.size := (Array.getElem?_eq_some_iff.mp hgs).1
  cases m with
  | zero =>
    refine wpAny_passesOwn hp (gen_next hh I.nolimit room isg hgs rdy fun e s1 z => ⟨z.quiet, .inr ?_⟩)
    obtain ⟨r, rfl, hr, σg, H1, F1, stg, hX, Ig, sg, le⟩ := z
    refine ⟨hr.imp (fun h => by rw [h]) (fun h => by rw [h]), fun h' hk2 => ?_⟩
    have Ib := (K.out sC σg H1 s1 near Ig).2.1
    have I' := woke (F := F) I near bC hat Ig { s1.setGen gi .finished with heap := h' } hk2 rfl (allBare_setGen Ib rfl)
    rw [K.g] at sg
    obtain ⟨c1, _⟩ := c.turn hold sg le
    rw [Nat.sub_zero, List.drop_length] at o
    exact wpAny_execs_nil ⟨σ, H1, I', o σ H1 F1 le ⟨Oc, c1⟩⟩
  | succ m =>
    refine wpAny_passesOwn hp (wpAny_gsz gil (gen_next hh I.nolimit room isg hgs rdy fun e s1 z => ⟨z.quiet, .inl ?_⟩))
    obtain ⟨v, bb, l, k, cc, pp, fs, σg, H1, F1, stg, xv, d, rfl, hqt, hX, Ig, sg, le, hd, rv, rd, go⟩ := z
    refine ⟨v, bb, l, k, cc, pp, fs, rfl, fun hsz => ?_⟩
    have hgl : gi < s1.gens.size := by
      have : gi + 1 ≤ (s1.setGen gi (End.susp v bb l k cc pp fs).genState).gens.size := hsz
      rw [setGen_size] at this; exact this
    generalize hgst : (End.susp v bb l k cc pp fs).genState = gst
    obtain ⟨q1, q2, q3, q4, q5, q6⟩ := K.out sC σg H1 s1 near Ig
    have b1 : AllBare (s1.setGen gi gst).gens := allBare_setGen q2 (by rw [← hgst]; exact End.bare_of_quiet hqt)
    have I1 : Inv X pins σ H1 (s1.setGen gi gst) := woke (F := F) I near bC hat Ig _ (fun _ _ h => h) rfl b1
    rw [K.g] at sg rd
    obtain ⟨c1, Og, cg, dis⟩ := c.turn hold sg le
    have hdr : T.all.drop (T.all.length - (m + 1)) = d :: T.all.drop (T.all.length - m) := by
      have hlt : T.all.length - (m + 1) < T.all.length := by omega
      rw [List.drop_eq_getElem_cons hlt]
      have : T.all[T.all.length - (m + 1)] = d := by
        have h2 := List.getElem?_eq_getElem hlt
        rw [hd] at h2; exact (Option.some.inj h2).symm
      rw [this]
      have h3 : T.all.length - (m + 1) + 1 = T.all.length - m := by omega
      rw [h3]
    rw [hdr] at o
    unfold loop at o
    have hist : i < st.length := by
      rw [← c.len, I.len]; exact (List.getElem?_eq_some_iff.mp hi).1
    have hset : setT (.nm i) d st = some (st.set i (.sh d)) := by
      show slotSet i (.sh d) st = _
      unfold slotSet
      rw [List.getElem?_eq_getElem hist]
    rw [hset] at o
    simp only at o
    obtain ⟨og, nm, qn, hog, hcls, hdata, hslots⟩ := id q5
    refine wpAny_passesOwn hp (go_of (s := s1.setGen gi gst) (o := og) (n := "generator") hog hcls hdata (by decide) ?_)
    refine wpAny_passesOwn hp (wpAny_assign_Name (inv_store hc I1 hN hi hk rv fun h' t I2 sb => ?_))
    have c2 := c1.toC cg dis
    have sr2 : SR g (parC P Oc Og H1) (σ.set i (some xv)) H1 F1 (st.set i (.sh d)) := SR.put ⟨Oc, c2⟩ rd hist
    have back : ∀ σ' H' F' st', Same F1 F' → SR g (parC P Oc Og H1) σ' H' F' st' → SR g P σ' H' F' st' := fun σ' H' F' st' le' s' => by
      obtain ⟨Oc', z, _⟩ := c1.back cg dis s' le'
      exact ⟨Oc', z⟩
    let D' : Ends := { nx := fun _ _ => True, rt := D.rt, bk := fun _ _ => True, ct := fun _ _ => True }
    have o2 : OutS g W P F1 (b (st.set i (.sh d))) D' := by
      revert o
      cases b (st.set i (.sh d)) with
      | ok fl st3 =>
        intro o
        cases fl with
        | nx => exact fun _ _ _ _ _ => trivial
        | cnt => exact fun _ _ _ _ _ => trivial
        | brk => exact fun _ _ _ _ _ => trivial
        | ret u => exact fun σ' H' F' le' s' => o σ' H' F' (le.trans le') s'
      | exn cx fs st3 => exact fun o cls dd σ' H' F' le' s' => o cls dd σ' H' F' (le.trans le') s'
      | stuck => exact fun o => o
    refine wpAny_passesOwn hp (thn (body.run pins _ _ H1 _ F1 _ D' I2 sr2 (outs_par o2 back)) fun f s3 hf => ?_)
    cases f with
    | brk => exact hf.elim
    | cont => exact hf.elim
    | ret u => exact hf
    | next =>
      obtain ⟨σ', H', F', st3, hb3, I3, sr3, le3, nap, hgens⟩ := hf
      rw [hb3] at o
      simp only at o
      obtain ⟨Oc', z1, z2, z3⟩ := c1.back cg dis sr3 le3
      have nap1 : Nap X.env.locals H1 H' s1 s3 := by
        obtain ⟨mm, ⟨oL, _, _, hoL, _⟩, _⟩ := I2.loc
        have n1 : Nap X.env.locals H1 H1 (s1.setGen gi gst) { s1.setGen gi gst with heap := h', toks := t } := Nap.store rfl b1 sb ⟨oL, hoL⟩
        exact (n1.andThen nap).before rfl rfl
      obtain ⟨sC', near', bC', hat'⟩ := near_now hc I0 I3
      refine ⟨m, Nat.lt_succ_self _, σ', H', F', st3, Oc', I3, z1, OutS.weak (le.trans le3) o, by omega, ⟨og, nm, qn, nap1.keep a og aL hog q6, hcls, hdata, hslots⟩, nap1.free a og hog q6, gst, parG P' Og H' F', sC', ?_, z3, near', bC', hat', fun s4 e1 e2 e3 => ?_⟩
      · rw [hgens]; exact setGen_at hgl
      · have nap2 := nap1.eqv e1 e2 e3
        have Ig' := K.move sC sC' σg H1 H' s1 s4 near near' Ig nap2 (by rw [e1]; exact I3.hok) (by rw [e1]; exact hat'.symm)
        rw [← K.P, ← K.w, ← K.Aw, ← hgst]
        exact go (gx sC') (parG P' Og H' F') H' F' s4 (K.mem sC' near') Ig' (by rw [K.g]; exact ⟨Og, z2⟩)
end
end DL
namespace DL
open PySem PySem.Spec PyProof.Rows L2 GenW
/-- the frame is on the stack, and no name has a cell -/
structure Own1 (X : Cx) : Prop where
  cells : X.env.cells = []
  stack : X.stack = X.env :: X.outer
  frame : X.env.frame = some X.env.locals
/-- a function that makes lists, and raises nothing -/
def Lists (n : Nat) (df : List D → M D) : Prop := ∀ ds, (ds.length = n ∧ ∃ all, df ds = .ok (.lst all)) ∨ df ds = .stuck
theorem runG_lists {m n : Nat} {b : DS} : Lists m (runG m n b) := fun ds => by
  unfold runG
  split
  · rename_i h
    split
    · exact .inl ⟨h, _, rfl⟩
    · exact .inr rfl
  · exact .inr rfl
section
variable {X : Cx} {g : G} {W : WX} {ss : List Stmt} {b : DS} {i k : Nat} {x fx : Str} {px p pos pos' : Pos} {f : Addr} {fd : FuncData} {ps : List Str} {df : List D → M D} {e : Expr} {es : List Expr} {fa : Den (List D)}
theorem es_forG (Gd : GFd X.prog X.w X.K X.mg X.base (k + 1) f fd ps g df) (hl : Lists ps.length df) (hr : Room (k + 2) X.A) (hg : Gl X fx) (hm : X.mg fx = some (.ref f)) (hkp : PySem.W.keepIn X.K (.ref f) = true) (hb : Binds X.K fd ps []) (ow : Own1 X) (hp : PassesOwn (model X.prog X.w) X.A X.env X.xe)
    (hN : X.N.Nodup) (hi : X.N[i]? = some x) (hk : X.env.scope.names.lookup x = some .local) (ha : PA X (e :: es) (tA g W fa)) (body : BG X g W ss b)
    (hdb : (fx == ("__debug__" : Str)) = false := by decide) (he : starEach (e :: es) X.env = (false, eval e X.env) :: starEach es X.env := by rfl) (hpl : (backTo pos' (starEach es X.env)).any (·.1) = false := by rfl) :
    PS X (.For (.Name x px) (.Call (.Name fx p) (e :: es) [] pos') ss [] pos) (tS g W (sFor (.nm i) (dItems (dCall df fa)) b)) := by
  refine ⟨fun pins s σ H D I ⟨P, F, st, sr, o⟩ => ?_⟩
  have args := fun (Q : List V → Hp → Prop) (h : ∀ ds st1 H1 F1, SR g P σ H1 F1 st1 → OutS g W P F1 (bindD (liftM' (df ds)) (fun d => bindD (liftO (itemsOf d)) fun ds => loop (.nm i) b ds) st1) D → ∀ vs, Rl g F1 vs ds → Q vs H1) =>
    ha.run pos' pins s σ H Q I ⟨P, F, st, sr, by
      have o2 : OutS g W P F (bindD fa (fun ds => bindD (liftM' (df ds)) fun d => bindD (liftO (itemsOf d)) fun ds => loop (.nm i) b ds) st) D := by
        revert o
        unfold sFor dItems dCall bindD
        cases fa st with
        | ok ds st1 =>
          simp only
          cases liftM' (df ds) st1 with
          | ok d st2 =>
            simp only
            cases liftO (itemsOf d) st2 <;> exact fun o => o
          | exn c fs st2 => exact fun o => o
          | stuck => exact fun o => o
        | exn c fs st1 => exact fun o => o
        | stuck => exact fun o => o
      exact o2.bind.imp fun ds st1 H1 F1 le1 s1 q vs rl => h ds st1 H1 F1 s1 q vs rl⟩
  refine wpAny_For (wpAny_Call_Name_kw (ld_glob I hg hm (PySem.W.callWith_K (h₀ := X.base) I.ok.mod.kin hkp (thn (args (fun vs H1 => ∃ ds st1 F1, SR g P σ H1 F1 st1 ∧ OutS g W P F1 (bindD (liftM' (df ds)) (fun d => bindD (liftO (itemsOf d)) fun ds => loop (.nm i) b ds) st1) D ∧ Rl g F1 vs ds)
    fun ds st1 H1 F1 s1 q vs rl => ⟨ds, st1, F1, s1, q, rl⟩) fun us s1 ⟨vs, H1, I1, rv, ds, st1, F1, sr1, o3, rl⟩ => ⟨I1.kIn, ?_⟩) he hpl) hdb))
  obtain ⟨hdl, all, hall⟩ : ds.length = ps.length ∧ ∃ all, df ds = .ok (.lst all) := (hl ds).elim (fun h => h) fun h => by
    unfold bindD liftM' at o3
    rw [h] at o3; exact o3.elim
  have o4 : OutS g W P F1 (loop (.nm i) b all st1) D := by
    unfold bindD liftM' at o3
    rw [hall] at o3
    exact o3
  obtain ⟨Oc, c1⟩ := sr1
  have hL : X.env.locals ∈ frs X.stack := by
    rw [ow.stack]
    unfold frs
    rw [List.filterMap_cons, ow.frame]
    exact List.mem_cons_self
  have lenE : (us ++ []).length = ps.length := by
    rw [List.append_nil, ← rv.length, rl.length, hdl]
  have run := Gd.run X.A X.stack X.env.locals s1 H1 F1 ⟨us, []⟩ (us ++ []) vs ds all (hr.mono (by omega)) I1.env0 hL (hb s1 us I1.kIn lenE) (by rw [List.append_nil]; exact rv) c1.le rl hall
  refine wpAny_call (codeAny_mono run fun r s2 hq => ?_)
  cases r with
  | error er => exact hq.elim
  | ok fl =>
    cases fl with
    | ret u =>
      obtain ⟨a, gi, c, rfl, hge, isg, hgs, hos, hbare, lim, kp, wake⟩ := hq
      obtain ⟨T, gx, hTP, hTw, hTA, hTg, hTall, hmem, hout, hmove, hstart⟩ := wake X.A.in1 (Room.in1 hr) I1.ok.frames
      subst hTall
      refine wpAny_pyIter_gen isg ?_
      have I2 : Inv X pins σ H1 s2 := I1.call' (ch := []) hos (Un.kept kp) (I1.hok.kept kp) hbare fun b hb => by simp at hb
      refine forG_loop ow.cells hN hi hk hr.hd (by have := hr.dp; omega) hp I1 ⟨hTP, hTw, hTA, hTg, hmem, hout, hmove, hge⟩ body T.all.length s2 ⟨σ, H1, F1, st1, Oc, I2, c1, by rw [Nat.sub_self]; exact o4, Nat.le_refl _, isg, I1.hok.fresh hge, .fresh c, parG0 H1 F1, s1, hgs, c1.holds0, ⟨rfl, rfl, fun _ _ => rfl, I1.stack⟩, I1.bare, ?_, fun s3 e1 e2 e3 => ?_⟩
      · obtain ⟨m, ⟨oL, _, _, hoL, _⟩, _⟩ := I1.loc
        rw [hoL, kp _ _ hoL]
      · exact hstart s3 (parG0 H1 F1) (fun b o e => by rw [e1]; exact e) e2 e3 (Same.refl _) fun b h => h
    | _ => exact hq.elim
end
end DL
namespace DL
open PySem PySem.Spec PyProof.Rows L2
@[simp] def opAddI : D → D → Option D
  | .int i, .int j => some (.int (i + j))
  | _, _ => none
/-- a name that holds a whole number -/
@[simp] def dInt (i : Nat) : Den D := fun st => match st[i]? with
  | some (.sh (.int a)) => .ok (.int a) st
  | _ => .stuck
@[simp] def rngD3 : D → D → D → Option (List D)
  | .int m, .int n, .int c => if c = -1 ∧ m.natAbs ≤ big ∧ n.natAbs ≤ big then some ((List.range (m - n).toNat).map fun k => D.int (m - (k : Nat))) else none
  | _, _, _ => none
@[simp] def dRng3 (f h k : Den D) : Den (List D) := bindD f fun x => bindD h fun y => bindD k fun z => liftO (rngD3 x y z)
section
variable {X : Cx} {g : G} {W : WX} {P : Par} {σ : L2.St} {H F : Hp} {st : DSt} {f : Den D}
theorem es_aug {i : Nat} {s : Stmt} (he : PS X s (tAug i (tE g W f) (ipI fun i j => i + j))) : PS X s (tS g W (sSet i (dOp2 opAddI (dInt i) f))) := he.imp fun E σ H ⟨P, F, st, s, o⟩ => by
  have main : ∀ a, st[i]? = some (.sh (.int a)) → tAug i (tE g W f) (ipI fun i j => i + j) E σ H := by
    intro a hd
    obtain ⟨ov, hov⟩ := SRc.nth s hd
    obtain ⟨O, c⟩ := id s
    obtain ⟨v, rfl, rv⟩ := c.sl i _ _ hd hov
    cases rv
    have o2 : OutS g W P F (bindD f (fun y => bindD (liftO (opAddI (.int a) y)) fun r => putD i (.sh r)) st) E := by
      revert o
      simp only [sSet, dOp2, bindD, dInt, hd]
      cases f st with
      | ok y st1 =>
        simp only
        cases liftO (opAddI (.int a) y) st1 <;> exact fun o => o
      | exn c fs st1 => exact fun o => o
      | stuck => exact fun o => o
    refine ⟨_, hov, P, F, st, s, o2.bind.imp fun y st1 H1 F1 le1 s1 o1 v rv => ?_⟩
    cases y with
    | int b =>
      cases rv
      refine ⟨a, b, rfl, rfl, ?_⟩
      unfold bindD liftO opAddI putD at o1
      simp only at o1
      split at o1
      · rename_i st' h
        obtain ⟨hi, rfl⟩ := slotSet_some h
        exact o1 _ H1 F1 (Same.refl _) (s1.put (.int _) hi)
      · exact o1.elim
    | _ => exact o1.elim
  have o0 := o
  simp only [sSet, dOp2, bindD, dInt] at o0
  cases hd : st[i]? with
  | none => rw [hd] at o0; exact o0.elim
  | some sl =>
    rw [hd] at o0
    cases sl with
    | sh d =>
      cases d with
      | int a => exact main a hd
      | _ => exact o0.elim
    | _ => exact o0.elim
theorem wk_c (F : Hp) (lo : Int) (n : Nat) : Wk g (Itc lo (-1) n) F ((List.range n).map fun k => D.int (lo - (k : Nat))) where
  stop := fun H' le => by show n ≤ _; simp
  go := fun i H' le hi => by show i < n; simpa using hi
  yld := fun i H' x H'' le hi y => by
    obtain ⟨e, y⟩ := y
    refine ⟨.int (lo - i), ?_, .inl ⟨e, ?_⟩⟩
    · have h : i < n := by simpa using hi
      simp [h]
    · have e2 : lo + (i : Nat) * (-1) = lo - i := by omega
      rw [y, e2]; exact .int _
theorem ei_rng3 {tg it : Expr} {h k : Den D} (hh : PI X tg it (iRng3 (tCons (tE g W f) (tCons (tE g W h) (tCons (tE g W k) tNil))))) : PI X tg it (tI g W (dRng3 f h k)) := hh.imp fun σ H R ⟨P, F, st, s, o⟩ =>
  ⟨P, F, st, s, o.bind.imp fun d st1 H1 F1 le1 s1 o1 v rx => ⟨P, F1, st1, s1, o1.bind.imp fun d2 st2 H2 F2 le2 s2 o2 v2 rx2 => ⟨P, F2, st2, s2, o2.bind.imp fun d3 st3 H3 F3 le3 s3 o3 v3 rx3 => by
    obtain ⟨ds, ez, q⟩ := o3.lift
    have q := q H3 F3 (Same.refl _) s3
    cases d with
    | int m =>
      cases d2 with
      | int n =>
        cases d3 with
        | int c =>
          cases rx; cases rx2; cases rx3
          simp only [rngD3] at ez
          split at ez
          · rename_i hn
            cases ez
            have hb : big = 16777216 := rfl
            obtain ⟨rfl, hn1, hn2⟩ := hn
            exact ⟨m, n, -1, (m - n).toNat, rfl, RgC.neg (by omega) (by omega) (by omega) (by omega), q _ (wk_c (g := g) F3 m (m - n).toNat)⟩
          · cases ez
        | _ => cases ez
      | _ => cases ez
    | _ => cases ez⟩⟩⟩
end
end DL
namespace DL
open PySem PySem.Spec PyProof.Rows L2 GenW
section
variable {X : Cx} {g : G} {W : WX} {pins : List (Addr × Obj)} {σ : L2.St} {H : Hp} {s : Shared} {E : Value → Shared → Prop} {x y : Str} {i j : Nat} {l : Addr} {xs : List V} {v : V}
theorem raw_name {pos : Pos} {Q : Value → Shared → Prop} (I : Inv X pins σ H s) (ow : Own1 X) (hi : X.N[i]? = some x) (hk : X.env.scope.names.lookup x = some .local) (hv : σ[i]? = some (some v)) (h : ∀ u, RelV v u → Q u s)
    (hd : (x == ("__debug__" : Str)) = false := by decide) : wpAny (model X.prog X.w) X.A (eval (.Name x pos) X.env) Q E s := by
  obtain ⟨m, hn, hl⟩ := I.loc
  obtain ⟨u, r, lk⟩ := hl i x v hi hv (.inl hk)
  rcases lk with ⟨hk2, hm⟩ | ⟨_, c, hc, _⟩
  · exact wpAny_Name (wpAny_loadName_local I.ok.kind hk2 hn hm (h u r)) hd
  · rw [ow.cells] at hc; cases hc
theorem raw_append {px py ap cp pos : Pos} {Q : Flow → Shared → Prop} (I : Inv X pins σ H s) (ow : Own1 X) (hi : X.N[i]? = some x) (hk : X.env.scope.names.lookup x = some .local) (hj : X.N[j]? = some y) (hk2 : X.env.scope.names.lookup y = some .local)
    (hv : σ[i]? = some (some (.ref l))) (hv2 : σ[j]? = some (some v)) (hH : H l = some (.lst xs)) (hz : xs.length < sizeLine)
    (h : ∀ s', s'.gens = s.gens → s'.os = s.os → (∀ b o, b ≠ l → s.heap.get? b = some o → s'.heap.get? b = some o) → (∃ o, s'.heap.get? l = some o) → Inv X pins σ (upd H l (.lst (xs ++ [v]))) s' → Q .next s')
    (hline : (ap.endLine == cp.line) = true := by rfl) (hsw : swapsWith (.Call (.Attribute (.Name x px) "append" ap) [.Name y py] [] cp) none pos.line X.env = pure false := by rfl) (hd : (x == ("__debug__" : Str)) = false := by decide) (hd2 : (y == ("__debug__" : Str)) = false := by decide) :
    wpAny (model X.prog X.w) X.A (exec (.Expr (.Call (.Attribute (.Name x px) "append" ap) [.Name y py] [] cp) pos) X.env) Q E s := by
  refine wpAny_Expr_any (wpAny_Call_method_late rfl rfl hline rfl (raw_name I ow hi hk hv (fun u ru => ?_) hd)) I.quiet hsw
  cases ru
  obtain ⟨z, its, n, r, hl, e⟩ := I.lstM hH
  refine ⟨"list", "list.append", PySem.F.plainAttrs_list, PySem.F.slot_list_append, PySem.F.type_list_append, ⟨_, e, rfl⟩, fun a ha => ?_, ?_⟩
  · cases ha; exact ⟨_, e, rfl⟩
  · refine Calls.callWith_builtin rfl (Calls.evalArgs_plain (Calls.spliced_cons (raw_name I ow hj hk2 hv2 (fun u ru => Calls.spliced_nil ?_) hd2)))
    refine call_meets F.slot_list_append ⟨_, e, rfl⟩ F.entry_list_append (F.args_list_append_2 _ _) (PySem.list_append l its.toArray n u (by rw [List.size_toArray]; omega)) ⟨e, ?_⟩
    have I2 := I.lset (its' := its ++ [u]) (f := fun a => a.push u) (t' := s.toks) hH e (by simp) (r.append (.cons ru .nil)) (by rw [List.length_append, List.length_singleton]; omega)
    exact h _ rfl rfl (fun b o hb q => (Heap.get?_update_other s.heap _ (Ne.symm hb)).trans q) ⟨_, Heap.get?_update_self _ e rfl⟩ I2
theorem raw_many {lp px cp mp pos : Pos} {mn : Str} {k : Int} {tk : Tok} {whole : Sem Value} {Q : Bool → Shared → Prop} (I : Inv X pins σ H s) (ow : Own1 X) (hi : X.N[i]? = some x) (hk : X.env.scope.names.lookup x = some .local)
    (hv : σ[i]? = some (some (.ref l))) (hH : H l = some (.lst xs)) (hgl : Gl X "len") (hml : X.mg "len" = none) (hgm : Gl X mn) (hmm : X.mg mn = some (.int k tk))
    (h : ∀ t, Q (decide (k < (xs.length : Int))) { s with toks := t }) (hd : (x == ("__debug__" : Str)) = false := by decide) (hdm : (mn == ("__debug__" : Str)) = false := by decide) :
    wpAny (model X.prog X.w) X.A (isTrue (.Compare (.Call (.Name "len" lp) [.Name x px] [] cp) [.Gt] [.Name mn mp] pos) X.env whole) Q E s := by
  obtain ⟨z, its, n, r, hl, e⟩ := I.lstM hH
  refine wpAny_isTrue_Compare1 (wpAny_Call_Name_kw (ld_blt I hgl hml (by rfl) (PyProof.Rows.callWith_builtin1 (Calls.spliced_cons (raw_name I ow hi hk hv (fun u ru => Calls.spliced_nil ?_) hd)) rfl rfl) (by decide) (by decide))) (nomark _)
  cases ru
  have hn := line63
  refine Calls.call_len_list (l := l) ⟨_, e, rfl, n, rfl⟩ (by simp only [List.size_toArray]; omega) ?_
  have I2 : Inv X pins σ H { s with toks := s.toks + 1 + 1 } := I.tok _
  refine ld_glob I2 hgm hmm (gt_int (wpAny_truthy_bool ?_)) hdm
  have := h (s.toks + 1 + 1)
  rw [List.size_toArray, ← hl]
  exact this
end
end DL
namespace DL
open PySem PySem.Spec PyProof.Rows L2 GenW
section
variable {X : Cx} {g : G} {W : WX} {P : Par} {σ : L2.St} {H F : Hp} {st st1 st2 : DSt} {x y : Str} {i j : Nat}
theorem var_at {d : D} (s : SR g P σ H F st) (h : dVar j st = .ok d st1) : ∃ v F1, σ[j]? = some (some v) ∧ Same F F1 ∧ SR g P σ H F1 st1 ∧ Rv g F1 v d := by
  unfold dVar at h
  split at h
  · rename_i d0 hd
    cases h
    obtain ⟨ov, hov⟩ := SRc.nth s hd
    obtain ⟨O, c⟩ := id s
    obtain ⟨v, rfl, r⟩ := c.sl j _ _ hd hov
    exact ⟨v, F, hov, Same.refl _, s, r⟩
  · rename_i ds hd
    cases h
    obtain ⟨a, F', h1, sf, r, s'⟩ := s.freeze hd
    exact ⟨_, F', h1, sf, s', r⟩
  · rename_i dss hd
    cases h
    obtain ⟨a, F', h1, sf, r, s'⟩ := s.freeze2 hd
    exact ⟨_, F', h1, sf, s', r⟩
  · cases h
theorem rd_set {ds ds' : List D} (h : setOw i ds' st = .ok () st2) : dRd i st2 = .ok (.lst ds') st2 := by
  have hi : ∀ {sl : Slot}, st[i]? = some sl → i < st.length := fun e => (List.getElem?_eq_some_iff.mp e).1
  unfold setOw at h
  split at h
  · rename_i ds0 hd
    cases h
    unfold dRd
    rw [List.getElem?_set_self (hi hd)]
  · rename_i k ds0 hd
    cases h
    unfold dRd
    rw [List.getElem?_set_self (hi hd)]
  · cases h
theorem nap_upd {L a : Addr} {u u' : HO} {s s' : Shared} (ho : s'.os = s.os) (hb : AllBare s'.gens) (ha : H a = some u) (hu : ∃ xs, u = .lst xs) (k : ∀ b o, b ≠ a → s.heap.get? b = some o → s'.heap.get? b = some o) (t : ∃ o, s'.heap.get? a = some o) : Nap L H (upd H a u') s s' := by
  obtain ⟨xs, rfl⟩ := hu
  have ne : ∀ {b : Addr}, H b = none → b ≠ a := fun h z => by rw [z, ha] at h; cases h
  refine ⟨ho, hb, fun b o _ h n => k b o (ne n) h, fun b o h => ?_, fun b o _ n => by rw [upd_ne (ne n)]; exact n, fun b ys h => ?_, fun b o w h => ?_, fun b ps h => ⟨#[], ?_⟩⟩
  · by_cases hb : b = a
    · rw [hb]; exact t
    · exact ⟨o, k b o hb h⟩
  · rw [upd_ne (fun z => by rw [z, ha] at h; cases h)]; exact h
  · rw [upd_ne (fun z => by rw [z, ha] at h; cases h)]; exact h
  · rw [upd_ne (fun z => by rw [z, ha] at h; cases h), h]; simp
theorem bg_gath {px py ap cp pos lp px2 cp2 mp pos2 pos3 : Pos} {mn : Str} {n : Int} {tk : Tok} {rs : List Stmt} {r : DS} (ow : Own1 X) (hi : X.N[i]? = some x) (hk : X.env.scope.names.lookup x = some .local) (hj : X.N[j]? = some y) (hk2 : X.env.scope.names.lookup y = some .local)
    (hgl : Gl X "len") (hml : X.mg "len" = none) (hgm : Gl X mn) (hmm : X.mg mn = some (.int n tk)) (hr : PSs X rs (tS g W r)) (hx : ∀ st fl st', r st ≠ .ok fl st')
    (hline : (ap.endLine == cp.line) = true := by rfl) (hsw : swapsWith (.Call (.Attribute (.Name x px) "append" ap) [.Name y py] [] cp) none pos.line X.env = pure false := by rfl)
    (hd : (x == ("__debug__" : Str)) = false := by decide) (hd2 : (y == ("__debug__" : Str)) = false := by decide) (hdm : (mn == ("__debug__" : Str)) = false := by decide) :
    BG X g W [.Expr (.Call (.Attribute (.Name x px) "append" ap) [.Name y py] [] cp) pos, .If (.Compare (.Call (.Name "len" lp) [.Name x px2] [] cp2) [.Gt] [.Name mn mp] pos2) rs [] pos3]
      (sSeq (sExpr (dAppend i (dVar j))) (sIf (dTst (dOp2 opGt (dOp1n opLen i) (dC (.int n)))) r sPass)) := by
  refine ⟨fun pins s σ H P F st D I sr o => ?_⟩
  obtain ⟨ds, e1⟩ : ∃ ds, dOw i st = .ok ds st := by
    simp only [sSeq, sExpr, dAppend, bindD] at o
    cases e : dOw i st with
    | ok d st' =>
      have : st' = st := by
        unfold dOw at e
        split at e <;> cases e <;> rfl
      exact ⟨d, by rw [this]⟩
    | exn c fs st' => exact (dOw_no e).elim
    | stuck => rw [e] at o; exact o.elim
  obtain ⟨d, st1, e2⟩ : ∃ d st1, dVar j st = .ok d st1 := by
    simp only [sSeq, sExpr, dAppend, bindD, e1] at o
    cases e : dVar j st with
    | ok d st1 => exact ⟨d, st1, rfl⟩
    | exn c fs st' => unfold dVar at e; split at e <;> cases e
    | stuck => rw [e] at o; exact o.elim
  obtain ⟨v, F1, hv, le, sr1, rv⟩ := var_at sr e2
  obtain ⟨ds1, e3⟩ : ∃ ds, dOw i st1 = .ok ds st1 := by
    simp only [sSeq, sExpr, dAppend, bindD, e1, e2, mutD] at o
    cases e : dOw i st1 with
    | ok d st' =>
      have : st' = st1 := by
        unfold dOw at e
        split at e <;> cases e <;> rfl
      exact ⟨d, by rw [this]⟩
    | exn c fs st' => exact (dOw_no e).elim
    | stuck => rw [e] at o; exact o.elim
  obtain ⟨_, a, vs, h1, h2, h3, h4, h5, h6⟩ := sr1.owned e3
  have hlt : ds1.length < big := by
    rcases Nat.lt_or_ge ds1.length big with h | h
    · exact h
    · simp only [sSeq, sExpr, dAppend, bindD, e1, e2, mutD, e3, if_neg (Nat.not_lt.mpr h), liftO] at o
      exact o.elim
  have sfh : Same F1 (upd H a (.lst (vs ++ [v]))) := fun b o e => by
    rw [upd_ne (fun z => by subst z; rw [h4] at e; cases e)]; exact sr1.le _ _ e
  obtain ⟨st2, e4, sr2⟩ := h6 (upd H a (.lst (vs ++ [v]))) F1 (vs ++ [v]) (ds1 ++ [d]) (Same.refl _) sfh (fun b _ h => h) (fun b o hb e => by rw [upd_ne hb]; exact e) upd_same h4 (h3.append (.cons rv .nil))
  have e5 := rd_set (ds := ds1) e4
  have eb : sSeq (sExpr (dAppend i (dVar j))) (sIf (dTst (dOp2 opGt (dOp1n opLen i) (dC (.int n)))) r sPass) st = if decide (n < ((ds1.length : Int) + 1)) = true then r st2 else .ok .nx st2 := by
    simp only [sSeq, sExpr, dAppend, bindD, e1, e2, mutD, e3, if_pos hlt, liftO, e4, retD, sIf, dTst, dOp2, dOp1n, e5, opLen, dC, opGt, cmpI, asB, List.length_append, List.length_singleton, sPass]
    have : (((ds1.length + 1 : Nat)) : Int) = (ds1.length : Int) + 1 := by omega
    rw [this]
    split <;> rfl
  rw [eb] at o
  have hz : vs.length < sizeLine := by rw [h3.length, ← big_eq]; exact hlt
  refine wpAny_execs_cons (raw_append I ow hi hk hj hk2 h1 hv h2 hz (fun s2 g1 g2 g3 g4 I2 => ?_) hline hsw hd hd2)
  refine wpAny_execs_cons (wpAny_If (raw_many I2 ow hi hk h1 upd_same hgl hml hgm hmm (fun t => ?_) hd hdm))
  have I3 : Inv X pins σ (upd H a (.lst (vs ++ [v]))) { s2 with toks := t } := I2.tok _
  have hlen : ((vs ++ [v]).length : Int) = (ds1.length : Int) + 1 := by rw [List.length_append, List.length_singleton, h3.length]; omega
  rw [hlen]
  by_cases hb : n < (ds1.length : Int) + 1
  · simp only [hb, decide_true, if_true] at o ⊢
    let D' : Ends := { nx := fun _ _ => False, rt := fun _ _ => False }
    have o' : OutS g W P F1 (r st2) D' := by
      have o1 := OutS.weak le o
      revert o1
      cases er : r st2 with
      | ok fl st3 => exact (hx _ _ _ er).elim
      | exn c fs st3 => exact fun o => o
      | stuck => exact fun o => o
    refine thn (hr.run pins _ σ _ D' I3 ⟨P, F1, st2, sr2, o'⟩) fun f s3 hf => ?_
    cases f with
    | next => obtain ⟨_, _, _, q⟩ := hf; exact q.elim
    | brk => obtain ⟨_, _, _, q⟩ := hf; exact q.elim
    | cont => obtain ⟨_, _, _, q⟩ := hf; exact q.elim
    | ret u => obtain ⟨_, _, _, _, _, q⟩ := hf; exact q.elim
  · simp only [hb, decide_false, Bool.false_eq_true, if_false] at o ⊢
    refine wpAny_execs_nil (wpAny_execs_nil ⟨σ, _, F1, st2, by rw [eb, if_neg (by simpa using hb)], I3, sr2, le, nap_upd g2 (by rw [g1]; exact I.bare) h2 ⟨_, rfl⟩ g3 g4, g1⟩)
end
end DL
namespace DL
open PySem PySem.Spec PyProof.Rows L2
def spR1 (g : G) (df : List D → List D → M (D × List D)) : Sp := fun vs H Q _ => ∃ F v d a ws ss us ds, vs = v :: .ref a :: us ∧ Same F H ∧ F a = none ∧ H a = some (.lst ws) ∧ Rv g F v d ∧ Rl g F ws ss ∧ Rl g F us ds ∧ match df ss (d :: ds) with
  | .ok r => ∀ v H' F' ws', Same F F' → Same F' H' → (∀ b, NT H b → F b = none → F' b = none) → (∀ b o, b ≠ a → H b = some o → H' b = some o) → H' a = some (.lst ws') → F' a = none → Rl g F' ws' r.2 → Rv g F' v r.1 → Q v H'
  | _ => False
def run1 (m n : Nat) (f : DS) (ss : List D) (d : D) (ds : List D) : M (D × List D) := if ds.length + 2 = m then match f (.sh d :: .rf 0 ss :: (ds.map Slot.sh ++ List.replicate (n - ds.length - 2) .no)) with
  | .ok (.ret r) (_ :: .rf 0 ss' :: _) => .ok (r, ss')
  | .ok .nx (_ :: .rf 0 ss' :: _) => .ok (.non, ss')
  | _ => .stuck
  else .stuck
def runR1 (m n : Nat) (f : DS) (ss : List D) : List D → M (D × List D)
  | [] => .stuck
  | d :: ds => run1 m n f ss d ds
theorem runR1_cons {m n : Nat} {f : DS} {ss ds : List D} {d : D} : runR1 m n f ss (d :: ds) = run1 m n f ss d ds := rfl
theorem runR1_nox (m n : Nat) (f : DS) : ∀ ss ds c fs, runR1 m n f ss ds ≠ .exn c fs := by
  intro ss ds c fs h
  cases ds with
  | nil => cases h
  | cons d ds =>
    rw [runR1_cons] at h
    unfold run1 at h
    split at h
    · split at h <;> cases h
    · cases h
section
variable {X : Cx} {g : G} {W : WX} {P : Par} {σ : L2.St} {H F : Hp} {st : DSt} {e : Expr} {f : Den D}
theorem ev_callR1 {df : List D → List D → M (D × List D)} (nox : ∀ ss ds c fs, df ss ds ≠ .exn c fs) {i : Nat} (he : PE X e (tCallS (spR1 g df) (WE W) (tCons (tE g W f) (tCons (tVar i) tNil)))) : PE X e (tE g W (dCallR df i (dCons f dNil))) := he.imp fun σ H Q ⟨P, F, st, s, o⟩ => by
  obtain ⟨ds0, e0, o1⟩ := Out.ow o
  have o1 : Out g W P σ F (bindD f (fun d => bindD (dOw i) fun ss => bindD (liftM' (df ss [d])) fun r => bindD (setOw i r.2) fun _ => retD r.1) st) fun d _ H' F' => ∀ v, Rv g F' v d → Q v H' := by
    revert o1
    unfold dCons dNil bindD retD
    cases f st with
    | ok d st1 => exact fun o => o
    | exn c fs st1 => exact fun o => o
    | stuck => exact fun o => o
  refine ⟨P, F, st, s, o1.bind.imp fun d st1 H1 F1 le1 s1 o2 v rv => ?_⟩
  obtain ⟨ss, e1, o3⟩ := Out.ow o2
  obtain ⟨_, a, ws, g1, g2, g3, g4, g5, g6⟩ := s1.owned e1
  refine ⟨_, g1, F1, v, d, a, ws, ss, [], [], rfl, s1.le, g4, g2, rv, g3, .nil, ?_⟩
  have nx := nox ss [d]
  revert o3 nx
  cases df ss [d] with
  | ok r =>
    intro o3 nx v H' F' ws' a1 a2 a3 a4 a5 a6 a7 rv
    obtain ⟨st2, e2, s2⟩ := g6 H' F' ws' r.2 a1 a2 a3 a4 a5 a6 a7
    have o4 : Out g W P σ F1 (bindD (setOw i r.2) (fun _ => retD r.1) st1) fun d _ H' F' => ∀ v, Rv g F' v d → Q v H' := o3
    unfold bindD at o4
    rw [e2] at o4
    exact o4 H' F' a1 s2 v rv
  | exn c fs => exact fun _ nx => (nx c fs rfl).elim
  | stuck => exact fun o3 => o3.elim
theorem body_okR1 {x y : Str} {N ps : List Str} {f : DS} {n : Nat} {vs : List V} {Q : VK} {E : XK} (hn : n = (x :: y :: N).length) (hp : ps.length ≤ (x :: y :: N).length) (hl : vs.length = ps.length) (h : spR1 g (runR1 ps.length n f) vs H Q E) :
    tS g (fun cls dd _ H => E cls dd H) f { nx := fun _ H' => Q .non H', rt := Q } (L2.start (x :: y :: N) vs) H := by
  obtain ⟨F, v, d, a, ws, ss, us, ds, rfl, le, fa, ha, rv, rs, r, h⟩ := h
  have hln := r.length
  rw [start_cons, start_cons]
  refine ⟨⟨[a], fun b => if b = a then none else H b, fun b => NT H b ∧ F b = none⟩, F, .sh d :: .rf 0 ss :: (ds.map Slot.sh ++ List.replicate (n - ds.length - 2) .no), ⟨fun b => if b = a then some 1 else none, le, fun b o e => ?_, fun b i e => ?_, fun a h => ⟨h.2, h.1⟩, ?_, fun i s ov e1 e2 => ?_⟩, ?_⟩
  · by_cases hb : b = a
    · subst hb; simp at e
    · simpa [hb] using e
  · by_cases hb : b = a
    · subst hb; exact ⟨fa, by simp, NT.of ha⟩
    · simp [hb] at e
  · unfold L2.start
    simp only [List.length_append, List.length_map, List.length_replicate, List.length_cons] at *
    omega
  · match i, e1, e2 with
    | 0, e1, e2 =>
      simp at e1 e2
      subst e1; subst e2
      exact ⟨v, rfl, rv⟩
    | 1, e1, e2 =>
      simp at e1 e2
      subst e1; subst e2
      exact ⟨a, ws, rfl, rfl, by simp, ha, rs⟩
    | i + 2, e1, e2 =>
      have q := init_sl (P := ⟨[a], fun b => if b = a then none else H b, fun b => NT H b ∧ F b = none⟩) (H := H) (O := fun b => if b = a then some 1 else none) (N := N) r (n - ds.length - 2) i s ov (by simpa using e1) (by simpa using e2)
      have hs : s = .no ∨ ∃ d, s = .sh d := by
        have e1 : (ds.map Slot.sh ++ List.replicate (n - ds.length - 2) Slot.no)[i]? = some s := by simpa using e1
        rcases List.mem_append.mp (List.mem_of_getElem? e1) with h | h
        · obtain ⟨d, _, e⟩ := List.mem_map.mp h
          exact .inr ⟨d, e.symm⟩
        · exact .inl (List.mem_replicate.mp h).2
      rcases hs with rfl | ⟨d, rfl⟩
      · trivial
      · exact q
  · have gr : ∀ {σ' : L2.St} {H' F' : Hp} {ss' : List D} {s0 : Slot} {st' : DSt} {d : D}, Same F F' → SR g ⟨[a], fun b => if b = a then none else H b, fun b => NT H b ∧ F b = none⟩ σ' H' F' (s0 :: .rf 0 ss' :: st') →
        (∀ v H' F' ws', Same F F' → Same F' H' → (∀ b, NT H b → F b = none → F' b = none) → (∀ b o, b ≠ a → H b = some o → H' b = some o) → H' a = some (.lst ws') → F' a = none → Rl g F' ws' ss' → Rv g F' v d → Q v H') → ∀ v, Rv g F' v d → Q v H' := fun {σ' H' F' ss' s0 st' d} le s k v rv => by
      obtain ⟨ov, hov⟩ := SRc.nth (i := 1) s rfl
      obtain ⟨O, c⟩ := s
      obtain ⟨a', ws', e1, e2, e3, e4, e5⟩ := c.sl 1 _ _ rfl hov
      have : a' = a := by simpa using e2.symm
      subst this
      refine k v H' F' ws' le c.le (fun b h1 h2 => (c.no b ⟨h1, h2⟩).1) (fun b o hb e => c.rr b o (by simp [hb, e])) e4 (c.oo _ _ e3).1 e5 rv
    rw [runR1_cons] at h
    unfold run1 at h
    simp only [List.length_cons] at hl
    rw [if_pos (by omega)] at h
    revert h
    cases f (.sh d :: .rf 0 ss :: (ds.map Slot.sh ++ List.replicate (n - ds.length - 2) .no)) with
    | ok fl st' =>
      cases fl with
      | nx =>
        match st' with
        | [] => exact fun h => h.elim
        | [_] => exact fun h => h.elim
        | s0 :: s1 :: st' =>
          cases s1 with
          | rf k ss' =>
            cases k with
            | zero => exact fun h σ' H' F' le s => gr le s h .non .non
            | succ k => exact fun h => h.elim
          | _ => exact fun h => h.elim
      | ret d =>
        match st' with
        | [] => exact fun h => h.elim
        | [_] => exact fun h => h.elim
        | s0 :: s1 :: st' =>
          cases s1 with
          | rf k ss' =>
            cases k with
            | zero => exact fun h σ' H' F' le s v rv => gr le s h v rv
            | succ k => exact fun h => h.elim
          | _ => exact fun h => h.elim
      | brk => exact fun h => h.elim
      | cnt => exact fun h => h.elim
    | exn c fs st' => exact fun h => h.elim
    | stuck => exact fun h => h.elim
theorem spR1_len {m n : Nat} {f : DS} {vs : List V} {Q : VK} {E : XK} (h : spR1 g (runR1 m n f) vs H Q E) : vs.length = m := by
  obtain ⟨F, v, d, a, ws, ss, us, ds, rfl, le, fa, ha, rv, rs, r, h⟩ := h
  rw [List.length_cons, List.length_cons, r.length]
  by_cases hm : ds.length + 2 = m
  · exact hm
  · rw [runR1_cons] at h
    unfold run1 at h
    rw [if_neg hm] at h
    exact h.elim
end
section
variable {P : Program} {w : World} {K : PySem.W.Frag} {mg : Str → Option Value} {base : Heap} {N ps : List Str} {x qual : Str} {params : Arguments} {body : List Stmt} {scope : Scope} {f : Addr} {fd : FuncData} {k : Nat} {tk : Bool}
theorem fn_dataR1 {y z : Str} {b : DS} (F : FunD K x qual params body scope [] [] f fd) (S : FnScope (y :: z :: N) ps scope) (hp : ps.length ≤ (y :: z :: N).length)
    (hbody : ∀ (cdv : Value) (A : Around) (outer : List Env) (s : Shared) (H : Hp) (E : XK), Room k (A.deeper (envOfC qual scope s.heap.objs.size f cdv)) →
      Takes (cxOf (L2.CX P w) P w K mg base (y :: z :: N) qual scope f cdv A outer s H E) (fun cls dd _ H => E cls dd H) →
      PassesOwn (model P w) (cxOf (L2.CX P w) P w K mg base (y :: z :: N) qual scope f cdv A outer s H E).A (cxOf (L2.CX P w) P w K mg base (y :: z :: N) qual scope f cdv A outer s H E).env (cxOf (L2.CX P w) P w K mg base (y :: z :: N) qual scope f cdv A outer s H E).xe →
      PSs (cxOf (L2.CX P w) P w K mg base (y :: z :: N) qual scope f cdv A outer s H E) body (tS ⟨K, mg, none, tk⟩ (fun cls dd _ H => E cls dd H) b)) :
    FnOk P w K mg base (L2.CX P w) (k + 1) f fd ps (spR1 ⟨K, mg, none, tk⟩ (runR1 ps.length (y :: z :: N).length b)) :=
  F.ok S (fun vs H Q E h => spR1_len h) fun cdv A outer s H vs Q E hr h => ⟨_, hbody cdv A outer s H E hr (takes_of rfl rfl rfl rfl) (passes_of rfl), body_okR1 rfl hp (spR1_len h) h⟩
end
def Kby1 {ρ τ : Type} (e : ρ → D) (eτ : τ → D) (r : ρ × List τ) (fl : Fl) (st : DSt) : Prop := (fl = .ret (e r.1) ∨ (fl = .nx ∧ e r.1 = .non)) ∧ ∃ s0 tl, st = s0 :: .rf 0 (r.2.map eτ) :: tl
theorem fn_R1 {ρ τ : Type} {m n : Nat} {f : DS} {d : D} {ds : List D} {xs : List τ} {eτ : τ → D} {o : M (ρ × List τ)} {e : ρ → D} (hl : ds.length + 2 = m) (h : RS false f (.sh d :: .rf 0 (xs.map eτ) :: (ds.map Slot.sh ++ List.replicate (n - ds.length - 2) .no)) o (Kby1 e eτ)) : DR (runR1 m n f (xs.map eτ) (d :: ds)) o e eτ := by
  rw [runR1_cons]
  unfold run1
  rw [if_pos hl]
  cases o with
  | ok c =>
    obtain ⟨fl, st', e1, hk, s0, tl, rfl⟩ := h
    rw [e1]
    rcases hk with rfl | ⟨rfl, hk⟩
    · rfl
    · show M.ok (D.non, _) = .ok (e c.1, _); rw [hk]
  | exn c fs => trivial
  | stuck => trivial
end DL
namespace DL
open PySem PySem.Spec PyProof.Rows L2 GenW
def KD {α : Type} (n : Nat) (f : Den α) : Prop := ∀ st a st', f st = .ok a st' → st'[n]? = st[n]?
def KSt (n : Nat) (b : DS) : Prop := ∀ st fl st', b st = .ok fl st' → st'[n]? = st[n]? ∧ (flowOf fl).isSome = true
section
variable {α β : Type} {n i : Nat} {a : Den α} {k : α → Den β} {ka : α → DS} {b c : DS}
theorem kd_bind (ha : KD n a) (hk : ∀ x, KD n (k x)) : KD n (bindD a k) := fun st y st' e => by
  unfold bindD at e
  cases q : a st with
  | ok x s1 => rw [q] at e; exact (hk x s1 y st' e).trans (ha st x s1 q)
  | exn c fs s1 => rw [q] at e; cases e
  | stuck => rw [q] at e; cases e
theorem kd_ret {x : α} : KD n (retD x) := fun st y st' e => by cases e; rfl
theorem kd_lift {o : Option α} : KD n (liftO o) := fun st y st' e => by
  cases o with
  | none => cases e
  | some x => cases e; rfl
theorem kd_liftM {o : M α} : KD n (liftM' o) := fun st y st' e => by
  cases o with
  | ok x => cases e; rfl
  | exn c fs => cases e
  | stuck => cases e
theorem kd_rd : KD n (dRd i) := fun st y st' e => by
  unfold dRd at e
  split at e <;> cases e <;> rfl
theorem kd_ow : KD n (dOw i) := fun st y st' e => by
  unfold dOw at e
  split at e <;> cases e <;> rfl
theorem kd_int : KD n (dInt i) := fun st y st' e => by
  unfold dInt at e
  split at e <;> cases e <;> rfl
theorem kd_var (h : i ≠ n) : KD n (dVar i) := fun st y st' e => by
  unfold dVar at e
  split at e <;> cases e <;> first | rfl | exact List.getElem?_set_ne h
theorem kd_setOw (h : i ≠ n) {ds : List D} : KD n (setOw i ds) := fun st y st' e => by
  unfold setOw at e
  split at e <;> cases e <;> exact List.getElem?_set_ne h
theorem kd_ite {x : Bool} {u v : Den α} (hu : KD n u) (hv : KD n v) : KD n (if x = true then u else v) := by cases x <;> assumption
theorem ks_bind (ha : KD n a) (hk : ∀ x, KSt n (ka x)) : KSt n (bindD a ka) := fun st y st' e => by
  unfold bindD at e
  cases q : a st with
  | ok x s1 => rw [q] at e; exact ⟨(hk x s1 y st' e).1.trans (ha st x s1 q), (hk x s1 y st' e).2⟩
  | exn c fs s1 => rw [q] at e; cases e
  | stuck => rw [q] at e; cases e
theorem ks_nx : KSt n (retD .nx) := fun st y st' e => by cases e; exact ⟨rfl, rfl⟩
theorem ks_stuck : KSt n (fun _ => .stuck) := fun st y st' e => by cases e
theorem ks_put (h : i ≠ n) {s : Slot} : KSt n (putD i s) := fun st y st' e => by
  unfold putD at e
  split at e
  · rename_i st1 h1
    cases e
    obtain ⟨_, rfl⟩ := slotSet_some h1
    exact ⟨List.getElem?_set_ne h, rfl⟩
  · cases e
theorem setAll_keep : ∀ {is : List Nat} {ds : List D} {st st' : DSt}, n ∉ is → setAll is ds st = some st' → st'[n]? = st[n]?
  | [], [], _, _, _, e => by cases e; rfl
  | [], _ :: _, _, _, _, e => by cases e
  | _ :: _, [], _, _, _, e => by cases e
  | i :: is, d :: ds, st, st', h, e => by
    unfold setAll at e
    split at e
    · rename_i st1 h1
      obtain ⟨_, rfl⟩ := slotSet_some h1
      rw [setAll_keep (fun z => h (List.mem_cons_of_mem _ z)) e]
      exact List.getElem?_set_ne fun z => h (by rw [← z]; exact List.mem_cons_self)
    · cases e
theorem setT_keep {t : Tg} {d : D} {st st' : DSt} (h : n ∉ t.is) (e : setT t d st = some st') : st'[n]? = st[n]? := by
  cases t with
  | nm i =>
    obtain ⟨_, rfl⟩ := slotSet_some e
    exact List.getElem?_set_ne fun z => h (by rw [← z]; exact List.mem_cons_self)
  | nms is =>
    cases d with
    | tup ds => exact setAll_keep h e
    | _ => cases e
theorem ks_asg {t : Tg} {f : Den D} (h : n ∉ t.is) (hf : KD n f) : KSt n (sAsg t f) := by
  refine ks_bind hf fun d st y st' e => ?_
  split at e
  · rename_i st1 h1
    cases e
    exact ⟨setT_keep h h1, rfl⟩
  · cases e
theorem ks_seq (hb : KSt n b) (hc : KSt n c) : KSt n (sSeq b c) := fun st y st' e => by
  unfold sSeq at e
  cases q : b st with
  | ok fl s1 =>
    rw [q] at e
    have h1 := hb st fl s1 q
    cases fl with
    | nx => exact ⟨(hc s1 y st' e).1.trans h1.1, (hc s1 y st' e).2⟩
    | brk => cases e; exact h1
    | cnt => cases e; exact h1
    | ret d => cases h1.2
  | exn cx fs s1 => rw [q] at e; cases e
  | stuck => rw [q] at e; cases e
theorem ks_ite {x : Bool} (hb : KSt n b) (hc : KSt n c) : KSt n (if x = true then b else c) := by cases x <;> assumption
theorem ks_loop {t : Tg} (h : n ∉ t.is) (hb : KSt n b) : ∀ ds, KSt n (loop t b ds)
  | [] => ks_nx
  | d :: ds => fun st y st' e => by
    unfold loop at e
    cases q : setT t d st with
    | none => rw [q] at e; cases e
    | some st1 =>
      rw [q] at e
      simp only at e
      have h1 := setT_keep h q
      cases q2 : b st1 with
      | ok fl st2 =>
        rw [q2] at e
        have h2 := hb st1 fl st2 q2
        cases fl with
        | nx => exact ⟨(ks_loop h hb ds st2 y st' e).1.trans (h2.1.trans h1), (ks_loop h hb ds st2 y st' e).2⟩
        | cnt => exact ⟨(ks_loop h hb ds st2 y st' e).1.trans (h2.1.trans h1), (ks_loop h hb ds st2 y st' e).2⟩
        | brk => cases e; exact ⟨h2.1.trans h1, rfl⟩
        | ret d => cases h2.2
      | exn cx fs st2 => rw [q2] at e; cases e
      | stuck => rw [q2] at e; cases e
theorem ks_for {t : Tg} {fi : Den (List D)} (h : n ∉ t.is) (hi : KD n fi) (hb : KSt n b) : KSt n (sFor t fi b) := ks_bind hi fun ds => ks_loop h hb ds
theorem ks_if {t : Den Bool} (ht : KD n t) (hb : KSt n b) (hc : KSt n c) : KSt n (sIf t b c) := ks_bind ht fun x => ks_ite hb hc
theorem KSt.keeps (h : KSt n b) : Keeps n b := fun st fl st' e => (h st fl st' e).1
theorem KSt.flow (h : KSt n b) : ∀ s f s', b s = .ok f s' → (flowOf f).isSome = true := fun st fl st' e => (h st fl st' e).2
/-- what yields returns nothing either -/
theorem fl_yield {f : Den D} : ∀ s fl s', sYield n f s = .ok fl s' → (flowOf fl).isSome = true := fun st fl st' e => by
  unfold sYield at e
  cases q : f st with
  | ok d s1 =>
    rw [q] at e
    simp only at e
    split at e <;> cases e
    rfl
  | exn c fs s1 => rw [q] at e; cases e
  | stuck => rw [q] at e; cases e
theorem fl_seq (hb : ∀ s f s', b s = .ok f s' → (flowOf f).isSome = true) (hc : ∀ s f s', c s = .ok f s' → (flowOf f).isSome = true) : ∀ s f s', sSeq b c s = .ok f s' → (flowOf f).isSome = true := fun st fl st' e => by
  unfold sSeq at e
  cases q : b st with
  | ok f1 s1 =>
    rw [q] at e
    cases f1 with
    | nx => exact hc _ _ _ e
    | _ => cases e; exact hb _ _ _ q
  | exn c fs s1 => rw [q] at e; cases e
  | stuck => rw [q] at e; cases e
theorem fl_if {t : Den Bool} (hb : ∀ s f s', b s = .ok f s' → (flowOf f).isSome = true) (hc : ∀ s f s', c s = .ok f s' → (flowOf f).isSome = true) : ∀ s f s', sIf t b c s = .ok f s' → (flowOf f).isSome = true := fun st fl st' e => by
  unfold sIf bindD at e
  cases q : t st with
  | ok x s1 =>
    rw [q] at e
    cases x with
    | true => exact hb _ _ _ e
    | false => exact hc _ _ _ e
  | exn c fs s1 => rw [q] at e; cases e
  | stuck => rw [q] at e; cases e
end
/-- a generator def by name -/
structure Gk (P : Program) (w : World) (K : PySem.W.Frag) (mg : Str → Option Value) (base : Heap) (x : Str) (lvl : Nat) (f : Addr) (ps : List Str) (g : G) (df : List D → M D) : Prop where
  ok : ∃ fd, GFd P w K mg base (lvl + 1) f fd ps g df ∧ L2.Binds K fd ps []
  gm : mg x = some (.ref f)
  kp : PySem.W.keepIn K (.ref f) = true
section
variable {X : Cx} {g : G} {W : WX} {ss : List Stmt} {b : DS} {i lvl : Nat} {x fx : Str} {px p pos pos' : Pos} {f : Addr} {ps : List Str} {df : List D → M D} {e : Expr} {es : List Expr} {fa : Den (List D)}
theorem Gk.loop (Gd : Gk X.prog X.w X.K X.mg X.base fx lvl f ps g df) (hl : Lists ps.length df) (hr : Room (lvl + 2) X.A) (hg : Gl X fx) (ow : Own1 X) (hp : PassesOwn (model X.prog X.w) X.A X.env X.xe)
    (hN : X.N.Nodup) (hi : X.N[i]? = some x) (hk : X.env.scope.names.lookup x = some .local) (ha : PA X (e :: es) (tA g W fa)) (body : BG X g W ss b)
    (hdb : (fx == ("__debug__" : Str)) = false := by decide) (he : starEach (e :: es) X.env = (false, eval e X.env) :: starEach es X.env := by rfl) (hpl : (backTo pos' (starEach es X.env)).any (·.1) = false := by rfl) :
    PS X (.For (.Name x px) (.Call (.Name fx p) (e :: es) [] pos') ss [] pos) (tS g W (sFor (.nm i) (dItems (dCall df fa)) b)) := by
  obtain ⟨fd, G, bb⟩ := Gd.ok
  exact es_forG G hl hr hg Gd.gm Gd.kp bb ow hp hN hi hk ha body hdb he hpl
end
theorem own1_cx {CX : CXT} {P : Program} {w : World} {K : PySem.W.Frag} {mg : Str → Option Value} {base : Heap} {N : List Str} {qual : Str} {scope : Scope} {f : Addr} {cd : Value} {A : Around} {outer : List Env} {s : Shared} {H : Hp} {E : XK} (hnc : ∀ k, cellsFrom k scope.names [] = []) :
    Own1 (cxOf CX P w K mg base N qual scope f cd A outer s H E) := ⟨hnc _, rfl, rfl⟩
end DL
namespace DL
open PySem PySem.Spec PyProof.Rows L2 GenW
theorem ret_only {f : Den D} : ∀ st fl st', sRet f st = .ok fl st' → ∃ d, fl = .ret d := fun st fl st' e => by
  unfold sRet bindD at e
  cases q : f st with
  | ok d s1 => rw [q] at e; cases e; exact ⟨d, rfl⟩
  | exn c fs s1 => rw [q] at e; cases e
  | stuck => rw [q] at e; cases e
theorem raise1_no {c nm : Str} {f : Den D} : ∀ st fl st', sRaise1 c nm f st ≠ .ok fl st' := fun st fl st' e => by
  unfold sRaise1 bindD at e
  cases q : f st with
  | ok d s1 => rw [q] at e; cases e
  | exn c fs s1 => rw [q] at e; cases e
  | stuck => rw [q] at e; cases e
theorem bg_gath' {X : Cx} {g : G} {W : WX} {x y : Str} {i j : Nat} {px py ap cp pos lp px2 cp2 mp pos2 pos3 : Pos} {mn : Str} {n : Int} {rs : List Stmt} {r : DS} (ow : Own1 X) (hi : X.N[i]? = some x) (hk : X.env.scope.names.lookup x = some .local) (hj : X.N[j]? = some y) (hk2 : X.env.scope.names.lookup y = some .local)
    (hgl : Gl X "len") (hml : X.mg "len" = none) (hgm : Gl X mn) (hmm : ∃ tk, X.mg mn = some (.int n tk)) (hr : PSs X rs (tS g W r)) (hx : ∀ st fl st', r st ≠ .ok fl st')
    (hline : (ap.endLine == cp.line) = true := by rfl) (hsw : swapsWith (.Call (.Attribute (.Name x px) "append" ap) [.Name y py] [] cp) none pos.line X.env = pure false := by rfl)
    (hd : (x == ("__debug__" : Str)) = false := by decide) (hd2 : (y == ("__debug__" : Str)) = false := by decide) (hdm : (mn == ("__debug__" : Str)) = false := by decide) :
    BG X g W [.Expr (.Call (.Attribute (.Name x px) "append" ap) [.Name y py] [] cp) pos, .If (.Compare (.Call (.Name "len" lp) [.Name x px2] [] cp2) [.Gt] [.Name mn mp] pos2) rs [] pos3]
      (sSeq (sExpr (dAppend i (dVar j))) (sIf (dTst (dOp2 opGt (dOp1n opLen i) (dC (.int n)))) r sPass)) :=
  let ⟨_, h⟩ := hmm
  bg_gath ow hi hk hj hk2 hgl hml hgm h hr hx hline hsw hd hd2 hdm
end DL
namespace DL
open PySem PySem.Spec PyProof.Rows L2
def pRng3 (m n c : Int) : M (List Int) := if c = -1 ∧ m.natAbs ≤ big ∧ n.natAbs ≤ big then .ok ((List.range (m - n).toNat).map fun k => m - (k : Nat)) else .stuck
theorem op_rng3 {m n c : Int} : OP (rngD3 (eI m) (eI n) (eI c)) (pRng3 m n c) (List.map eI) := by
  unfold pRng3
  by_cases h : c = -1 ∧ m.natAbs ≤ big ∧ n.natAbs ≤ big
  · rw [if_pos h]
    show rngD3 (.int m) (.int n) (.int c) = _
    simp only [rngD3]
    rw [if_pos h, List.map_map]
    rfl
  · rw [if_neg h]; trivial
theorem rv_int {st : DSt} {i : Nat} {a : Int} (h : st[i]? = some (.sh (eI a))) : RV (dInt i) st (eI a) st := by
  show dInt i st = _
  unfold dInt
  rw [h]
section
variable {α γ τ : Type} {X : Bool} {n : Nat} {f : Den D} {b : DS} {st st1 : DSt} {K : γ → Fl → DSt → Prop}
theorem rs_yield {e : τ → D} {xs : List τ} {v : τ} {o : M γ} (h1 : RV f st (e v) st1) (hg : st1[n]? = some (.gy (xs.map e))) (h2 : RS X b (st1.set n (.gy ((xs ++ [v]).map e))) o K) : RS X (sSeq (sYield n f) b) st o K := by
  refine rs_exec (st1 := st1.set n (.gy ((xs ++ [v]).map e))) ?_ h2
  unfold sYield
  rw [show f st = _ from h1]
  simp only
  have e1 : isGy n st1 = true := by unfold isGy; rw [hg]
  have e2 : hid n st1 = xs.map e := by unfold hid; rw [hg]
  rw [if_pos e1, e2, List.map_append]
  rfl
def Kgen {τ : Type} (n : Nat) (e : τ → D) (r : List τ) (fl : Fl) (st : DSt) : Prop := fl = .nx ∧ st[n]? = some (.gy (r.map e))
theorem fn_G {m : Nat} {ds : List D} {f : DS} {o : M (List τ)} {e : τ → D} (hl : ds.length = m) (h : RS false f (ds.map Slot.sh ++ List.replicate (n - ds.length) .no ++ [.gy []]) o (Kgen n e)) : D0 (runG m n f ds) o (eL e) := by
  unfold runG
  rw [if_pos hl]
  cases o with
  | ok r =>
    obtain ⟨fl, st', e1, rfl, hg⟩ := h
    rw [e1]
    show M.ok (D.lst (hid n st')) = .ok _
    unfold hid
    rw [hg]
    rfl
  | exn c fs => trivial
  | stuck => trivial
theorem dm_nx {m : M D} {o : M α} {v : α → D} (h : D0 m o v) : DM m (pNX o) v := by
  cases o with
  | ok c => exact h
  | exn c fs => trivial
  | stuck => trivial
end
section
variable {α τ : Type} {st st' : DSt} {S : List τ → DSt} {f h k : Den D}
theorem re_dRng3 {o : M α} {v : α → List D} (hh : RE (bindD f fun x => bindD h fun y => bindD k fun z => liftO (rngD3 x y z)) st o v st') : RE (dRng3 f h k) st o v st' := hh
end
end DL
namespace LAW
open PySem PySem.Spec PyProof.Rows L2 DL
def topS (i : Nat) : Stmt := PySem.Challenge.pw_reesblocks_k36_whole_isomorphisms.main.body.getD i (.Pass ⟨0, 0, 0, 0⟩)
def fuel : Nat := 1000000
def PP : Program := (PySem.Challenge.rw_reesblocks_k36_whole_isomorphisms).prog
abbrev TK : Bool := false
theorem psup : (PP.main.scope.names.lookup ("super" : Str)).isSome = false := by kernel_rfl
def l1__law_state : DS := (sSeq (sSet 1 (dOp2 opAdd (dOp2 opMul (dVar 1) (dC (.int 1000003))) (dOp1n opAbs 3))) (sSet 2 (dOp2 opMod (dOp1 opInt (dOp2 opAdd (dOp2 opMul (dVar 2) (dC (.int 48271))) (dVar 3))) (dC (.int 2147483647)))))
def b__law_state : DS := (sSeq (sSet 1 (dC (.int 0))) (sSeq (sSet 2 (dC (.int 1))) (sSeq (sFor (.nm 3) (dItems (dSln 0 dNoP (dPart (dC (.int 63))))) l1__law_state) sPass)))
def r__law_state : Den (List D) := (dLst (dCons (dVar 1) (dCons (dVar 2) dNil)))
def d__law_state : List D → Option (List D) := runO 1 4 b__law_state r__law_state
def k2__law_take : DS := (sRet (dOp2 opMod (dOp1 opInt (dOp2 opDiv (dOp2n opIx 0 (dC (.int 1))) (dC (.int 7)))) (dVar 1)))
def k1__law_take : DS := (sSeq (sStore 0 (dC (.int 1)) (dOp2 opMod (dOp1 opInt (dOp2 opAdd (dOp2 opMul (dOp2n opIx 0 (dC (.int 1))) (dC (.int 48271))) (dC (.int 11)))) (dC (.int 2147483647)))) k2__law_take)
def b__law_take : DS := (sSeq (sIf (dTst (dOp2 opGt (dOp2n opIx 0 (dC (.int 0))) (dC (.int 0)))) (sSeq (sSet 2 (dOp2 opMod (dOp1 opInt (dOp2n opIx 0 (dC (.int 0)))) (dVar 1))) (sSeq (sStore 0 (dC (.int 0)) (dOp2 opDiv (dOp2n opIx 0 (dC (.int 0))) (dVar 1))) (sRet (dVar 2)))) sPass) k1__law_take)
def d__law_take : List D → List D → M (D × List D) := runR 2 3 b__law_take
def e1__law_extended : Den D := (dOp2 opIx (dOp2n opIx 1 (dVar 7)) (dVar 6))
def e2__law_extended : Den D := (dOp1 opTuple (dFrz (dComp [7] (.nm 7) (dRng (dVar 3)) dYes e1__law_extended)))
def e3__law_extended : Den D := (dOp2 opAdd (dVar 8) (dTup (dCons (dVar 3) dNil)))
def e4__law_extended : Den D := (dVar 3)
def e5__law_extended : Den D := (dOp2 opAdd (dOp2n opIx 1 (dVar 6)) (dTup (dCons (dVar 6) dNil)))
def e6__law_extended : Den D := (dOp2 opAdd (dOp2 opMul (dC (.int 2)) (dOp2 opIx (dOp2n opIx 1 (dOp2 opDiv (dVar 6) (dC (.int 2)))) (dOp2 opDiv (dVar 7) (dC (.int 2))))) (dOp2 opIx (dOp2n opIx 5 (dOp2 opMod (dOp1n opInt 6) (dC (.int 2)))) (dOp2 opMod (dOp1n opInt 7) (dC (.int 2)))))
def e7__law_extended : Den D := (dOp1 opTuple (dFrz (dComp [7] (.nm 7) (dRng (dOp2 opMul (dC (.int 2)) (dVar 3))) dYes e6__law_extended)))
def k6__law_extended : DS := (sRet (dVar 1))
def k5__law_extended : DS := (sSeq (sIf (dAnd (dTst (dOp2 opEq (dVar 4) (dC (.int 3)))) (dTst (dOp2 opLe (dOp2 opMul (dC (.int 2)) (dVar 3)) (dVar 2)))) (sSeq (sOwn 5 (dLst (dCons (dTup (dCons (dC (.int 0)) (dCons (dC (.int 0)) dNil))) (dCons (dTup (dCons (dC (.int 0)) (dCons (dC (.int 1)) dNil))) dNil)))) (sSeq (sIf (dTst (dOp2 opEq (dCallR d__law_take 0 (dCons (dC (.int 2)) dNil)) (dC (.int 0)))) (sOwn 5 (dLst (dCons (dTup (dCons (dC (.int 0)) (dCons (dC (.int 1)) dNil))) (dCons (dTup (dCons (dC (.int 1)) (dCons (dC (.int 0)) dNil))) dNil)))) sPass) (sRet (dFrz (dComp [6] (.nm 6) (dRng (dOp2 opMul (dC (.int 2)) (dVar 3))) dYes e7__law_extended))))) sPass) k6__law_extended)
def k4__law_extended : DS := (sSeq (sIf (dAnd (dTst (dOp2 opEq (dVar 4) (dC (.int 2)))) (dTst (dOp2 opLt (dVar 3) (dVar 2)))) (sRet (dFrz (dN2 nAdd (dFrz (dComp [6] (.nm 6) (dRng (dVar 3)) dYes e5__law_extended)) (dFrz (dLst (dCons (dTupRg (dRg1 (dOp2 opAdd (dVar 3) (dC (.int 1))))) dNil)))))) sPass) k5__law_extended)
def k3__law_extended : DS := (sSeq (sIf (dAnd (dTst (dOp2 opEq (dVar 4) (dC (.int 1)))) (dTst (dOp2 opLt (dVar 3) (dVar 2)))) (sRet (dFrz (dN2 nAdd (dFrz (dComp [8] (.nm 8) (dItems (dVar 1)) dYes e3__law_extended)) (dFrz (dLst (dCons (dOp1 opTuple (dFrz (dComp [7] (.nm 7) (dRng (dOp2 opAdd (dVar 3) (dC (.int 1)))) dYes e4__law_extended))) dNil)))))) sPass) k4__law_extended)
def k2__law_extended : DS := (sSeq (sIf (dTst (dOp2 opEq (dVar 4) (dC (.int 0)))) (sRet (dFrz (dComp [6] (.nm 6) (dRng (dVar 3)) dYes e2__law_extended))) sPass) k3__law_extended)
def k1__law_extended : DS := (sSeq (sSet 4 (dCallR d__law_take 0 (dCons (dC (.int 6)) dNil))) k2__law_extended)
def b__law_extended : DS := (sSeq (sSet 3 (dOp1n opLen 1)) k1__law_extended)
def d__law_extended : List D → List D → M (D × List D) := runR 3 9 b__law_extended
def e1__law_renamed : Den D := (dC (.int 0))
def e2__law_renamed : Den (List D) := (dComp [5] (.nm 5) (dRng (dVar 2)) dYes e1__law_renamed)
def l1__law_renamed : DS := (sStore2 3 (dOp2n opIx 1 (dVar 4)) (dOp2n opIx 1 (dVar 5)) (dOp2n opIx 1 (dOp2 opIx (dOp2n opIx 0 (dVar 4)) (dVar 5))))
def l2__law_renamed : DS := (sFor (.nm 5) (dRng (dVar 2)) l1__law_renamed)
def e3__law_renamed : Den D := (dOp1n opTuple 6)
def k3__law_renamed : DS := (sRet (dFrz (dComp [6] (.nm 6) (dItems (dVar 3)) dYes e3__law_renamed)))
def k2__law_renamed : DS := (sSeq (sFor (.nm 4) (dRng (dVar 2)) l2__law_renamed) k3__law_renamed)
def k1__law_renamed : DS := (sSeq (sOwn2 3 (dComp2 [4] (.nm 4) (dRng (dVar 2)) e2__law_renamed)) k2__law_renamed)
def b__law_renamed : DS := (sSeq (sSet 2 (dOp1n opLen 0)) k1__law_renamed)
def d__law_renamed : List D → M D := runF 2 7 b__law_renamed
def l1__law_triples : DS := (sSeq (sSet 11 (dOp2 opMod (dOp1n opInt 8) (dVar 1))) (sSeq (sSet 12 (dOp2 opDiv (dVar 10) (dOp2 opMul (dVar 2) (dVar 1)))) (sIf (dAnd (dTst (dVar 5)) (dTst (dOp2 opIx (dOp2n opIx 4 (dVar 11)) (dVar 12)))) (sExpr (dAppend 9 (dVar 6))) (sSeq (sSet 13 (dOp2 opMod (dOp1 opInt (dOp2 opAdd (dOp2 opAdd (dOp2 opDiv (dVar 8) (dVar 1)) (dOp2 opIx (dOp2n opIx 3 (dVar 11)) (dVar 12))) (dOp2 opDiv (dVar 10) (dVar 1)))) (dVar 2))) (sExpr (dAppend 9 (dOp2 opAdd (dOp2 opMul (dOp2 opAdd (dOp2 opMul (dOp2 opDiv (dVar 8) (dOp2 opMul (dVar 2) (dVar 1))) (dVar 2)) (dVar 13)) (dVar 1)) (dOp2 opMod (dOp1n opInt 10) (dVar 1)))))))))
def e1__law_triples : Den D := (dVar 6)
def l2__law_triples : DS := (sSeq (sOwn 9 (dLst dNil)) (sSeq (sFor (.nm 10) (dRng (dVar 6)) l1__law_triples) (sExpr (dAppend 7 (dOp1 opTuple (dFrz (dN2 nAdd (dVar 9) (dFrz (dComp [14] (.nm 14) (dRng (dOp1n opInt 5)) dYes e1__law_triples)))))))))
def e2__law_triples : Den D := (dVar 6)
def k4__law_triples : DS := (sRet (dVar 7))
def k3__law_triples : DS := (sSeq (sIf (dTst (dVar 5)) (sExpr (dAppend 7 (dOp1 opTuple (dFrz (dComp [14] (.nm 14) (dRng (dOp2 opAdd (dVar 6) (dC (.int 1)))) dYes e2__law_triples))))) sPass) k4__law_triples)
def k2__law_triples : DS := (sSeq (sFor (.nm 8) (dRng (dVar 6)) l2__law_triples) k3__law_triples)
def k1__law_triples : DS := (sSeq (sOwn 7 (dLst dNil)) k2__law_triples)
def b__law_triples : DS := (sSeq (sSet 6 (dOp2 opMul (dOp2 opMul (dVar 0) (dVar 1)) (dVar 2))) k1__law_triples)
def d__law_triples : List D → M D := runF 6 15 b__law_triples
def e1__law_blocks : Den D := (dCallR d__law_take 0 (dCons (dVar 4) dNil))
def e2__law_blocks : Den D := (dFrz (dComp [9] (.nm 9) (dRng (dVar 2)) dYes e1__law_blocks))
def e3__law_blocks : Den D := (dOp2 opEq (dCallR d__law_take 0 (dCons (dC (.int 3)) dNil)) (dC (.int 0)))
def e4__law_blocks : Den D := (dFrz (dComp [9] (.nm 9) (dRng (dVar 2)) dYes e3__law_blocks))
def k7__law_blocks : DS := (sRet (dCall d__law_triples (dCons (dVar 2) (dCons (dVar 3) (dCons (dVar 4) (dCons (dVar 5) (dCons (dVar 6) (dCons (dVar 7) dNil))))))))
def k6__law_blocks : DS := (sSeq (sSet 7 (dIf (dTst (dOp2 opEq (dCallR d__law_take 0 (dCons (dC (.int 2)) dNil)) (dC (.int 0)))) (dOp2 opLt (dOp2 opMul (dOp2 opMul (dVar 2) (dVar 3)) (dVar 4)) (dVar 1)) (dC (.bl false)))) k7__law_blocks)
def k5__law_blocks : DS := (sSeq (sOwn 6 (dComp [8] (.nm 8) (dRng (dVar 3)) dYes e4__law_blocks)) k6__law_blocks)
def k4__law_blocks : DS := (sSeq (sOwn 5 (dComp [8] (.nm 8) (dRng (dVar 3)) dYes e2__law_blocks)) k5__law_blocks)
def k3__law_blocks : DS := (sSeq (sIf (dTst (dOp2 opGt (dOp2 opAdd (dOp2 opMul (dOp2 opMul (dVar 2) (dVar 3)) (dVar 4)) (dC (.int 1))) (dVar 1))) (sAsg (.nms [2, 3, 4]) (dTup (dCons (dC (.int 1)) (dCons (dC (.int 1)) (dCons (dOp2 opMin2 (dC (.int 2)) (dVar 1)) dNil))))) sPass) k4__law_blocks)
def k2__law_blocks : DS := (sSeq (sSet 4 (dOp2 opAdd (dC (.int 1)) (dCallR d__law_take 0 (dCons (dC (.int 2)) dNil)))) k3__law_blocks)
def k1__law_blocks : DS := (sSeq (sSet 3 (dOp2 opAdd (dC (.int 1)) (dCallR d__law_take 0 (dCons (dC (.int 2)) dNil)))) k2__law_blocks)
def b__law_blocks : DS := (sSeq (sSet 2 (dOp2 opAdd (dC (.int 1)) (dCallR d__law_take 0 (dCons (dC (.int 2)) dNil)))) k1__law_blocks)
def d__law_blocks : List D → List D → M (D × List D) := runR 2 10 b__law_blocks
def l1__law_monogenic : DS := (sSeq (sSet 9 (dOp2 opAdd (dOp2 opAdd (dVar 6) (dVar 8)) (dC (.int 2)))) (sSeq (sIf (dTst (dOp2 opGt (dVar 9) (dVar 2))) (sSet 9 (dOp2 opAdd (dVar 4) (dOp2 opMod (dOp1 opInt (dOp2 opSub (dVar 9) (dVar 4))) (dVar 3)))) sPass) (sExpr (dAppend 7 (dOp2 opSub (dVar 9) (dC (.int 1)))))))
def l2__law_monogenic : DS := (sSeq (sOwn 7 (dLst dNil)) (sSeq (sFor (.nm 8) (dRng (dVar 2)) l1__law_monogenic) (sExpr (dAppend 5 (dOp1n opTuple 7)))))
def k5__law_monogenic : DS := (sRet (dVar 5))
def k4__law_monogenic : DS := (sSeq (sFor (.nm 6) (dRng (dVar 2)) l2__law_monogenic) k5__law_monogenic)
def k3__law_monogenic : DS := (sSeq (sOwn 5 (dLst dNil)) k4__law_monogenic)
def k2__law_monogenic : DS := (sSeq (sSet 4 (dOp2 opSub (dOp2 opAdd (dVar 2) (dC (.int 1))) (dVar 3))) k3__law_monogenic)
def k1__law_monogenic : DS := (sSeq (sSet 3 (dOp2 opAdd (dC (.int 1)) (dCallR d__law_take 0 (dCons (dVar 2) dNil)))) k2__law_monogenic)
def b__law_monogenic : DS := (sSeq (sSet 2 (dOp2 opAdd (dC (.int 1)) (dCallR d__law_take 0 (dCons (dVar 1) dNil)))) k1__law_monogenic)
def d__law_monogenic : List D → List D → M (D × List D) := runR 2 10 b__law_monogenic
def e1__law_after : Den D := (dOp2n opIx 1 (dVar 2))
def b__law_after : DS := (sRet (dOp1 opTuple (dFrz (dComp [2] (.nm 2) (dItems (dVar 0)) dYes e1__law_after))))
def d__law_after : List D → M D := runF 2 3 b__law_after
def l1__law_closed : DS := (sIf (dTst (dOp2m opNotIn (dVar 2) 1)) (sExpr (dAppend 1 (dVar 2))) sPass)
def l2__law_closed : DS := (sSeq (sSet 5 (dCall d__law_after (dCons (dVar 2) (dCons (dVar 4) dNil)))) (sIf (dAnd (dTst (dOp2m opNotIn (dVar 5) 1)) (dTst (dOp2 opLt (dOp1n opLen 1) (dC (.int 30))))) (sExpr (dAppend 1 (dVar 5))) sPass))
def l3__law_closed : DS := (sFor (.nm 4) (dItems (dVar 0)) l2__law_closed)
def l4__law_closed : DS := (sFor (.nm 2) (dItems (dFrz (dN1n nList 1))) l3__law_closed)
def k3__law_closed : DS := (sRet (dVar 1))
def k2__law_closed : DS := (sSeq (sFor (.nm 3) (dRng (dC (.int 30))) l4__law_closed) k3__law_closed)
def k1__law_closed : DS := (sSeq (sFor (.nm 2) (dItems (dVar 0)) l1__law_closed) k2__law_closed)
def b__law_closed : DS := (sSeq (sOwn 1 (dLst dNil)) k1__law_closed)
def d__law_closed : List D → M D := runF 1 6 b__law_closed
def e1__law_of_maps : Den D := (dCallR d__law_take 0 (dCons (dVar 2) dNil))
def l1__law_of_maps : DS := (sExpr (dAppend 3 (dOp1 opTuple (dFrz (dComp [6] (.nm 6) (dRng (dVar 2)) dYes e1__law_of_maps)))))
def e2__law_of_maps : Den D := (dOp2 opIx (dOp2n opIx 3 (dC (.int 0))) (dC (.int 0)))
def e3__law_of_maps : Den D := (dIndexN 5 (dCall d__law_after (dCons (dVar 7) (dCons (dVar 8) dNil))))
def e4__law_of_maps : Den D := (dOp1 opTuple (dFrz (dComp [8] (.nm 8) (dItems (dVar 5)) dYes e3__law_of_maps)))
def k6__law_of_maps : DS := (sRet (dFrz (dPre 5 (dComp [7] (.nm 7) (dItems (dVar 5)) dYes e4__law_of_maps))))
def k5__law_of_maps : DS := (sSeq (sIf (dTst (dOp2 opGt (dOp1n opLen 5) (dVar 1))) (sOwn 5 (dLst (dCons (dOp1 opTuple (dFrz (dComp [6] (.nm 6) (dRng (dVar 2)) dYes e2__law_of_maps))) dNil))) sPass) k6__law_of_maps)
def k4__law_of_maps : DS := (sSeq (sIf (dTst (dOp2 opGt (dOp1n opLen 5) (dVar 1))) (sSet 5 (dCall d__law_closed (dCons (dSln 3 dNoP (dPart (dC (.int 1)))) dNil))) sPass) k5__law_of_maps)
def k3__law_of_maps : DS := (sSeq (sSet 5 (dCall d__law_closed (dCons (dVar 3) dNil))) k4__law_of_maps)
def k2__law_of_maps : DS := (sSeq (sFor (.nm 4) (dRng (dOp2 opAdd (dC (.int 1)) (dCallR d__law_take 0 (dCons (dC (.int 2)) dNil)))) l1__law_of_maps) k3__law_of_maps)
def k1__law_of_maps : DS := (sSeq (sOwn 3 (dLst dNil)) k2__law_of_maps)
def b__law_of_maps : DS := (sSeq (sSet 2 (dOp2 opAdd (dC (.int 2)) (dCallR d__law_take 0 (dCons (dC (.int 2)) dNil)))) k1__law_of_maps)
def d__law_of_maps : List D → List D → M (D × List D) := runR 2 9 b__law_of_maps
def e1__law_plain : Den D := (dVar 4)
def e2__law_plain : Den D := (dOp1 opTuple (dFrz (dComp [5] (.nm 5) (dRng (dVar 3)) dYes e1__law_plain)))
def e3__law_plain : Den D := (dC (.int 0))
def e4__law_plain : Den D := (dOp1 opTuple (dFrz (dComp [5] (.nm 5) (dRng (dVar 3)) dYes e3__law_plain)))
def e5__law_plain : Den D := (dOp2 opMin2 (dVar 4) (dVar 5))
def e6__law_plain : Den D := (dOp1 opTuple (dFrz (dComp [5] (.nm 5) (dRng (dVar 3)) dYes e5__law_plain)))
def k7__law_plain : DS := (sRet (dCallR d__law_blocks 0 (dCons (dVar 1) dNil)))
def k6__law_plain : DS := (sSeq (sIf (dTst (dOp2 opLt (dVar 2) (dC (.int 6)))) (sRet (dCallR d__law_of_maps 0 (dCons (dVar 1) dNil))) sPass) k7__law_plain)
def k5__law_plain : DS := (sSeq (sIf (dTst (dOp2 opEq (dVar 2) (dC (.int 3)))) (sRet (dFrz (dComp [4] (.nm 4) (dRng (dVar 3)) dYes e6__law_plain))) sPass) k6__law_plain)
def k4__law_plain : DS := (sSeq (sIf (dTst (dOp2 opEq (dVar 2) (dC (.int 2)))) (sRet (dCallR d__law_monogenic 0 (dCons (dVar 1) dNil))) sPass) k5__law_plain)
def k3__law_plain : DS := (sSeq (sIf (dTst (dOp2 opEq (dVar 2) (dC (.int 1)))) (sRet (dFrz (dComp [4] (.nm 4) (dRng (dVar 3)) dYes e4__law_plain))) sPass) k4__law_plain)
def k2__law_plain : DS := (sSeq (sIf (dTst (dOp2 opEq (dVar 2) (dC (.int 0)))) (sRet (dFrz (dComp [4] (.nm 4) (dRng (dVar 3)) dYes e2__law_plain))) sPass) k3__law_plain)
def k1__law_plain : DS := (sSeq (sSet 3 (dOp2 opAdd (dC (.int 1)) (dCallR d__law_take 0 (dCons (dVar 1) dNil)))) k2__law_plain)
def b__law_plain : DS := (sSeq (sSet 2 (dCallR d__law_take 0 (dCons (dC (.int 8)) dNil))) k1__law_plain)
def d__law_plain : List D → List D → M (D × List D) := runR 2 6 b__law_plain
def l1__law_order_of : DS := (sExpr (dAppend 3 (dPopAt 2 (dCallR d__law_take 0 (dCons (dOp1n opLen 2) dNil)))))
def k3__law_order_of : DS := (sRet (dVar 3))
def k2__law_order_of : DS := (sSeq (sFor (.nm 4) (dRng (dVar 1)) l1__law_order_of) k3__law_order_of)
def k1__law_order_of : DS := (sSeq (sOwn 3 (dLst dNil)) k2__law_order_of)
def b__law_order_of : DS := (sSeq (sOwn 2 (dLstRg (dRg1 (dVar 1)))) k1__law_order_of)
def d__law_order_of : List D → List D → M (D × List D) := runR 2 5 b__law_order_of
def b__law_semigroup : DS := (sSeq (sSet 2 (dCallR d__law_extended 0 (dCons (dCallR d__law_plain 0 (dCons (dVar 1) dNil)) (dCons (dVar 1) dNil)))) (sRet (dCall d__law_renamed (dCons (dVar 2) (dCons (dCallR d__law_order_of 0 (dCons (dOp1n opLen 2) dNil)) dNil)))))
def d__law_semigroup : List D → List D → M (D × List D) := runR 2 3 b__law_semigroup
def b_is_integer : DS := (sRet (dIf (dTst (dOp1 (opIsi "int") (dVar 0))) (dVal (dNot (dTst (dOp1 (opIsi "bool") (dVar 0))))) (dC (.bl false))))
def d_is_integer : List D → M D := runF 1 1 b_is_integer
def b_is_item : DS := (sRet (dIf (dTst (dCall d_is_integer (dCons (dVar 0) dNil))) (dChain opLe opLt (dC (.int 0)) (dVar 0) (dVar 1)) (dC (.bl false))))
def d_is_item : List D → M D := runF 2 2 b_is_item
def l1_taken_table : DS := (sIf (dNot (dTst (dCall d_is_item (dCons (dVar 3) (dCons (dOp1n opLen 0) dNil))))) (sRaise0 "Malformed") sPass)
def l2_taken_table : DS := (sSeq (sIf (dOr (dNot (dTst (dOp1 (opIsi2 "list" "tuple") (dVar 2)))) (dTst (dOp2 opNe (dOp1n opLen 2) (dOp1n opLen 0)))) (sRaise0 "Malformed") sPass) (sSeq (sFor (.nm 3) (dItems (dVar 2)) l1_taken_table) (sExpr (dAppend 1 (dOp1n opTuple 2)))))
def k3_taken_table : DS := (sRet (dOp1n opTuple 1))
def k2_taken_table : DS := (sSeq (sFor (.nm 2) (dItems (dVar 0)) l2_taken_table) k3_taken_table)
def k1_taken_table : DS := (sSeq (sOwn 1 (dLst dNil)) k2_taken_table)
def b_taken_table : DS := (sSeq (sIf (dOr (dNot (dTst (dOp1 (opIsi2 "list" "tuple") (dVar 0)))) (dTst (dOp2 opEq (dOp1n opLen 0) (dC (.int 0))))) (sRaise0 "Malformed") sPass) k1_taken_table)
def d_taken_table : List D → M D := runF 1 4 b_taken_table
def e1_is_associative : Den D := (dOp2 opIx (dOp2n opIx 0 (dOp2n opIx 1 (dVar 2))) (dVar 3))
def e2_is_associative : Den D := (dOp2n opIx 1 (dVar 4))
def l1_is_associative : DS := (sIf (dTst (dOp2 opNe (dFrz (dComp [3] (.nm 3) (dRng (dOp1n opLen 0)) dYes e1_is_associative)) (dFrz (dComp [4] (.nm 4) (dItems (dOp2n opIx 0 (dVar 2))) dYes e2_is_associative)))) (sRet (dC (.bl false))) sPass)
def l2_is_associative : DS := (sFor (.nm 2) (dRng (dOp1n opLen 0)) l1_is_associative)
def b_is_associative : DS := (sSeq (sFor (.nm 1) (dItems (dVar 0)) l2_is_associative) (sRet (dC (.bl true))))
def d_is_associative : List D → M D := runF 1 5 b_is_associative
def k4_Semigroup___init__ : DS := (sSelf 0 "Semigroup" "table" (dVar 2))
def k3_Semigroup___init__ : DS := (sSeq (sSelf 0 "Semigroup" "n" (dOp1n opLen 2)) k4_Semigroup___init__)
def k2_Semigroup___init__ : DS := (sSeq (sIf (dNot (dTst (dCall d_is_associative (dCons (dVar 2) dNil)))) (sRaise1 "Refused" "reason" (dC (.str "associative"))) sPass) k3_Semigroup___init__)
def k1_Semigroup___init__ : DS := (sSeq (sIf (dTst (dOp2 opGt (dOp1n opLen 2) (dC (.int 24)))) (sRaise1 "Refused" "reason" (dC (.str "large"))) sPass) k2_Semigroup___init__)
def b_Semigroup___init__ : DS := (sSeq (sSet 2 (dCall d_taken_table (dCons (dVar 1) dNil))) k1_Semigroup___init__)
def d_Semigroup___init__ : List D → M (List Str × List D) := runI "Semigroup" 2 3 b_Semigroup___init__
def e1__law_arrangements : Den D := (dOp2 opAdd (dVar 4) (dTup (dCons (dVar 5) dNil)))
def t1__law_arrangements : Den Bool := (dTst (dOp2m opNotIn (dVar 5) 4))
def l1__law_arrangements : DS := (sOwn 3 (dN2 nAdd (dVar 3) (dFrz (dComp [5] (.nm 5) (dRng (dVar 0)) t1__law_arrangements e1__law_arrangements))))
def l2__law_arrangements : DS := (sSeq (sOwn 3 (dLst dNil)) (sSeq (sFor (.nm 4) (dItems (dVar 1)) l1__law_arrangements) (sOwn 1 (dN1n nList 3))))
def k2__law_arrangements : DS := (sRet (dVar 1))
def k1__law_arrangements : DS := (sSeq (sFor (.nm 2) (dRng (dVar 0)) l2__law_arrangements) k2__law_arrangements)
def b__law_arrangements : DS := (sSeq (sOwn 1 (dLst (dCons (dTup dNil) dNil))) k1__law_arrangements)
def d__law_arrangements : List D → M D := runF 1 6 b__law_arrangements
def l1__law_found : DS := (sIf (dTst (dOp2 opNe (dOp2n opIx 4 (dOp2 opIx (dOp2n opIx 0 (dVar 6)) (dVar 7))) (dOp2 opIx (dOp2n opIx 1 (dOp2n opIx 4 (dVar 6))) (dOp2n opIx 4 (dVar 7))))) (sSet 5 (dC (.bl false))) sPass)
def l2__law_found : DS := (sFor (.nm 7) (dRng (dVar 2)) l1__law_found)
def l3__law_found : DS := (sSeq (sSet 5 (dC (.bl true))) (sSeq (sFor (.nm 6) (dRng (dVar 2)) l2__law_found) (sIf (dTst (dVar 5)) (sExpr (dAppend 3 (dVar 4))) sPass)))
def k4__law_found : DS := (sRet (dFrz (dN1n nSortedA 3)))
def k3__law_found : DS := (sSeq (sFor (.nm 4) (dItems (dCall d__law_arrangements (dCons (dVar 2) dNil))) l3__law_found) k4__law_found)
def k2__law_found : DS := (sSeq (sIf (dTst (dOp2 opNe (dOp1n opLen 1) (dVar 2))) (sRet (dVar 3)) sPass) k3__law_found)
def k1__law_found : DS := (sSeq (sOwn 3 (dLst dNil)) k2__law_found)
def b__law_found : DS := (sSeq (sSet 2 (dOp1n opLen 0)) k1__law_found)
def d__law_found : List D → M D := runF 2 8 b__law_found
def l1_close : DS := (sSeq (sSet 7 (dOp2 opIx (dOp2 opIx (dOp1 (opFld "Semigroup" "table") (dVar 0)) (dVar 5)) (dVar 6))) (sIf (dTst (dOp2m opNotIn (dVar 7) 1)) (sSeq (sExpr (dAppend 1 (dVar 7))) (sExpr (dAppend 2 (dTup (dCons (dVar 7) (dCons (dVar 5) (dCons (dVar 6) dNil))))))) sPass))
def l2_close : DS := (sFor (.nms [5, 6]) (dItems (dTup (dCons (dTup (dCons (dOp2n opIx 1 (dVar 3)) (dCons (dVar 4) dNil))) (dCons (dTup (dCons (dVar 4) (dCons (dOp2n opIx 1 (dVar 3)) dNil))) dNil)))) l1_close)
def l3_close : DS := (sSeq (sFor (.nm 4) (dItems (dFrz (dN1 nList (dSln 1 dNoP (dPart (dOp2 opAdd (dVar 3) (dC (.int 1)))))))) l2_close) (sSet 3 (dOp2 opAddI (dInt 3) (dC (.int 1)))))
def t1_close : Den Bool := (dTst (dOp2 opLt (dVar 3) (dOp1n opLen 1)))
def k3_close : DS := (sRet (dVar 2))
def k2_close : DS := (sSeq (sWhile t1_close l3_close fuel) k3_close)
def k1_close : DS := (sSeq (sSet 3 (dC (.int 0))) k2_close)
def b_close : DS := (sSeq (sOwn 2 (dLst dNil)) k1_close)
def d_close : List D → List D → M (D × List D) := runR1 2 8 b_close
def l1_closing : DS := (sIf (dTst (dOp2m opNotIn (dVar 3) 1)) (sSeq (sExpr (dAppend 1 (dVar 3))) (sSeq (sSet 4 (dCallR d_close 1 (dCons (dVar 0) dNil))) (sExpr (dAppend 2 (dTup (dCons (dVar 3) (dCons (dOp1n opTuple 1) (dCons (dOp1n opTuple 4) dNil)))))))) sPass)
def k3_closing : DS := (sRet (dVar 2))
def k2_closing : DS := (sSeq (sFor (.nm 3) (dRng (dOp1 (opFld "Semigroup" "n") (dVar 0))) l1_closing) k3_closing)
def k1_closing : DS := (sSeq (sOwn 2 (dLst dNil)) k2_closing)
def b_closing : DS := (sSeq (sOwn 1 (dLst dNil)) k1_closing)
def d_closing : List D → M D := runF 1 5 b_closing
def l1_extended : DS := (sStore 9 (dVar 10) (dOp2 opIx (dOp2 opIx (dOp1 (opFld "Semigroup" "table") (dVar 1)) (dOp2n opIx 9 (dVar 11))) (dOp2n opIx 9 (dVar 12))))
def l2_extended : DS := (sIf (dTst (dOp2 opNe (dOp2n opIx 9 (dOp2 opIx (dOp2 opIx (dOp1 (opFld "Semigroup" "table") (dVar 0)) (dVar 11)) (dVar 12))) (dOp2 opIx (dOp2 opIx (dOp1 (opFld "Semigroup" "table") (dVar 1)) (dOp2n opIx 9 (dVar 11))) (dOp2n opIx 9 (dVar 12))))) (sRet (dC .non)) sPass)
def l3_extended : DS := (sFor (.nm 12) (dItems (dVar 7)) l2_extended)
def e1_extended : Den D := (dOp2n opIx 9 (dVar 13))
def k6_extended : DS := (sRet (dVar 9))
def k5_extended : DS := (sSeq (sIf (dAnd (dTst (dVar 5)) (dTst (dOp2 opNe (dOp1 opLenSet (dFrz (dComp [13] (.nm 13) (dItems (dVar 7)) dYes e1_extended))) (dOp1n opLen 7)))) (sRet (dC .non)) sPass) k6_extended)
def k4_extended : DS := (sSeq (sFor (.nm 11) (dItems (dVar 7)) l3_extended) k5_extended)
def k3_extended : DS := (sSeq (sFor (.nms [10, 11, 12]) (dItems (dVar 8)) l1_extended) k4_extended)
def k2_extended : DS := (sSeq (sStore 9 (dVar 6) (dVar 4)) k3_extended)
def k1_extended : DS := (sSeq (sOwn 9 (dN1n nList 2)) k2_extended)
def b_extended : DS := (sSeq (sAsg (.nms [6, 7, 8]) (dVar 3)) k1_extended)
def d_extended : List D → M D := runF 6 14 b_extended
def g1_walk : DS := (sSet 3 (dCall d_closing (dCons (dVar 0) dNil)))
def g2_walk : DS := (sOwn 4 (dLst (dCons (dTup (dCons (dFrz (dN2 nMul (dFrz (dLst (dCons (dOp1 opNeg (dC (.int 1))) dNil))) (dOp1 (opFld "Semigroup" "n") (dVar 0)))) (dCons (dC (.int 0)) dNil))) dNil)))
def t1_walk : Den Bool := (dTst (dOp2 opGt (dOp1n opLen 4) (dC (.int 0))))
def g3_walk : DS := (sAsg (.nms [5, 6]) (dPop 4))
def t2_walk : Den Bool := (dTst (dOp2 opEq (dVar 6) (dOp1n opLen 3)))
def y1_walk : Den D := (dOp1n opTuple 5)
def l1_walk : DS := (sSeq (sSet 8 (dCall d_extended (dCons (dVar 0) (dCons (dVar 1) (dCons (dVar 5) (dCons (dOp2n opIx 3 (dVar 6)) (dCons (dVar 7) (dCons (dVar 2) dNil)))))))) (sIf (dTst (dOp2 opIsNot (dVar 8) (dC .non))) (sExpr (dAppend 4 (dTup (dCons (dVar 8) (dCons (dOp2 opAdd (dVar 6) (dC (.int 1))) dNil))))) sPass))
def g4_walk : DS := (sFor (.nm 7) (dRng3 (dOp2 opSub (dOp1 (opFld "Semigroup" "n") (dVar 1)) (dC (.int 1))) (dOp1 opNeg (dC (.int 1))) (dOp1 opNeg (dC (.int 1)))) l1_walk)
def l2_walk : DS := (sSeq g3_walk (sIf t2_walk (sYield 9 y1_walk) g4_walk))
def b_walk : DS := (sSeq g1_walk (sSeq g2_walk (sWhile t1_walk l2_walk fuel)))
def d_walk : List D → M D := runG 3 9 b_walk
def l1_find_isomorphism : DS := (sRet (dVar 2))
def k2_find_isomorphism : DS := (sRet (dC .non))
def k1_find_isomorphism : DS := (sSeq (sFor (.nm 2) (dItems (dCall d_walk (dCons (dVar 0) (dCons (dVar 1) (dCons (dC (.bl true)) dNil))))) l1_find_isomorphism) k2_find_isomorphism)
def b_find_isomorphism : DS := (sSeq (sIf (dTst (dOp2 opNe (dOp1 (opFld "Semigroup" "n") (dVar 0)) (dOp1 (opFld "Semigroup" "n") (dVar 1)))) (sRet (dC .non)) sPass) k1_find_isomorphism)
def d_find_isomorphism : List D → M D := runF 2 3 b_find_isomorphism
def l1_gathered : DS := (sSeq (sExpr (dAppend 3 (dVar 4))) (sIf (dTst (dOp2 opGt (dOp1n opLen 3) (dC (.int 50000)))) (sRaise1 "Refused" "reason" (dC (.str "many"))) sPass))
def k2_gathered : DS := (sRet (dVar 3))
def k1_gathered : DS := (sSeq (sFor (.nm 4) (dItems (dCall d_walk (dCons (dVar 0) (dCons (dVar 1) (dCons (dVar 2) dNil))))) l1_gathered) k2_gathered)
def b_gathered : DS := (sSeq (sOwn 3 (dLst dNil)) k1_gathered)
def d_gathered : List D → M D := runF 3 5 b_gathered
def b_one_to_one : DS := (sRet (dOp1 opTuple (dCall d_gathered (dCons (dVar 0) (dCons (dVar 1) (dCons (dC (.bl true)) dNil))))))
def d_one_to_one : List D → M D := runF 2 2 b_one_to_one
def b_automorphisms : DS := (sRet (dCall d_one_to_one (dCons (dVar 0) (dCons (dVar 0) dNil))))
def d_automorphisms : List D → M D := runF 1 1 b_automorphisms
def k10_law : DS := (sRet (dOp2 opEq (dCall d_automorphisms (dCons (dVar 4) dNil)) (dOp1 opTuple (dCall d__law_found (dCons (dVar 2) (dCons (dVar 2) dNil))))))
def k9_law : DS := (sSeq (sIf (dTst (dOp2 opNe (dOp2 opIs (dCall d_find_isomorphism (dCons (dVar 5) (dCons (dVar 4) dNil))) (dC .non)) (dOp2 opEq (dOp1n opLen 6) (dC (.int 0))))) (sRet (dC (.bl false))) sPass) k10_law)
def k8_law : DS := (sSeq (sIf (dTst (dOp2 opNe (dVar 7) (dIf (dTst (dOp2 opGt (dOp1n opLen 6) (dC (.int 0)))) (dOp2n opIx 6 (dC (.int 0))) (dC .non)))) (sRet (dC (.bl false))) sPass) k9_law)
def k7_law : DS := (sSeq (sSet 7 (dCall d_find_isomorphism (dCons (dVar 4) (dCons (dVar 5) dNil)))) k8_law)
def k6_law : DS := (sSeq (sSet 6 (dCall d__law_found (dCons (dVar 2) (dCons (dVar 3) dNil)))) k7_law)
def k5_law : DS := (sSeq (sSet 5 (dCall (makeM "Semigroup" d_Semigroup___init__) (dCons (dVar 3) dNil))) k6_law)
def k4_law : DS := (sSeq (sSet 4 (dCall (makeM "Semigroup" d_Semigroup___init__) (dCons (dVar 2) dNil))) k5_law)
def k3_law : DS := (sSeq (sIf (dTst (dOp2 opEq (dCallR d__law_take 1 (dCons (dC (.int 2)) dNil)) (dC (.int 0)))) (sSet 3 (dCall d__law_renamed (dCons (dVar 2) (dCons (dCallR d__law_order_of 1 (dCons (dOp1n opLen 2) dNil)) dNil)))) sPass) k4_law)
def k2_law : DS := (sSeq (sSet 3 (dCallR d__law_semigroup 1 (dCons (dC (.int 5)) dNil))) k3_law)
def k1_law : DS := (sSeq (sSet 2 (dCallR d__law_semigroup 1 (dCons (dC (.int 5)) dNil))) k2_law)
def b_law : DS := (sSeq (sOwn 1 (dCallO d__law_state (dCons (dVar 0) dNil))) k1_law)
def d_law : List D → M D := runF 1 8 b_law
def dd__law_state : He.DefD := ⟨("_law_state", none), "_law_state", "_law_state", defArgs (topS 24), defBody (topS 24), defScope (topS 24), [], []⟩
def dd__law_take : He.DefD := ⟨("_law_take", none), "_law_take", "_law_take", defArgs (topS 25), defBody (topS 25), defScope (topS 25), [], []⟩
def dd__law_extended : He.DefD := ⟨("_law_extended", none), "_law_extended", "_law_extended", defArgs (topS 35), defBody (topS 35), defScope (topS 35), [], []⟩
def dd__law_renamed : He.DefD := ⟨("_law_renamed", none), "_law_renamed", "_law_renamed", defArgs (topS 27), defBody (topS 27), defScope (topS 27), [], []⟩
def dd__law_triples : He.DefD := ⟨("_law_triples", none), "_law_triples", "_law_triples", defArgs (topS 32), defBody (topS 32), defScope (topS 32), [], []⟩
def dd__law_blocks : He.DefD := ⟨("_law_blocks", none), "_law_blocks", "_law_blocks", defArgs (topS 33), defBody (topS 33), defScope (topS 33), [], []⟩
def dd__law_monogenic : He.DefD := ⟨("_law_monogenic", none), "_law_monogenic", "_law_monogenic", defArgs (topS 31), defBody (topS 31), defScope (topS 31), [], []⟩
def dd__law_after : He.DefD := ⟨("_law_after", none), "_law_after", "_law_after", defArgs (topS 28), defBody (topS 28), defScope (topS 28), [], []⟩
def dd__law_closed : He.DefD := ⟨("_law_closed", none), "_law_closed", "_law_closed", defArgs (topS 29), defBody (topS 29), defScope (topS 29), [], []⟩
def dd__law_of_maps : He.DefD := ⟨("_law_of_maps", none), "_law_of_maps", "_law_of_maps", defArgs (topS 30), defBody (topS 30), defScope (topS 30), [], []⟩
def dd__law_plain : He.DefD := ⟨("_law_plain", none), "_law_plain", "_law_plain", defArgs (topS 34), defBody (topS 34), defScope (topS 34), [], []⟩
def dd__law_order_of : He.DefD := ⟨("_law_order_of", none), "_law_order_of", "_law_order_of", defArgs (topS 26), defBody (topS 26), defScope (topS 26), [], []⟩
def dd__law_semigroup : He.DefD := ⟨("_law_semigroup", none), "_law_semigroup", "_law_semigroup", defArgs (topS 36), defBody (topS 36), defScope (topS 36), [], []⟩
def dd_is_integer : He.DefD := ⟨("is_integer", none), "is_integer", "is_integer", defArgs (topS 6), defBody (topS 6), defScope (topS 6), [], []⟩
def dd_is_item : He.DefD := ⟨("is_item", none), "is_item", "is_item", defArgs (topS 9), defBody (topS 9), defScope (topS 9), [], []⟩
def dd_taken_table : He.DefD := ⟨("taken_table", none), "taken_table", "taken_table", defArgs (topS 10), defBody (topS 10), defScope (topS 10), [], []⟩
def dd_is_associative : He.DefD := ⟨("is_associative", none), "is_associative", "is_associative", defArgs (topS 11), defBody (topS 11), defScope (topS 11), [], []⟩
def dd_Semigroup___init__ : He.DefD := ⟨("Semigroup", some "__init__"), "__init__", "Semigroup.__init__", defArgs (inClass (topS 12) 0), defBody (inClass (topS 12) 0), defScope (inClass (topS 12) 0), [], []⟩
def dd__law_arrangements : He.DefD := ⟨("_law_arrangements", none), "_law_arrangements", "_law_arrangements", defArgs (topS 37), defBody (topS 37), defScope (topS 37), [], []⟩
def dd__law_found : He.DefD := ⟨("_law_found", none), "_law_found", "_law_found", defArgs (topS 38), defBody (topS 38), defScope (topS 38), [], []⟩
def dd_close : He.DefD := ⟨("close", none), "close", "close", defArgs (topS 16), defBody (topS 16), defScope (topS 16), [], []⟩
def dd_closing : He.DefD := ⟨("closing", none), "closing", "closing", defArgs (topS 15), defBody (topS 15), defScope (topS 15), [], []⟩
def dd_extended : He.DefD := ⟨("extended", none), "extended", "extended", defArgs (topS 17), defBody (topS 17), defScope (topS 17), [], []⟩
def dd_walk : He.DefD := ⟨("walk", none), "walk", "walk", defArgs (topS 18), defBody (topS 18), defScope (topS 18), [], []⟩
def dd_find_isomorphism : He.DefD := ⟨("find_isomorphism", none), "find_isomorphism", "find_isomorphism", defArgs (topS 21), defBody (topS 21), defScope (topS 21), [], []⟩
def dd_gathered : He.DefD := ⟨("gathered", none), "gathered", "gathered", defArgs (topS 19), defBody (topS 19), defScope (topS 19), [], []⟩
def dd_one_to_one : He.DefD := ⟨("one_to_one", none), "one_to_one", "one_to_one", defArgs (topS 20), defBody (topS 20), defScope (topS 20), [], []⟩
def dd_automorphisms : He.DefD := ⟨("automorphisms", none), "automorphisms", "automorphisms", defArgs (topS 22), defBody (topS 22), defScope (topS 22), [], []⟩
def dd_law : He.DefD := ⟨("law", none), "law", "law", defArgs (topS 39), defBody (topS 39), defScope (topS 39), [], []⟩
def fn : List He.DefD := [dd__law_state, dd__law_take, dd__law_extended, dd__law_renamed, dd__law_triples, dd__law_blocks, dd__law_monogenic, dd__law_after, dd__law_closed, dd__law_of_maps, dd__law_plain, dd__law_order_of, dd__law_semigroup, dd_is_integer, dd_is_item, dd_taken_table, dd_is_associative, dd_Semigroup___init__, dd__law_arrangements, dd__law_found, dd_close, dd_closing, dd_extended, dd_walk, dd_find_isomorphism, dd_gathered, dd_one_to_one, dd_automorphisms, dd_law]
def ed_Refused : He.DefD := ⟨("Refused", some "__init__"), "__init__", "Refused.__init__", defArgs (inClass (topS 4) 0), defBody (inClass (topS 4) 0), defScope (inClass (topS 4) 0), [], []⟩
def xn : List He.DefD := [ed_Refused]
def fa : List He.Fa := [.free "abs", .free "bool", .free "int", .free "isinstance", .free "len", .free "list", .free "min", .free "range", .free "set", .free "sorted", .free "super", .free "tuple", .int "MOST_homs" 50000, .int "MOST_semigroup" 24, .glo "Semigroup", .cls "Semigroup", .noat "Semigroup" "n", .noat "Semigroup" "table", .glo "Fault", .exc "Fault", .glo "Malformed", .exc "Malformed", .glo "Refused", .glo "_law_state", .glo "_law_take", .glo "_law_extended", .glo "_law_renamed", .glo "_law_triples", .glo "_law_blocks", .glo "_law_monogenic", .glo "_law_after", .glo "_law_closed", .glo "_law_of_maps", .glo "_law_plain", .glo "_law_order_of", .glo "_law_semigroup", .glo "is_integer", .glo "is_item", .glo "taken_table", .glo "is_associative", .mkr "Semigroup", .glo "_law_arrangements", .glo "_law_found", .glo "close", .glo "closing", .glo "extended", .glo "walk", .glo "find_isomorphism", .glo "gathered", .glo "one_to_one", .glo "automorphisms", .glo "law"]
def ex (K : PySem.W.Frag) : Bool := (true && errB K PP.main.file "Refused" "reason")
section
variable {w : World} {K : PySem.W.Frag} {mg : Str → Option Value} {base h : Heap}
theorem T_free_abs (KX : K.In h) (G : h.Ns mainGlobals mg) (c : Says fa fn xn ex K) : mg "abs" = none := He.free_ok KX G (c.fact 0 (f := .free "abs") rfl)
theorem T_free_bool (KX : K.In h) (G : h.Ns mainGlobals mg) (c : Says fa fn xn ex K) : mg "bool" = none := He.free_ok KX G (c.fact 1 (f := .free "bool") rfl)
theorem T_free_int (KX : K.In h) (G : h.Ns mainGlobals mg) (c : Says fa fn xn ex K) : mg "int" = none := He.free_ok KX G (c.fact 2 (f := .free "int") rfl)
theorem T_free_isinstance (KX : K.In h) (G : h.Ns mainGlobals mg) (c : Says fa fn xn ex K) : mg "isinstance" = none := He.free_ok KX G (c.fact 3 (f := .free "isinstance") rfl)
theorem T_free_len (KX : K.In h) (G : h.Ns mainGlobals mg) (c : Says fa fn xn ex K) : mg "len" = none := He.free_ok KX G (c.fact 4 (f := .free "len") rfl)
theorem T_free_list (KX : K.In h) (G : h.Ns mainGlobals mg) (c : Says fa fn xn ex K) : mg "list" = none := He.free_ok KX G (c.fact 5 (f := .free "list") rfl)
theorem T_free_min (KX : K.In h) (G : h.Ns mainGlobals mg) (c : Says fa fn xn ex K) : mg "min" = none := He.free_ok KX G (c.fact 6 (f := .free "min") rfl)
theorem T_free_range (KX : K.In h) (G : h.Ns mainGlobals mg) (c : Says fa fn xn ex K) : mg "range" = none := He.free_ok KX G (c.fact 7 (f := .free "range") rfl)
theorem T_free_set (KX : K.In h) (G : h.Ns mainGlobals mg) (c : Says fa fn xn ex K) : mg "set" = none := He.free_ok KX G (c.fact 8 (f := .free "set") rfl)
theorem T_free_sorted (KX : K.In h) (G : h.Ns mainGlobals mg) (c : Says fa fn xn ex K) : mg "sorted" = none := He.free_ok KX G (c.fact 9 (f := .free "sorted") rfl)
theorem T_free_super (KX : K.In h) (G : h.Ns mainGlobals mg) (c : Says fa fn xn ex K) : mg "super" = none := He.free_ok KX G (c.fact 10 (f := .free "super") rfl)
theorem T_free_tuple (KX : K.In h) (G : h.Ns mainGlobals mg) (c : Says fa fn xn ex K) : mg "tuple" = none := He.free_ok KX G (c.fact 11 (f := .free "tuple") rfl)
theorem T_int_MOST_homs (KX : K.In h) (G : h.Ns mainGlobals mg) (c : Says fa fn xn ex K) : ∃ t, mg "MOST_homs" = some (.int 50000 t) := He.int_ok KX G (c.fact 12 (f := .int "MOST_homs" 50000) rfl)
theorem T_int_MOST_semigroup (KX : K.In h) (G : h.Ns mainGlobals mg) (c : Says fa fn xn ex K) : ∃ t, mg "MOST_semigroup" = some (.int 24 t) := He.int_ok KX G (c.fact 13 (f := .int "MOST_semigroup" 24) rfl)
theorem T_cls_Semigroup (KX : K.In h) (G : h.Ns mainGlobals mg) (c : Says fa fn xn ex K) : ClsF ⟨K, mg, none, TK⟩ "Semigroup" (He.ga K "Semigroup") := ⟨He.glo_ok KX G (c.fact 14 (f := .glo "Semigroup") rfl), He.cls_ok (c.fact 15 (f := .cls "Semigroup") rfl)⟩
theorem T_noat_Semigroup_n (KX : K.In h) (G : h.Ns mainGlobals mg) (c : Says fa fn xn ex K) : NoAttr K (He.ga K "Semigroup") "n" := He.noat_ok (c.fact 16 (f := .noat "Semigroup" "n") rfl)
theorem T_noat_Semigroup_table (KX : K.In h) (G : h.Ns mainGlobals mg) (c : Says fa fn xn ex K) : NoAttr K (He.ga K "Semigroup") "table" := He.noat_ok (c.fact 17 (f := .noat "Semigroup" "table") rfl)
theorem T_glo_Malformed (KX : K.In h) (G : h.Ns mainGlobals mg) (c : Says fa fn xn ex K) : mg "Malformed" = some (.ref (He.ga K "Malformed")) := He.glo_ok KX G (c.fact 20 (f := .glo "Malformed") rfl)
theorem T_exc_Malformed (KX : K.In h) (G : h.Ns mainGlobals mg) (c : Says fa fn xn ex K) : PySem.W.excIn K (He.ga K "Malformed") He.veBase "ValueError.__new__" = true ∧ PySem.W.keepIn K (.ref (He.ga K "Malformed")) = true ∧ PySem.W.subIn K (.ref (He.ga K "Malformed")) (.type "BaseException") = some true ∧ PySem.W.typeIn K (.ref (He.ga K "Malformed")) = some (.type "type") := He.exc_ok (c.fact 21 (f := .exc "Malformed") rfl)
theorem T_glo_Refused (KX : K.In h) (G : h.Ns mainGlobals mg) (c : Says fa fn xn ex K) : mg "Refused" = some (.ref (He.ga K "Refused")) := He.glo_ok KX G (c.fact 22 (f := .glo "Refused") rfl)
theorem T_err_Refused (KX : K.In h) (G : h.Ns mainGlobals mg) (c : Says fa fn xn ex K) : PySem.ErrX.ErrTxt PP K "Refused" "Refused.__init__" (He.ga K "Refused") (He.fAd K ("Refused", some "__init__")) "reason" "reason" (argOf (defBody (inClass (topS 4) 0))) ∧ XfC K (He.ga K "Refused") :=
  err_txt (d := ed_Refused) (file := PP.main.file) (c.clo 0) (He.ba c.xtra).2 (He.eqO_ok (c.fact 10 (f := .free "super") rfl)) rfl rfl rfl rfl rfl rfl (.inl ⟨_, rfl⟩) ⟨by decide, by decide, by decide, by decide⟩ (fun _ _ _ _ _ _ _ _ _ _ _ _ _ => BindsTo.of_eq rfl) rfl psup (fun _ => rfl)
theorem sc__law_state : FnScope ["_law_script", "_law_seed", "_law_total", "_law_cell"] ["_law_script"] (defScope (topS 24)) := ⟨rfl, rfl, rfl, by decide +kernel, rfl, by decide +kernel, by decide +kernel⟩
theorem ok__law_state (KX : K.In h) (G : h.Ns mainGlobals mg) (c : Says fa fn xn ex K) : Fk PP w K mg base "_law_state" 1 (He.fAd K ("_law_state", none)) ["_law_script"] (spO ⟨K, mg, none, TK⟩ d__law_state) := by
  obtain ⟨fd, F⟩ := c.def_ 0 (d := dd__law_state) rfl
  have sc := sc__law_state
  refine ⟨⟨fd, fn_own F sc (by decide) fun cdv A outer s H E hr tk po => ?_, F.bindsN (ps := ["_law_script"]) fun _ _ _ _ _ _ us hl => match us, hl with | [_], _ => rfl⟩, He.glo_ok KX G (c.fact 23 (f := .glo "_law_state") rfl), F.kp⟩
  exact (essO_cons (es_set (ps_set (i := 1) sc.nd rfl (by first | exact Or.inl rfl | exact Or.inr rfl) (ev_int pe_int)))
    (essO_cons (es_set (ps_set (i := 2) sc.nd rfl (by first | exact Or.inl rfl | exact Or.inr rfl) (ev_int pe_int)))
    (essO_cons (es_for (ps_for po rfl (ei_any (pi_any (ev_sln (pe_slice sl_D (pv 0) eo_none (eo_some (ev_int pe_int)))))) (eg_nm (pg_name (i := 3) sc.nd rfl (by first | exact .inl rfl | exact .inr rfl))) (ess_cons (es_set (ps_set (i := 1) sc.nd rfl (by first | exact Or.inl rfl | exact Or.inr rfl) (ev2 vo_add (pe_op op_addD (ev2 vo_mul (pe_op op_mulD (ev_var (pv 1)) (ev_int pe_int))) (evc1n vo_abs (pe_callB call_abs (by rfl) (T_free_abs KX G c) (by decide +kernel) (pa_cons (pv 3) pa_nil)))))))
    (ess_one (es_set (ps_set (i := 2) sc.nd rfl (by first | exact Or.inl rfl | exact Or.inr rfl) (ev2 vo_mod (pe_op op_modN (evc1 vo_int (pe_callTy call_int1 (by rfl) (T_free_int KX G c) (by decide +kernel) (pa_cons (ev2 vo_add (pe_op op_addD (ev2 vo_mul (pe_op op_mulD (ev_var (pv 2)) (ev_int pe_int))) (ev_var (pv 3)))) pa_nil))) (ev_int pe_int)))))))))
    (essO_one (ps_ret (evN_lst (pe_lst (ea_cons (ev_var (pv 1)) (ea_cons (ev_var (pv 2)) ea_nil')))))))))
theorem sc__law_take : FnScope ["_law_state_here", "_law_m", "_law_value"] ["_law_state_here", "_law_m"] (defScope (topS 25)) := ⟨rfl, rfl, rfl, by decide +kernel, rfl, by decide +kernel, by decide +kernel⟩
theorem ok__law_take (KX : K.In h) (G : h.Ns mainGlobals mg) (c : Says fa fn xn ex K) : Fk PP w K mg base "_law_take" 1 (He.fAd K ("_law_take", none)) ["_law_state_here", "_law_m"] (spR ⟨K, mg, none, TK⟩ d__law_take) := by
  obtain ⟨fd, F⟩ := c.def_ 1 (d := dd__law_take) rfl
  have sc := sc__law_take
  refine ⟨⟨fd, fn_dataR F sc (by decide) fun cdv A outer s H E hr tk po => ?_, F.bindsN (ps := ["_law_state_here", "_law_m"]) fun _ _ _ _ _ _ us hl => match us, hl with | [_, _], _ => rfl⟩, He.glo_ok KX G (c.fact 24 (f := .glo "_law_take") rfl), F.kp⟩
  exact (ess_cons (es_if (ps_if (et2 (vo_cmpI _) (pt_cmpR op_gt (ev2n vo_ix (pe_ix ix_seq (pv 0) (ev_int pe_int) (fun _ _ => rfl))) (ev_int pe_int) (nomark _))) (ess_cons (es_set (ps_set (i := 2) sc.nd rfl (by first | exact Or.inl rfl | exact Or.inr rfl) (ev2 vo_mod (pe_op op_modN (evc1 vo_int (pe_callTy call_int1 (by rfl) (T_free_int KX G c) (by decide +kernel) (pa_cons (ev2n vo_ix (pe_ix ix_seq (pv 0) (ev_int pe_int) (fun _ _ => rfl))) pa_nil))) (ev_var (pv 1))))))
    (ess_cons (es_store (ps_asg (ev2 vo_div (pe_op op_fdivN (ev2n vo_ix (pe_ix ix_seq (pv 0) (ev_int pe_int) (fun _ _ => rfl))) (ev_var (pv 1)))) (pg_sub (pv 0) (ev_int pe_int) set_list)))
    (ess_one (es_ret (ps_ret (ev_var (pv 2))))))) ess_nil))
    (ess_cons (es_store (ps_asg (ev2 vo_mod (pe_op op_modN (evc1 vo_int (pe_callTy call_int1 (by rfl) (T_free_int KX G c) (by decide +kernel) (pa_cons (ev2 vo_add (pe_op op_addD (ev2 vo_mul (pe_op op_mulD (ev2n vo_ix (pe_ix ix_seq (pv 0) (ev_int pe_int) (fun _ _ => rfl))) (ev_int pe_int))) (ev_int pe_int))) pa_nil))) (ev_int pe_int))) (pg_sub (pv 0) (ev_int pe_int) set_list)))
    (ess_one (es_ret (ps_ret (ev2 vo_mod (pe_op op_modN (evc1 vo_int (pe_callTy call_int1 (by rfl) (T_free_int KX G c) (by decide +kernel) (pa_cons (ev2 vo_div (pe_op op_fdivN (ev2n vo_ix (pe_ix ix_seq (pv 0) (ev_int pe_int) (fun _ _ => rfl))) (ev_int pe_int))) pa_nil))) (ev_var (pv 1)))))))))
theorem sc__law_extended : FnScope ["_law_state_here", "_law_table", "_law_most", "_law_n", "_law_pick", "_law_second", "_law_x", "_law_y", "_law_row"] ["_law_state_here", "_law_table", "_law_most"] (defScope (topS 35)) := ⟨rfl, rfl, rfl, by decide +kernel, rfl, by decide +kernel, by decide +kernel⟩
theorem ok__law_extended (KX : K.In h) (G : h.Ns mainGlobals mg) (c : Says fa fn xn ex K) : Fk PP w K mg base "_law_extended" 2 (He.fAd K ("_law_extended", none)) ["_law_state_here", "_law_table", "_law_most"] (spR ⟨K, mg, none, TK⟩ d__law_extended) := by
  obtain ⟨fd, F⟩ := c.def_ 2 (d := dd__law_extended) rfl
  have sc := sc__law_extended
  refine ⟨⟨fd, fn_dataR F sc (by decide) fun cdv A outer s H E hr tk po => ?_, F.bindsN (ps := ["_law_state_here", "_law_table", "_law_most"]) fun _ _ _ _ _ _ us hl => match us, hl with | [_, _, _], _ => rfl⟩, He.glo_ok KX G (c.fact 25 (f := .glo "_law_extended") rfl), F.kp⟩
  exact (ess_cons (es_set (ps_set (i := 3) sc.nd rfl (by first | exact Or.inl rfl | exact Or.inr rfl) (evc1n vo_len (pe_callB call_lenD (by rfl) (T_free_len KX G c) (by decide +kernel) (pa_cons (pv 1) pa_nil)))))
    (ess_cons (es_set (ps_set (i := 4) sc.nd rfl (by first | exact Or.inl rfl | exact Or.inr rfl) (ev_callR (runR_nox _ _ _) ((ok__law_take KX G c).pe (hr.mono (by decide)) (by rfl) tk (pa_cons (pv 0) (ea_cons (ev_int pe_int) ea_nil'))))))
    (ess_cons (es_if (ps_if (et2 vo_eq (pt_cmpR (op_eqD (room_u4 hr)) (ev_var (pv 4)) (ev_int pe_int) (nomark _))) (ess_one (es_ret (ps_ret (ev_frz (ev_comp (pe_lc (own := [("_law_x", 6)]) rfl sc.nd (ei_rng (pi_range1 (by rfl) (T_free_range KX G c) (pa_cons (ev_var (pv 3)) pa_nil))) (blkOk_by (own := [("_law_x", 6)]) (by first | decide +kernel | rfl)) (fun _ _ _ _ _ => (eg_nm (pg_name (i := 6) sc.nd rfl (by first | exact .inl rfl | exact .inr rfl)))) (fun _ _ _ _ _ => ets_nil) (fun _ _ _ _ _ => (evc1 vo_tuple (pe_callTy call_tupleN (by rfl) (T_free_tuple KX G c) (by decide +kernel) (pa_cons (ev_frz (ev_comp (pe_lc (own := [("_law_y", 7)]) rfl sc.nd (ei_rng (pi_range1 (by rfl) (T_free_range KX G c) (pa_cons (ev_var (pv 3)) pa_nil))) (blkOk_by (own := [("_law_y", 7)]) (by first | decide +kernel | rfl)) (fun _ _ _ _ _ => (eg_nm (pg_name (i := 7) sc.nd rfl (by first | exact .inl rfl | exact .inr rfl)))) (fun _ _ _ _ _ => ets_nil) (fun _ _ _ _ _ => (ev2 vo_ix (pe_ix ix_seq (ev2n vo_ix (pe_ix ix_seq (pv 1) (ev_var (pv 7)) (fun _ _ => rfl))) (ev_var (pv 6)) (fun _ _ => rfl))))))) pa_nil)))))))))) ess_nil))
    (ess_cons (es_if (ps_if (PW.pt (et_and (pw_and (et2 vo_eq (pt_cmpR (op_eqD (room_u4 hr)) (ev_var (pv 4)) (ev_int pe_int) (nomark _))) (pw_and1 (et2 (vo_cmpI _) (pt_cmpR op_lt (ev_var (pv 3)) (ev_var (pv 2)) (nomark _))))))) (ess_one (es_ret (ps_ret (ev_frz (evN2 vn_add (pe_op op_addD (ev_frz (ev_comp (pe_lc (own := [("_law_row", 8)]) rfl sc.nd (ei_any (pi_any (ev_var (pv 1)))) (blkOk_by (own := [("_law_row", 8)]) (by first | decide +kernel | rfl)) (fun _ _ _ _ _ => (eg_nm (pg_name (i := 8) sc.nd rfl (by first | exact .inl rfl | exact .inr rfl)))) (fun _ _ _ _ _ => ets_nil) (fun _ _ _ _ _ => (ev2 vo_add (pe_op op_addD (ev_var (pv 8)) (ev_tup (pe_tupN (ea_cons (ev_var (pv 3)) ea_nil'))))))))) (ev_frz (evN_lst (pe_lst (ea_cons (evc1 vo_tuple (pe_callTy call_tupleN (by rfl) (T_free_tuple KX G c) (by decide +kernel) (pa_cons (ev_frz (ev_comp (pe_lc (own := [("_law_y", 7)]) rfl sc.nd (ei_rng (pi_range1 (by rfl) (T_free_range KX G c) (pa_cons (ev2 vo_add (pe_op op_addD (ev_var (pv 3)) (ev_int pe_int))) pa_nil))) (blkOk_by (own := [("_law_y", 7)]) (by first | decide +kernel | rfl)) (fun _ _ _ _ _ => (eg_nm (pg_name (i := 7) sc.nd rfl (by first | exact .inl rfl | exact .inr rfl)))) (fun _ _ _ _ _ => ets_nil) (fun _ _ _ _ _ => (ev_var (pv 3)))))) pa_nil))) ea_nil')))))))))) ess_nil))
    (ess_cons (es_if (ps_if (PW.pt (et_and (pw_and (et2 vo_eq (pt_cmpR (op_eqD (room_u4 hr)) (ev_var (pv 4)) (ev_int pe_int) (nomark _))) (pw_and1 (et2 (vo_cmpI _) (pt_cmpR op_lt (ev_var (pv 3)) (ev_var (pv 2)) (nomark _))))))) (ess_one (es_ret (ps_ret (ev_frz (evN2 vn_add (pe_op op_addD (ev_frz (ev_comp (pe_lc (own := [("_law_x", 6)]) rfl sc.nd (ei_rng (pi_range1 (by rfl) (T_free_range KX G c) (pa_cons (ev_var (pv 3)) pa_nil))) (blkOk_by (own := [("_law_x", 6)]) (by first | decide +kernel | rfl)) (fun _ _ _ _ _ => (eg_nm (pg_name (i := 6) sc.nd rfl (by first | exact .inl rfl | exact .inr rfl)))) (fun _ _ _ _ _ => ets_nil) (fun _ _ _ _ _ => (ev2 vo_add (pe_op op_addD (ev2n vo_ix (pe_ix ix_seq (pv 1) (ev_var (pv 6)) (fun _ _ => rfl))) (ev_tup (pe_tupN (ea_cons (ev_var (pv 6)) ea_nil'))))))))) (ev_frz (evN_lst (pe_lst (ea_cons (ev_tupRg (pe_tupRgN rfl (by rfl) (T_free_tuple KX G c) (erg1 (prg_1 (by rfl) (T_free_range KX G c) (ev2 vo_add (pe_op op_addD (ev_var (pv 3)) (ev_int pe_int))))))) ea_nil')))))))))) ess_nil))
    (ess_cons (es_if (ps_if (PW.pt (et_and (pw_and (et2 vo_eq (pt_cmpR (op_eqD (room_u4 hr)) (ev_var (pv 4)) (ev_int pe_int) (nomark _))) (pw_and1 (et2 (vo_cmpI _) (pt_cmpR op_le (ev2 vo_mul (pe_op op_mulD (ev_int pe_int) (ev_var (pv 3)))) (ev_var (pv 2)) (nomark _))))))) (ess_cons (es_own (ps_set (i := 5) sc.nd rfl (by first | exact Or.inl rfl | exact Or.inr rfl) (evN_lst (pe_lst (ea_cons (ev_tup (pe_tupN (ea_cons (ev_int pe_int) (ea_cons (ev_int pe_int) ea_nil')))) (ea_cons (ev_tup (pe_tupN (ea_cons (ev_int pe_int) (ea_cons (ev_int pe_int) ea_nil')))) ea_nil'))))))
    (ess_cons (es_if (ps_if (et2 vo_eq (pt_cmpR (op_eqD (room_u4 hr)) (ev_callR (runR_nox _ _ _) ((ok__law_take KX G c).pe (hr.mono (by decide)) (by rfl) tk (pa_cons (pv 0) (ea_cons (ev_int pe_int) ea_nil')))) (ev_int pe_int) (nomark _))) (ess_one (es_own (ps_set (i := 5) sc.nd rfl (by first | exact Or.inl rfl | exact Or.inr rfl) (evN_lst (pe_lst (ea_cons (ev_tup (pe_tupN (ea_cons (ev_int pe_int) (ea_cons (ev_int pe_int) ea_nil')))) (ea_cons (ev_tup (pe_tupN (ea_cons (ev_int pe_int) (ea_cons (ev_int pe_int) ea_nil')))) ea_nil'))))))) ess_nil))
    (ess_one (es_ret (ps_ret (ev_frz (ev_comp (pe_lc (own := [("_law_x", 6)]) rfl sc.nd (ei_rng (pi_range1 (by rfl) (T_free_range KX G c) (pa_cons (ev2 vo_mul (pe_op op_mulD (ev_int pe_int) (ev_var (pv 3)))) pa_nil))) (blkOk_by (own := [("_law_x", 6)]) (by first | decide +kernel | rfl)) (fun _ _ _ _ _ => (eg_nm (pg_name (i := 6) sc.nd rfl (by first | exact .inl rfl | exact .inr rfl)))) (fun _ _ _ _ _ => ets_nil) (fun _ _ _ _ _ => (evc1 vo_tuple (pe_callTy call_tupleN (by rfl) (T_free_tuple KX G c) (by decide +kernel) (pa_cons (ev_frz (ev_comp (pe_lc (own := [("_law_y", 7)]) rfl sc.nd (ei_rng (pi_range1 (by rfl) (T_free_range KX G c) (pa_cons (ev2 vo_mul (pe_op op_mulD (ev_int pe_int) (ev_var (pv 3)))) pa_nil))) (blkOk_by (own := [("_law_y", 7)]) (by first | decide +kernel | rfl)) (fun _ _ _ _ _ => (eg_nm (pg_name (i := 7) sc.nd rfl (by first | exact .inl rfl | exact .inr rfl)))) (fun _ _ _ _ _ => ets_nil) (fun _ _ _ _ _ => (ev2 vo_add (pe_op op_addD (ev2 vo_mul (pe_op op_mulD (ev_int pe_int) (ev2 vo_ix (pe_ix ix_seq (ev2n vo_ix (pe_ix ix_seq (pv 1) (ev2 vo_div (pe_op op_fdivN (ev_var (pv 6)) (ev_int pe_int))) (fun _ _ => rfl))) (ev2 vo_div (pe_op op_fdivN (ev_var (pv 7)) (ev_int pe_int))) (fun _ _ => rfl))))) (ev2 vo_ix (pe_ix ix_seq (ev2n vo_ix (pe_ix ix_seq (pv 5) (ev2 vo_mod (pe_op op_modN (evc1n vo_int (pe_callTy call_int1 (by rfl) (T_free_int KX G c) (by decide +kernel) (pa_cons (pv 6) pa_nil))) (ev_int pe_int))) (fun _ _ => rfl))) (ev2 vo_mod (pe_op op_modN (evc1n vo_int (pe_callTy call_int1 (by rfl) (T_free_int KX G c) (by decide +kernel) (pa_cons (pv 7) pa_nil))) (ev_int pe_int))) (fun _ _ => rfl))))))))) pa_nil)))))))))))) ess_nil))
    (ess_one (es_ret (ps_ret (ev_var (pv 1)))))))))))
theorem sc__law_renamed : FnScope ["_law_table", "_law_order", "_law_n", "_law_found_here", "_law_x", "_law_y", "_law_row"] ["_law_table", "_law_order"] (defScope (topS 27)) := ⟨rfl, rfl, rfl, by decide +kernel, rfl, by decide +kernel, by decide +kernel⟩
theorem ok__law_renamed (KX : K.In h) (G : h.Ns mainGlobals mg) (c : Says fa fn xn ex K) : Fk PP w K mg base "_law_renamed" 1 (He.fAd K ("_law_renamed", none)) ["_law_table", "_law_order"] (spD ⟨K, mg, none, TK⟩ d__law_renamed) := by
  obtain ⟨fd, F⟩ := c.def_ 3 (d := dd__law_renamed) rfl
  have sc := sc__law_renamed
  refine ⟨⟨fd, fn_data F sc (by decide) fun cdv A outer s H E hr tk po => ?_, F.bindsN (ps := ["_law_table", "_law_order"]) fun _ _ _ _ _ _ us hl => match us, hl with | [_, _], _ => rfl⟩, He.glo_ok KX G (c.fact 26 (f := .glo "_law_renamed") rfl), F.kp⟩
  exact (ess_cons (es_set (ps_set (i := 2) sc.nd rfl (by first | exact Or.inl rfl | exact Or.inr rfl) (evc1n vo_len (pe_callB call_lenD (by rfl) (T_free_len KX G c) (by decide +kernel) (pa_cons (pv 0) pa_nil)))))
    (ess_cons (es_own2 (ps_setLc (i := 3) (own := [("_law_x", 4)]) rfl sc.nd rfl rfl (sw_true rfl rfl rfl (by decide +kernel)) (ei_rng (pi_range1 (by rfl) (T_free_range KX G c) (pa_cons (ev_var (pv 2)) pa_nil))) (blkOk_by (own := [("_law_x", 4)]) (by first | decide +kernel | rfl)) (fun _ _ _ _ _ => (eg_nm (pg_name (i := 4) sc.nd rfl (by first | exact .inl rfl | exact .inr rfl)))) (fun _ _ _ _ _ => ets_nil) (fun _ _ _ _ _ => (ev_comp (pe_lc (own := [("_law_y", 5)]) rfl sc.nd (ei_rng (pi_range1 (by rfl) (T_free_range KX G c) (pa_cons (ev_var (pv 2)) pa_nil))) (blkOk_by (own := [("_law_y", 5)]) (by first | decide +kernel | rfl)) (fun _ _ _ _ _ => (eg_nm (pg_name (i := 5) sc.nd rfl (by first | exact .inl rfl | exact .inr rfl)))) (fun _ _ _ _ _ => ets_nil) (fun _ _ _ _ _ => (ev_int pe_int)))))))
    (ess_cons (es_for (ps_for po rfl (ei_rng (pi_range1 (by rfl) (T_free_range KX G c) (pa_cons (ev_var (pv 2)) pa_nil))) (eg_nm (pg_name (i := 4) sc.nd rfl (by first | exact .inl rfl | exact .inr rfl))) (ess_one (es_for (ps_for po rfl (ei_rng (pi_range1 (by rfl) (T_free_range KX G c) (pa_cons (ev_var (pv 2)) pa_nil))) (eg_nm (pg_name (i := 5) sc.nd rfl (by first | exact .inl rfl | exact .inr rfl))) (ess_one (es_store2 (ps_asg (ev2n vo_ix (pe_ix ix_seq (pv 1) (ev2 vo_ix (pe_ix ix_seq (ev2n vo_ix (pe_ix ix_seq (pv 0) (ev_var (pv 4)) (fun _ _ => rfl))) (ev_var (pv 5)) (fun _ _ => rfl))) (fun _ _ => rfl))) (pg_sub (pe_ix ix_seq (pv 3) (ev2n vo_ix (pe_ix ix_seq (pv 1) (ev_var (pv 4)) (fun _ _ => rfl))) (fun _ _ => rfl)) (ev2n vo_ix (pe_ix ix_seq (pv 1) (ev_var (pv 5)) (fun _ _ => rfl))) set_list)))))))))
    (ess_one (es_ret (ps_ret (ev_frz (ev_comp (pe_lc (own := [("_law_row", 6)]) rfl sc.nd (ei_any (pi_any (ev_var (pv 3)))) (blkOk_by (own := [("_law_row", 6)]) (by first | decide +kernel | rfl)) (fun _ _ _ _ _ => (eg_nm (pg_name (i := 6) sc.nd rfl (by first | exact .inl rfl | exact .inr rfl)))) (fun _ _ _ _ _ => ets_nil) (fun _ _ _ _ _ => (evc1n vo_tuple (pe_callTy call_tupleN (by rfl) (T_free_tuple KX G c) (by decide +kernel) (pa_cons (pv 6) pa_nil)))))))))))))
theorem sc__law_triples : FnScope ["_law_a", "_law_b", "_law_g", "_law_twist", "_law_holes", "_law_zero", "_law_size", "_law_rows", "_law_x", "_law_row", "_law_y", "_law_j", "_law_i", "_law_turn", "_law_k"] ["_law_a", "_law_b", "_law_g", "_law_twist", "_law_holes", "_law_zero"] (defScope (topS 32)) := ⟨rfl, rfl, rfl, by decide +kernel, rfl, by decide +kernel, by decide +kernel⟩
theorem ok__law_triples (KX : K.In h) (G : h.Ns mainGlobals mg) (c : Says fa fn xn ex K) : Fk PP w K mg base "_law_triples" 1 (He.fAd K ("_law_triples", none)) ["_law_a", "_law_b", "_law_g", "_law_twist", "_law_holes", "_law_zero"] (spD ⟨K, mg, none, TK⟩ d__law_triples) := by
  obtain ⟨fd, F⟩ := c.def_ 4 (d := dd__law_triples) rfl
  have sc := sc__law_triples
  refine ⟨⟨fd, fn_data F sc (by decide) fun cdv A outer s H E hr tk po => ?_, F.bindsN (ps := ["_law_a", "_law_b", "_law_g", "_law_twist", "_law_holes", "_law_zero"]) fun _ _ _ _ _ _ us hl => match us, hl with | [_, _, _, _, _, _], _ => rfl⟩, He.glo_ok KX G (c.fact 27 (f := .glo "_law_triples") rfl), F.kp⟩
  exact (ess_cons (es_set (ps_set (i := 6) sc.nd rfl (by first | exact Or.inl rfl | exact Or.inr rfl) (ev2 vo_mul (pe_op op_mulD (ev2 vo_mul (pe_op op_mulD (ev_var (pv 0)) (ev_var (pv 1)))) (ev_var (pv 2))))))
    (ess_cons (es_own (ps_set (i := 7) sc.nd rfl (by first | exact Or.inl rfl | exact Or.inr rfl) (evN_lst (pe_lst ea_nil'))))
    (ess_cons (es_for (ps_for po rfl (ei_rng (pi_range1 (by rfl) (T_free_range KX G c) (pa_cons (ev_var (pv 6)) pa_nil))) (eg_nm (pg_name (i := 8) sc.nd rfl (by first | exact .inl rfl | exact .inr rfl))) (ess_cons (es_own (ps_set (i := 9) sc.nd rfl (by first | exact Or.inl rfl | exact Or.inr rfl) (evN_lst (pe_lst ea_nil'))))
    (ess_cons (es_for (ps_for po rfl (ei_rng (pi_range1 (by rfl) (T_free_range KX G c) (pa_cons (ev_var (pv 6)) pa_nil))) (eg_nm (pg_name (i := 10) sc.nd rfl (by first | exact .inl rfl | exact .inr rfl))) (ess_cons (es_set (ps_set (i := 11) sc.nd rfl (by first | exact Or.inl rfl | exact Or.inr rfl) (ev2 vo_mod (pe_op op_modN (evc1n vo_int (pe_callTy call_int1 (by rfl) (T_free_int KX G c) (by decide +kernel) (pa_cons (pv 8) pa_nil))) (ev_var (pv 1))))))
    (ess_cons (es_set (ps_set (i := 12) sc.nd rfl (by first | exact Or.inl rfl | exact Or.inr rfl) (ev2 vo_div (pe_op op_fdivN (ev_var (pv 10)) (ev2 vo_mul (pe_op op_mulD (ev_var (pv 2)) (ev_var (pv 1))))))))
    (ess_one (es_if (ps_if (PW.pt (et_and (pw_and (et_tst (pt_val (ev_var (pv 5)))) (pw_and1 (et_tst (pt_val (ev2 vo_ix (pe_ix ix_seq (ev2n vo_ix (pe_ix ix_seq (pv 4) (ev_var (pv 11)) (fun _ _ => rfl))) (ev_var (pv 12)) (fun _ _ => rfl))))))))) (ess_one (es_expr (ps_expr (ev_append (pe_bm PySem.F.plainAttrs_list PySem.F.slot_list_append PySem.F.type_list_append mt_append (pv 9) (pa_cons (ev_var (pv 6)) pa_nil)))))) (ess_cons (es_set (ps_set (i := 13) sc.nd rfl (by first | exact Or.inl rfl | exact Or.inr rfl) (ev2 vo_mod (pe_op op_modN (evc1 vo_int (pe_callTy call_int1 (by rfl) (T_free_int KX G c) (by decide +kernel) (pa_cons (ev2 vo_add (pe_op op_addD (ev2 vo_add (pe_op op_addD (ev2 vo_div (pe_op op_fdivN (ev_var (pv 8)) (ev_var (pv 1)))) (ev2 vo_ix (pe_ix ix_seq (ev2n vo_ix (pe_ix ix_seq (pv 3) (ev_var (pv 11)) (fun _ _ => rfl))) (ev_var (pv 12)) (fun _ _ => rfl))))) (ev2 vo_div (pe_op op_fdivN (ev_var (pv 10)) (ev_var (pv 1)))))) pa_nil))) (ev_var (pv 2))))))
    (ess_one (es_expr (ps_expr (ev_append (pe_bm PySem.F.plainAttrs_list PySem.F.slot_list_append PySem.F.type_list_append mt_append (pv 9) (pa_cons (ev2 vo_add (pe_op op_addD (ev2 vo_mul (pe_op op_mulD (ev2 vo_add (pe_op op_addD (ev2 vo_mul (pe_op op_mulD (ev2 vo_div (pe_op op_fdivN (ev_var (pv 8)) (ev2 vo_mul (pe_op op_mulD (ev_var (pv 2)) (ev_var (pv 1)))))) (ev_var (pv 2)))) (ev_var (pv 13)))) (ev_var (pv 1)))) (ev2 vo_mod (pe_op op_modN (evc1n vo_int (pe_callTy call_int1 (by rfl) (T_free_int KX G c) (by decide +kernel) (pa_cons (pv 10) pa_nil))) (ev_var (pv 1)))))) pa_nil))))))))))))))
    (ess_one (es_expr (ps_expr (ev_append (pe_bm PySem.F.plainAttrs_list PySem.F.slot_list_append PySem.F.type_list_append mt_append (pv 7) (pa_cons (evc1 vo_tuple (pe_callTy call_tupleN (by rfl) (T_free_tuple KX G c) (by decide +kernel) (pa_cons (ev_frz (evN2 vn_add (pe_op op_addD (ev_var (pv 9)) (ev_frz (ev_comp (pe_lc (own := [("_law_k", 14)]) rfl sc.nd (ei_rng (pi_range1 (by rfl) (T_free_range KX G c) (pa_cons (evc1n vo_int (pe_callTy call_int1 (by rfl) (T_free_int KX G c) (by decide +kernel) (pa_cons (pv 5) pa_nil))) pa_nil))) (blkOk_by (own := [("_law_k", 14)]) (by first | decide +kernel | rfl)) (fun _ _ _ _ _ => (eg_nm (pg_name (i := 14) sc.nd rfl (by first | exact .inl rfl | exact .inr rfl)))) (fun _ _ _ _ _ => ets_nil) (fun _ _ _ _ _ => (ev_var (pv 6))))))))) pa_nil))) pa_nil))))))))))
    (ess_cons (es_if (ps_if (et_tst (pt_val (ev_var (pv 5)))) (ess_one (es_expr (ps_expr (ev_append (pe_bm PySem.F.plainAttrs_list PySem.F.slot_list_append PySem.F.type_list_append mt_append (pv 7) (pa_cons (evc1 vo_tuple (pe_callTy call_tupleN (by rfl) (T_free_tuple KX G c) (by decide +kernel) (pa_cons (ev_frz (ev_comp (pe_lc (own := [("_law_k", 14)]) rfl sc.nd (ei_rng (pi_range1 (by rfl) (T_free_range KX G c) (pa_cons (ev2 vo_add (pe_op op_addD (ev_var (pv 6)) (ev_int pe_int))) pa_nil))) (blkOk_by (own := [("_law_k", 14)]) (by first | decide +kernel | rfl)) (fun _ _ _ _ _ => (eg_nm (pg_name (i := 14) sc.nd rfl (by first | exact .inl rfl | exact .inr rfl)))) (fun _ _ _ _ _ => ets_nil) (fun _ _ _ _ _ => (ev_var (pv 6)))))) pa_nil))) pa_nil)))))) ess_nil))
    (ess_one (es_ret (ps_ret (ev_var (pv 7)))))))))
theorem sc__law_blocks : FnScope ["_law_state_here", "_law_most", "_law_a", "_law_b", "_law_g", "_law_twist", "_law_holes", "_law_zero", "_law_j", "_law_i"] ["_law_state_here", "_law_most"] (defScope (topS 33)) := ⟨rfl, rfl, rfl, by decide +kernel, rfl, by decide +kernel, by decide +kernel⟩
theorem ok__law_blocks (KX : K.In h) (G : h.Ns mainGlobals mg) (c : Says fa fn xn ex K) : Fk PP w K mg base "_law_blocks" 2 (He.fAd K ("_law_blocks", none)) ["_law_state_here", "_law_most"] (spR ⟨K, mg, none, TK⟩ d__law_blocks) := by
  obtain ⟨fd, F⟩ := c.def_ 5 (d := dd__law_blocks) rfl
  have sc := sc__law_blocks
  refine ⟨⟨fd, fn_dataR F sc (by decide) fun cdv A outer s H E hr tk po => ?_, F.bindsN (ps := ["_law_state_here", "_law_most"]) fun _ _ _ _ _ _ us hl => match us, hl with | [_, _], _ => rfl⟩, He.glo_ok KX G (c.fact 28 (f := .glo "_law_blocks") rfl), F.kp⟩
  exact (ess_cons (es_set (ps_set (i := 2) sc.nd rfl (by first | exact Or.inl rfl | exact Or.inr rfl) (ev2 vo_add (pe_op op_addD (ev_int pe_int) (ev_callR (runR_nox _ _ _) ((ok__law_take KX G c).pe (hr.mono (by decide)) (by rfl) tk (pa_cons (pv 0) (ea_cons (ev_int pe_int) ea_nil'))))))))
    (ess_cons (es_set (ps_set (i := 3) sc.nd rfl (by first | exact Or.inl rfl | exact Or.inr rfl) (ev2 vo_add (pe_op op_addD (ev_int pe_int) (ev_callR (runR_nox _ _ _) ((ok__law_take KX G c).pe (hr.mono (by decide)) (by rfl) tk (pa_cons (pv 0) (ea_cons (ev_int pe_int) ea_nil'))))))))
    (ess_cons (es_set (ps_set (i := 4) sc.nd rfl (by first | exact Or.inl rfl | exact Or.inr rfl) (ev2 vo_add (pe_op op_addD (ev_int pe_int) (ev_callR (runR_nox _ _ _) ((ok__law_take KX G c).pe (hr.mono (by decide)) (by rfl) tk (pa_cons (pv 0) (ea_cons (ev_int pe_int) ea_nil'))))))))
    (ess_cons (es_if (ps_if (et2 (vo_cmpI _) (pt_cmpR op_gt (ev2 vo_add (pe_op op_addD (ev2 vo_mul (pe_op op_mulD (ev2 vo_mul (pe_op op_mulD (ev_var (pv 2)) (ev_var (pv 3)))) (ev_var (pv 4)))) (ev_int pe_int))) (ev_var (pv 1)) (nomark _))) (ess_one (es_asg (ps_asg (ev_tup (pe_tupN (ea_cons (ev_int pe_int) (ea_cons (ev_int pe_int) (ea_cons (evc2 vo_min2 (pe_callB (call_min2 rfl) (by rfl) (T_free_min KX G c) (by decide +kernel) (pa_cons (ev_int pe_int) (pa_cons (ev_var (pv 1)) pa_nil)))) ea_nil'))))) (eg_nms (pg_tup rfl (pgs_cons (pg_name (i := 2) sc.nd rfl (by first | exact .inl rfl | exact .inr rfl)) (pgs_cons (pg_name (i := 3) sc.nd rfl (by first | exact .inl rfl | exact .inr rfl)) (pgs_cons (pg_name (i := 4) sc.nd rfl (by first | exact .inl rfl | exact .inr rfl)) pgs_nil)))) rfl)))) ess_nil))
    (ess_cons (es_ownLc (ps_setLc (i := 5) (own := [("_law_j", 8)]) rfl sc.nd rfl rfl (sw_true rfl rfl rfl (by decide +kernel)) (ei_rng (pi_range1 (by rfl) (T_free_range KX G c) (pa_cons (ev_var (pv 3)) pa_nil))) (blkOk_by (own := [("_law_j", 8)]) (by first | decide +kernel | rfl)) (fun _ _ _ _ _ => (eg_nm (pg_name (i := 8) sc.nd rfl (by first | exact .inl rfl | exact .inr rfl)))) (fun _ _ _ _ _ => ets_nil) (fun _ _ _ _ _ => (ev_frz (ev_comp (pe_lc (own := [("_law_i", 9)]) rfl sc.nd (ei_rng (pi_range1 (by rfl) (T_free_range KX G c) (pa_cons (ev_var (pv 2)) pa_nil))) (blkOk_by (own := [("_law_i", 9)]) (by first | decide +kernel | rfl)) (fun _ _ _ _ _ => (eg_nm (pg_name (i := 9) sc.nd rfl (by first | exact .inl rfl | exact .inr rfl)))) (fun _ _ _ _ _ => ets_nil) (fun _ _ _ _ _ => (ev_callR (runR_nox _ _ _) ((ok__law_take KX G c).pe (hr.mono (by decide)) (by rfl) takes0 (pa_cons (pv 0) (ea_cons (ev_var (pv 4)) ea_nil')))))))))))
    (ess_cons (es_ownLc (ps_setLc (i := 6) (own := [("_law_j", 8)]) rfl sc.nd rfl rfl (sw_true rfl rfl rfl (by decide +kernel)) (ei_rng (pi_range1 (by rfl) (T_free_range KX G c) (pa_cons (ev_var (pv 3)) pa_nil))) (blkOk_by (own := [("_law_j", 8)]) (by first | decide +kernel | rfl)) (fun _ _ _ _ _ => (eg_nm (pg_name (i := 8) sc.nd rfl (by first | exact .inl rfl | exact .inr rfl)))) (fun _ _ _ _ _ => ets_nil) (fun _ _ _ _ _ => (ev_frz (ev_comp (pe_lc (own := [("_law_i", 9)]) rfl sc.nd (ei_rng (pi_range1 (by rfl) (T_free_range KX G c) (pa_cons (ev_var (pv 2)) pa_nil))) (blkOk_by (own := [("_law_i", 9)]) (by first | decide +kernel | rfl)) (fun _ _ _ _ _ => (eg_nm (pg_name (i := 9) sc.nd rfl (by first | exact .inl rfl | exact .inr rfl)))) (fun _ _ _ _ _ => ets_nil) (fun _ _ _ _ _ => (ev2 vo_eq (pe_cmpR (op_eqD (room_u4 hr)) (ev_callR (runR_nox _ _ _) ((ok__law_take KX G c).pe (hr.mono (by decide)) (by rfl) takes0 (pa_cons (pv 0) (ea_cons (ev_int pe_int) ea_nil')))) (ev_int pe_int) (nomark _))))))))))
    (ess_cons (es_set (ps_set (i := 7) sc.nd rfl (by first | exact Or.inl rfl | exact Or.inr rfl) (ev_andV (pe_and (ev2 vo_eq (pe_cmpR (op_eqD (room_u4 hr)) (ev_callR (runR_nox _ _ _) ((ok__law_take KX G c).pe (hr.mono (by decide)) (by rfl) tk (pa_cons (pv 0) (ea_cons (ev_int pe_int) ea_nil')))) (ev_int pe_int) (nomark _))) (pe_one (ev2 (vo_cmpI _) (pe_cmpR op_lt (ev2 vo_mul (pe_op op_mulD (ev2 vo_mul (pe_op op_mulD (ev_var (pv 2)) (ev_var (pv 3)))) (ev_var (pv 4)))) (ev_var (pv 1)) (nomark _))))))))
    (ess_one (es_ret (ps_ret (ev_call ((ok__law_triples KX G c).pe (hr.mono (by decide)) (by rfl) tk (ea_cons (ev_var (pv 2)) (ea_cons (ev_var (pv 3)) (ea_cons (ev_var (pv 4)) (ea_cons (ev_var (pv 5)) (ea_cons (ev_var (pv 6)) (ea_cons (ev_var (pv 7)) ea_nil'))))))))))))))))))
theorem sc__law_monogenic : FnScope ["_law_state_here", "_law_most", "_law_n", "_law_period", "_law_index", "_law_rows", "_law_x", "_law_row", "_law_y", "_law_k"] ["_law_state_here", "_law_most"] (defScope (topS 31)) := ⟨rfl, rfl, rfl, by decide +kernel, rfl, by decide +kernel, by decide +kernel⟩
theorem ok__law_monogenic (KX : K.In h) (G : h.Ns mainGlobals mg) (c : Says fa fn xn ex K) : Fk PP w K mg base "_law_monogenic" 2 (He.fAd K ("_law_monogenic", none)) ["_law_state_here", "_law_most"] (spR ⟨K, mg, none, TK⟩ d__law_monogenic) := by
  obtain ⟨fd, F⟩ := c.def_ 6 (d := dd__law_monogenic) rfl
  have sc := sc__law_monogenic
  refine ⟨⟨fd, fn_dataR F sc (by decide) fun cdv A outer s H E hr tk po => ?_, F.bindsN (ps := ["_law_state_here", "_law_most"]) fun _ _ _ _ _ _ us hl => match us, hl with | [_, _], _ => rfl⟩, He.glo_ok KX G (c.fact 29 (f := .glo "_law_monogenic") rfl), F.kp⟩
  exact (ess_cons (es_set (ps_set (i := 2) sc.nd rfl (by first | exact Or.inl rfl | exact Or.inr rfl) (ev2 vo_add (pe_op op_addD (ev_int pe_int) (ev_callR (runR_nox _ _ _) ((ok__law_take KX G c).pe (hr.mono (by decide)) (by rfl) tk (pa_cons (pv 0) (ea_cons (ev_var (pv 1)) ea_nil'))))))))
    (ess_cons (es_set (ps_set (i := 3) sc.nd rfl (by first | exact Or.inl rfl | exact Or.inr rfl) (ev2 vo_add (pe_op op_addD (ev_int pe_int) (ev_callR (runR_nox _ _ _) ((ok__law_take KX G c).pe (hr.mono (by decide)) (by rfl) tk (pa_cons (pv 0) (ea_cons (ev_var (pv 2)) ea_nil'))))))))
    (ess_cons (es_set (ps_set (i := 4) sc.nd rfl (by first | exact Or.inl rfl | exact Or.inr rfl) (ev2 vo_sub (pe_op op_sub (ev2 vo_add (pe_op op_addD (ev_var (pv 2)) (ev_int pe_int))) (ev_var (pv 3))))))
    (ess_cons (es_own (ps_set (i := 5) sc.nd rfl (by first | exact Or.inl rfl | exact Or.inr rfl) (evN_lst (pe_lst ea_nil'))))
    (ess_cons (es_for (ps_for po rfl (ei_rng (pi_range1 (by rfl) (T_free_range KX G c) (pa_cons (ev_var (pv 2)) pa_nil))) (eg_nm (pg_name (i := 6) sc.nd rfl (by first | exact .inl rfl | exact .inr rfl))) (ess_cons (es_own (ps_set (i := 7) sc.nd rfl (by first | exact Or.inl rfl | exact Or.inr rfl) (evN_lst (pe_lst ea_nil'))))
    (ess_cons (es_for (ps_for po rfl (ei_rng (pi_range1 (by rfl) (T_free_range KX G c) (pa_cons (ev_var (pv 2)) pa_nil))) (eg_nm (pg_name (i := 8) sc.nd rfl (by first | exact .inl rfl | exact .inr rfl))) (ess_cons (es_set (ps_set (i := 9) sc.nd rfl (by first | exact Or.inl rfl | exact Or.inr rfl) (ev2 vo_add (pe_op op_addD (ev2 vo_add (pe_op op_addD (ev_var (pv 6)) (ev_var (pv 8)))) (ev_int pe_int)))))
    (ess_cons (es_if (ps_if (et2 (vo_cmpI _) (pt_cmpR op_gt (ev_var (pv 9)) (ev_var (pv 2)) (nomark _))) (ess_one (es_set (ps_set (i := 9) sc.nd rfl (by first | exact Or.inl rfl | exact Or.inr rfl) (ev2 vo_add (pe_op op_addD (ev_var (pv 4)) (ev2 vo_mod (pe_op op_modN (evc1 vo_int (pe_callTy call_int1 (by rfl) (T_free_int KX G c) (by decide +kernel) (pa_cons (ev2 vo_sub (pe_op op_sub (ev_var (pv 9)) (ev_var (pv 4)))) pa_nil))) (ev_var (pv 3))))))))) ess_nil))
    (ess_one (es_expr (ps_expr (ev_append (pe_bm PySem.F.plainAttrs_list PySem.F.slot_list_append PySem.F.type_list_append mt_append (pv 7) (pa_cons (ev2 vo_sub (pe_op op_sub (ev_var (pv 9)) (ev_int pe_int))) pa_nil))))))))))
    (ess_one (es_expr (ps_expr (ev_append (pe_bm PySem.F.plainAttrs_list PySem.F.slot_list_append PySem.F.type_list_append mt_append (pv 5) (pa_cons (evc1n vo_tuple (pe_callTy call_tupleN (by rfl) (T_free_tuple KX G c) (by decide +kernel) (pa_cons (pv 7) pa_nil))) pa_nil))))))))))
    (ess_one (es_ret (ps_ret (ev_var (pv 5))))))))))
theorem sc__law_after : FnScope ["_law_f", "_law_g", "_law_x"] ["_law_f", "_law_g"] (defScope (topS 28)) := ⟨rfl, rfl, rfl, by decide +kernel, rfl, by decide +kernel, by decide +kernel⟩
theorem ok__law_after (KX : K.In h) (G : h.Ns mainGlobals mg) (c : Says fa fn xn ex K) : Fk PP w K mg base "_law_after" 1 (He.fAd K ("_law_after", none)) ["_law_f", "_law_g"] (spD ⟨K, mg, none, TK⟩ d__law_after) := by
  obtain ⟨fd, F⟩ := c.def_ 7 (d := dd__law_after) rfl
  have sc := sc__law_after
  refine ⟨⟨fd, fn_data F sc (by decide) fun cdv A outer s H E hr tk po => ?_, F.bindsN (ps := ["_law_f", "_law_g"]) fun _ _ _ _ _ _ us hl => match us, hl with | [_, _], _ => rfl⟩, He.glo_ok KX G (c.fact 30 (f := .glo "_law_after") rfl), F.kp⟩
  exact (ess_one (es_ret (ps_ret (evc1 vo_tuple (pe_callTy call_tupleN (by rfl) (T_free_tuple KX G c) (by decide +kernel) (pa_cons (ev_frz (ev_comp (pe_lc (own := [("_law_x", 2)]) rfl sc.nd (ei_any (pi_any (ev_var (pv 0)))) (blkOk_by (own := [("_law_x", 2)]) (by first | decide +kernel | rfl)) (fun _ _ _ _ _ => (eg_nm (pg_name (i := 2) sc.nd rfl (by first | exact .inl rfl | exact .inr rfl)))) (fun _ _ _ _ _ => ets_nil) (fun _ _ _ _ _ => (ev2n vo_ix (pe_ix ix_seq (pv 1) (ev_var (pv 2)) (fun _ _ => rfl))))))) pa_nil))))))
theorem sc__law_closed : FnScope ["_law_maps", "_law_found_here", "_law_f", "_law_turn", "_law_g", "_law_h"] ["_law_maps"] (defScope (topS 29)) := ⟨rfl, rfl, rfl, by decide +kernel, rfl, by decide +kernel, by decide +kernel⟩
theorem ok__law_closed (KX : K.In h) (G : h.Ns mainGlobals mg) (c : Says fa fn xn ex K) : Fk PP w K mg base "_law_closed" 2 (He.fAd K ("_law_closed", none)) ["_law_maps"] (spD ⟨K, mg, none, TK⟩ d__law_closed) := by
  obtain ⟨fd, F⟩ := c.def_ 8 (d := dd__law_closed) rfl
  have sc := sc__law_closed
  refine ⟨⟨fd, fn_data F sc (by decide) fun cdv A outer s H E hr tk po => ?_, F.bindsN (ps := ["_law_maps"]) fun _ _ _ _ _ _ us hl => match us, hl with | [_], _ => rfl⟩, He.glo_ok KX G (c.fact 31 (f := .glo "_law_closed") rfl), F.kp⟩
  exact (ess_cons (es_own (ps_set (i := 1) sc.nd rfl (by first | exact Or.inl rfl | exact Or.inr rfl) (evN_lst (pe_lst ea_nil'))))
    (ess_cons (es_for (ps_for po rfl (ei_any (pi_any (ev_var (pv 0)))) (eg_nm (pg_name (i := 2) sc.nd rfl (by first | exact .inl rfl | exact .inr rfl))) (ess_one (es_if (ps_if (et2m vo_notin (pt_cmpR (op_notInA (room_u hr)) (ev_var (pv 2)) (pv 1) (by with_unfolding_all rfl))) (ess_one (es_expr (ps_expr (ev_append (pe_bm PySem.F.plainAttrs_list PySem.F.slot_list_append PySem.F.type_list_append mt_append (pv 1) (pa_cons (ev_var (pv 2)) pa_nil)))))) ess_nil)))))
    (ess_cons (es_for (ps_for po rfl (ei_rng (pi_range1 (by rfl) (T_free_range KX G c) (pa_cons (ev_int pe_int) pa_nil))) (eg_nm (pg_name (i := 3) sc.nd rfl (by first | exact .inl rfl | exact .inr rfl))) (ess_one (es_for (ps_for po rfl (ei_any (pi_any (ev_frz (evN1n vn_list (pe_callTy call_list_of (by rfl) (T_free_list KX G c) (by decide +kernel) (pa_cons (pv 1) pa_nil)))))) (eg_nm (pg_name (i := 2) sc.nd rfl (by first | exact .inl rfl | exact .inr rfl))) (ess_one (es_for (ps_for po rfl (ei_any (pi_any (ev_var (pv 0)))) (eg_nm (pg_name (i := 4) sc.nd rfl (by first | exact .inl rfl | exact .inr rfl))) (ess_cons (es_set (ps_set (i := 5) sc.nd rfl (by first | exact Or.inl rfl | exact Or.inr rfl) (ev_call ((ok__law_after KX G c).pe (hr.mono (by decide)) (by rfl) tk (ea_cons (ev_var (pv 2)) (ea_cons (ev_var (pv 4)) ea_nil'))))))
    (ess_one (es_if (ps_if (PW.pt (et_and (pw_and (et2m vo_notin (pt_cmpR (op_notInA (room_u hr)) (ev_var (pv 5)) (pv 1) (by with_unfolding_all rfl))) (pw_and1 (et2 (vo_cmpI _) (pt_cmpR op_lt (evc1n vo_len (pe_callB call_lenD (by rfl) (T_free_len KX G c) (by decide +kernel) (pa_cons (pv 1) pa_nil))) (ev_int pe_int) (nomark _))))))) (ess_one (es_expr (ps_expr (ev_append (pe_bm PySem.F.plainAttrs_list PySem.F.slot_list_append PySem.F.type_list_append mt_append (pv 1) (pa_cons (ev_var (pv 5)) pa_nil)))))) ess_nil))))))))))))
    (ess_one (es_ret (ps_ret (ev_var (pv 1))))))))
theorem sc__law_of_maps : FnScope ["_law_state_here", "_law_most", "_law_k", "_law_maps", "_law_turn", "_law_found_here", "_law_x", "_law_f", "_law_g"] ["_law_state_here", "_law_most"] (defScope (topS 30)) := ⟨rfl, rfl, rfl, by decide +kernel, rfl, by decide +kernel, by decide +kernel⟩
theorem ok__law_of_maps (KX : K.In h) (G : h.Ns mainGlobals mg) (c : Says fa fn xn ex K) : Fk PP w K mg base "_law_of_maps" 3 (He.fAd K ("_law_of_maps", none)) ["_law_state_here", "_law_most"] (spR ⟨K, mg, none, TK⟩ d__law_of_maps) := by
  obtain ⟨fd, F⟩ := c.def_ 9 (d := dd__law_of_maps) rfl
  have sc := sc__law_of_maps
  refine ⟨⟨fd, fn_dataR F sc (by decide) fun cdv A outer s H E hr tk po => ?_, F.bindsN (ps := ["_law_state_here", "_law_most"]) fun _ _ _ _ _ _ us hl => match us, hl with | [_, _], _ => rfl⟩, He.glo_ok KX G (c.fact 32 (f := .glo "_law_of_maps") rfl), F.kp⟩
  exact (ess_cons (es_set (ps_set (i := 2) sc.nd rfl (by first | exact Or.inl rfl | exact Or.inr rfl) (ev2 vo_add (pe_op op_addD (ev_int pe_int) (ev_callR (runR_nox _ _ _) ((ok__law_take KX G c).pe (hr.mono (by decide)) (by rfl) tk (pa_cons (pv 0) (ea_cons (ev_int pe_int) ea_nil'))))))))
    (ess_cons (es_own (ps_set (i := 3) sc.nd rfl (by first | exact Or.inl rfl | exact Or.inr rfl) (evN_lst (pe_lst ea_nil'))))
    (ess_cons (es_for (ps_for po rfl (ei_rng (pi_range1 (by rfl) (T_free_range KX G c) (pa_cons (ev2 vo_add (pe_op op_addD (ev_int pe_int) (ev_callR (runR_nox _ _ _) ((ok__law_take KX G c).pe (hr.mono (by decide)) (by rfl) tk (pa_cons (pv 0) (ea_cons (ev_int pe_int) ea_nil')))))) pa_nil))) (eg_nm (pg_name (i := 4) sc.nd rfl (by first | exact .inl rfl | exact .inr rfl))) (ess_one (es_expr (ps_expr (ev_append (pe_bm PySem.F.plainAttrs_list PySem.F.slot_list_append PySem.F.type_list_append mt_append (pv 3) (pa_cons (evc1 vo_tuple (pe_callTy call_tupleN (by rfl) (T_free_tuple KX G c) (by decide +kernel) (pa_cons (ev_frz (ev_comp (pe_lc (own := [("_law_x", 6)]) rfl sc.nd (ei_rng (pi_range1 (by rfl) (T_free_range KX G c) (pa_cons (ev_var (pv 2)) pa_nil))) (blkOk_by (own := [("_law_x", 6)]) (by first | decide +kernel | rfl)) (fun _ _ _ _ _ => (eg_nm (pg_name (i := 6) sc.nd rfl (by first | exact .inl rfl | exact .inr rfl)))) (fun _ _ _ _ _ => ets_nil) (fun _ _ _ _ _ => (ev_callR (runR_nox _ _ _) ((ok__law_take KX G c).pe (hr.mono (by decide)) (by rfl) takes0 (pa_cons (pv 0) (ea_cons (ev_var (pv 2)) ea_nil')))))))) pa_nil))) pa_nil))))))))
    (ess_cons (es_set (ps_set (i := 5) sc.nd rfl (by first | exact Or.inl rfl | exact Or.inr rfl) (ev_call ((ok__law_closed KX G c).pe (hr.mono (by decide)) (by rfl) tk (ea_cons (ev_var (pv 3)) ea_nil')))))
    (ess_cons (es_if (ps_if (et2 (vo_cmpI _) (pt_cmpR op_gt (evc1n vo_len (pe_callB call_lenD (by rfl) (T_free_len KX G c) (by decide +kernel) (pa_cons (pv 5) pa_nil))) (ev_var (pv 1)) (nomark _))) (ess_one (es_set (ps_set (i := 5) sc.nd rfl (by first | exact Or.inl rfl | exact Or.inr rfl) (ev_call ((ok__law_closed KX G c).pe (hr.mono (by decide)) (by rfl) tk (ea_cons (ev_sln (pe_slice sl_D (pv 3) eo_none (eo_some (ev_int pe_int)))) ea_nil')))))) ess_nil))
    (ess_cons (es_if (ps_if (et2 (vo_cmpI _) (pt_cmpR op_gt (evc1n vo_len (pe_callB call_lenD (by rfl) (T_free_len KX G c) (by decide +kernel) (pa_cons (pv 5) pa_nil))) (ev_var (pv 1)) (nomark _))) (ess_one (es_own (ps_set (i := 5) sc.nd rfl (by first | exact Or.inl rfl | exact Or.inr rfl) (evN_lst (pe_lst (ea_cons (evc1 vo_tuple (pe_callTy call_tupleN (by rfl) (T_free_tuple KX G c) (by decide +kernel) (pa_cons (ev_frz (ev_comp (pe_lc (own := [("_law_x", 6)]) rfl sc.nd (ei_rng (pi_range1 (by rfl) (T_free_range KX G c) (pa_cons (ev_var (pv 2)) pa_nil))) (blkOk_by (own := [("_law_x", 6)]) (by first | decide +kernel | rfl)) (fun _ _ _ _ _ => (eg_nm (pg_name (i := 6) sc.nd rfl (by first | exact .inl rfl | exact .inr rfl)))) (fun _ _ _ _ _ => ets_nil) (fun _ _ _ _ _ => (ev2 vo_ix (pe_ix ix_seq (ev2n vo_ix (pe_ix ix_seq (pv 3) (ev_int pe_int) (fun _ _ => rfl))) (ev_int pe_int) (fun _ _ => rfl))))))) pa_nil))) ea_nil')))))) ess_nil))
    (ess_one (es_ret (ps_ret (ev_frz (ev_pre (ev_comp (pe_lc (own := [("_law_f", 7)]) rfl sc.nd (ei_any (pi_any (ev_var (pv 5)))) (blkOk_by (own := [("_law_f", 7)]) (by first | decide +kernel | rfl)) (fun _ _ _ _ _ => (eg_nm (pg_name (i := 7) sc.nd rfl (by first | exact .inl rfl | exact .inr rfl)))) (fun _ _ _ _ _ => ets_nil) (fun _ _ _ _ _ => (evc1 vo_tuple (pe_callTy call_tupleN (by rfl) (T_free_tuple KX G c) (by decide +kernel) (pa_cons (ev_frz (ev_comp (pe_lc (own := [("_law_g", 8)]) rfl sc.nd (ei_any (pi_any (ev_var (pv 5)))) (blkOk_by (own := [("_law_g", 8)]) (by first | decide +kernel | rfl)) (fun _ _ _ _ _ => (eg_nm (pg_name (i := 8) sc.nd rfl (by first | exact .inl rfl | exact .inr rfl)))) (fun _ _ _ _ _ => ets_nil) (fun _ _ _ _ _ => (ev_indexN (pe_bm PySem.F.plainAttrs_list PySem.F.slot_list_index PySem.F.type_list_index (mt_indexA (room_u hr)) (pv 5) (pa_cons (ev_call ((ok__law_after KX G c).pe (hr.mono (by decide)) (by rfl) takes0 (ea_cons (ev_var (pv 7)) (ea_cons (ev_var (pv 8)) ea_nil')))) pa_nil))))))) pa_nil)))))))))))))))))
theorem sc__law_plain : FnScope ["_law_state_here", "_law_most", "_law_pick", "_law_n", "_law_x", "_law_y"] ["_law_state_here", "_law_most"] (defScope (topS 34)) := ⟨rfl, rfl, rfl, by decide +kernel, rfl, by decide +kernel, by decide +kernel⟩
theorem ok__law_plain (KX : K.In h) (G : h.Ns mainGlobals mg) (c : Says fa fn xn ex K) : Fk PP w K mg base "_law_plain" 4 (He.fAd K ("_law_plain", none)) ["_law_state_here", "_law_most"] (spR ⟨K, mg, none, TK⟩ d__law_plain) := by
  obtain ⟨fd, F⟩ := c.def_ 10 (d := dd__law_plain) rfl
  have sc := sc__law_plain
  refine ⟨⟨fd, fn_dataR F sc (by decide) fun cdv A outer s H E hr tk po => ?_, F.bindsN (ps := ["_law_state_here", "_law_most"]) fun _ _ _ _ _ _ us hl => match us, hl with | [_, _], _ => rfl⟩, He.glo_ok KX G (c.fact 33 (f := .glo "_law_plain") rfl), F.kp⟩
  exact (ess_cons (es_set (ps_set (i := 2) sc.nd rfl (by first | exact Or.inl rfl | exact Or.inr rfl) (ev_callR (runR_nox _ _ _) ((ok__law_take KX G c).pe (hr.mono (by decide)) (by rfl) tk (pa_cons (pv 0) (ea_cons (ev_int pe_int) ea_nil'))))))
    (ess_cons (es_set (ps_set (i := 3) sc.nd rfl (by first | exact Or.inl rfl | exact Or.inr rfl) (ev2 vo_add (pe_op op_addD (ev_int pe_int) (ev_callR (runR_nox _ _ _) ((ok__law_take KX G c).pe (hr.mono (by decide)) (by rfl) tk (pa_cons (pv 0) (ea_cons (ev_var (pv 1)) ea_nil'))))))))
    (ess_cons (es_if (ps_if (et2 vo_eq (pt_cmpR (op_eqD (room_u4 hr)) (ev_var (pv 2)) (ev_int pe_int) (nomark _))) (ess_one (es_ret (ps_ret (ev_frz (ev_comp (pe_lc (own := [("_law_x", 4)]) rfl sc.nd (ei_rng (pi_range1 (by rfl) (T_free_range KX G c) (pa_cons (ev_var (pv 3)) pa_nil))) (blkOk_by (own := [("_law_x", 4)]) (by first | decide +kernel | rfl)) (fun _ _ _ _ _ => (eg_nm (pg_name (i := 4) sc.nd rfl (by first | exact .inl rfl | exact .inr rfl)))) (fun _ _ _ _ _ => ets_nil) (fun _ _ _ _ _ => (evc1 vo_tuple (pe_callTy call_tupleN (by rfl) (T_free_tuple KX G c) (by decide +kernel) (pa_cons (ev_frz (ev_comp (pe_lc (own := [("_law_y", 5)]) rfl sc.nd (ei_rng (pi_range1 (by rfl) (T_free_range KX G c) (pa_cons (ev_var (pv 3)) pa_nil))) (blkOk_by (own := [("_law_y", 5)]) (by first | decide +kernel | rfl)) (fun _ _ _ _ _ => (eg_nm (pg_name (i := 5) sc.nd rfl (by first | exact .inl rfl | exact .inr rfl)))) (fun _ _ _ _ _ => ets_nil) (fun _ _ _ _ _ => (ev_var (pv 4)))))) pa_nil)))))))))) ess_nil))
    (ess_cons (es_if (ps_if (et2 vo_eq (pt_cmpR (op_eqD (room_u4 hr)) (ev_var (pv 2)) (ev_int pe_int) (nomark _))) (ess_one (es_ret (ps_ret (ev_frz (ev_comp (pe_lc (own := [("_law_x", 4)]) rfl sc.nd (ei_rng (pi_range1 (by rfl) (T_free_range KX G c) (pa_cons (ev_var (pv 3)) pa_nil))) (blkOk_by (own := [("_law_x", 4)]) (by first | decide +kernel | rfl)) (fun _ _ _ _ _ => (eg_nm (pg_name (i := 4) sc.nd rfl (by first | exact .inl rfl | exact .inr rfl)))) (fun _ _ _ _ _ => ets_nil) (fun _ _ _ _ _ => (evc1 vo_tuple (pe_callTy call_tupleN (by rfl) (T_free_tuple KX G c) (by decide +kernel) (pa_cons (ev_frz (ev_comp (pe_lc (own := [("_law_y", 5)]) rfl sc.nd (ei_rng (pi_range1 (by rfl) (T_free_range KX G c) (pa_cons (ev_var (pv 3)) pa_nil))) (blkOk_by (own := [("_law_y", 5)]) (by first | decide +kernel | rfl)) (fun _ _ _ _ _ => (eg_nm (pg_name (i := 5) sc.nd rfl (by first | exact .inl rfl | exact .inr rfl)))) (fun _ _ _ _ _ => ets_nil) (fun _ _ _ _ _ => (ev_int pe_int))))) pa_nil)))))))))) ess_nil))
    (ess_cons (es_if (ps_if (et2 vo_eq (pt_cmpR (op_eqD (room_u4 hr)) (ev_var (pv 2)) (ev_int pe_int) (nomark _))) (ess_one (es_ret (ps_ret (ev_callR (runR_nox _ _ _) ((ok__law_monogenic KX G c).pe (hr.mono (by decide)) (by rfl) tk (pa_cons (pv 0) (ea_cons (ev_var (pv 1)) ea_nil'))))))) ess_nil))
    (ess_cons (es_if (ps_if (et2 vo_eq (pt_cmpR (op_eqD (room_u4 hr)) (ev_var (pv 2)) (ev_int pe_int) (nomark _))) (ess_one (es_ret (ps_ret (ev_frz (ev_comp (pe_lc (own := [("_law_x", 4)]) rfl sc.nd (ei_rng (pi_range1 (by rfl) (T_free_range KX G c) (pa_cons (ev_var (pv 3)) pa_nil))) (blkOk_by (own := [("_law_x", 4)]) (by first | decide +kernel | rfl)) (fun _ _ _ _ _ => (eg_nm (pg_name (i := 4) sc.nd rfl (by first | exact .inl rfl | exact .inr rfl)))) (fun _ _ _ _ _ => ets_nil) (fun _ _ _ _ _ => (evc1 vo_tuple (pe_callTy call_tupleN (by rfl) (T_free_tuple KX G c) (by decide +kernel) (pa_cons (ev_frz (ev_comp (pe_lc (own := [("_law_y", 5)]) rfl sc.nd (ei_rng (pi_range1 (by rfl) (T_free_range KX G c) (pa_cons (ev_var (pv 3)) pa_nil))) (blkOk_by (own := [("_law_y", 5)]) (by first | decide +kernel | rfl)) (fun _ _ _ _ _ => (eg_nm (pg_name (i := 5) sc.nd rfl (by first | exact .inl rfl | exact .inr rfl)))) (fun _ _ _ _ _ => ets_nil) (fun _ _ _ _ _ => (evc2 vo_min2 (pe_callB (call_min2 rfl) (by rfl) (T_free_min KX G c) (by decide +kernel) (pa_cons (ev_var (pv 4)) (pa_cons (ev_var (pv 5)) pa_nil)))))))) pa_nil)))))))))) ess_nil))
    (ess_cons (es_if (ps_if (et2 (vo_cmpI _) (pt_cmpR op_lt (ev_var (pv 2)) (ev_int pe_int) (nomark _))) (ess_one (es_ret (ps_ret (ev_callR (runR_nox _ _ _) ((ok__law_of_maps KX G c).pe (hr.mono (by decide)) (by rfl) tk (pa_cons (pv 0) (ea_cons (ev_var (pv 1)) ea_nil'))))))) ess_nil))
    (ess_one (es_ret (ps_ret (ev_callR (runR_nox _ _ _) ((ok__law_blocks KX G c).pe (hr.mono (by decide)) (by rfl) tk (pa_cons (pv 0) (ea_cons (ev_var (pv 1)) ea_nil'))))))))))))))
theorem sc__law_order_of : FnScope ["_law_state_here", "_law_n", "_law_left", "_law_found_here", "_law_k"] ["_law_state_here", "_law_n"] (defScope (topS 26)) := ⟨rfl, rfl, rfl, by decide +kernel, rfl, by decide +kernel, by decide +kernel⟩
theorem ok__law_order_of (KX : K.In h) (G : h.Ns mainGlobals mg) (c : Says fa fn xn ex K) : Fk PP w K mg base "_law_order_of" 2 (He.fAd K ("_law_order_of", none)) ["_law_state_here", "_law_n"] (spR ⟨K, mg, none, TK⟩ d__law_order_of) := by
  obtain ⟨fd, F⟩ := c.def_ 11 (d := dd__law_order_of) rfl
  have sc := sc__law_order_of
  refine ⟨⟨fd, fn_dataR F sc (by decide) fun cdv A outer s H E hr tk po => ?_, F.bindsN (ps := ["_law_state_here", "_law_n"]) fun _ _ _ _ _ _ us hl => match us, hl with | [_, _], _ => rfl⟩, He.glo_ok KX G (c.fact 34 (f := .glo "_law_order_of") rfl), F.kp⟩
  exact (ess_cons (es_own (ps_set (i := 2) sc.nd rfl (by first | exact Or.inl rfl | exact Or.inr rfl) (evN_rg (pe_listRg rfl (by rfl) (T_free_list KX G c) (erg1 (prg_1 (by rfl) (T_free_range KX G c) (ev_var (pv 1))))))))
    (ess_cons (es_own (ps_set (i := 3) sc.nd rfl (by first | exact Or.inl rfl | exact Or.inr rfl) (evN_lst (pe_lst ea_nil'))))
    (ess_cons (es_for (ps_for po rfl (ei_rng (pi_range1 (by rfl) (T_free_range KX G c) (pa_cons (ev_var (pv 1)) pa_nil))) (eg_nm (pg_name (i := 4) sc.nd rfl (by first | exact .inl rfl | exact .inr rfl))) (ess_one (es_expr (ps_expr (ev_append (pe_bm PySem.F.plainAttrs_list PySem.F.slot_list_append PySem.F.type_list_append mt_append (pv 3) (pa_cons (ev_popAt (pe_bm PySem.F.plainAttrs_list PySem.F.slot_list_pop PySem.F.type_list_pop mt_popAt (pv 2) (pa_cons (ev_callR (runR_nox _ _ _) ((ok__law_take KX G c).pe (hr.mono (by decide)) (by rfl) tk (pa_cons (pv 0) (ea_cons (evc1n vo_len (pe_callB call_lenD (by rfl) (T_free_len KX G c) (by decide +kernel) (pa_cons (pv 2) pa_nil))) ea_nil')))) pa_nil))) pa_nil))))))))
    (ess_one (es_ret (ps_ret (ev_var (pv 3))))))))
theorem sc__law_semigroup : FnScope ["_law_state_here", "_law_most", "_law_table"] ["_law_state_here", "_law_most"] (defScope (topS 36)) := ⟨rfl, rfl, rfl, by decide +kernel, rfl, by decide +kernel, by decide +kernel⟩
theorem ok__law_semigroup (KX : K.In h) (G : h.Ns mainGlobals mg) (c : Says fa fn xn ex K) : Fk PP w K mg base "_law_semigroup" 5 (He.fAd K ("_law_semigroup", none)) ["_law_state_here", "_law_most"] (spR ⟨K, mg, none, TK⟩ d__law_semigroup) := by
  obtain ⟨fd, F⟩ := c.def_ 12 (d := dd__law_semigroup) rfl
  have sc := sc__law_semigroup
  refine ⟨⟨fd, fn_dataR F sc (by decide) fun cdv A outer s H E hr tk po => ?_, F.bindsN (ps := ["_law_state_here", "_law_most"]) fun _ _ _ _ _ _ us hl => match us, hl with | [_, _], _ => rfl⟩, He.glo_ok KX G (c.fact 35 (f := .glo "_law_semigroup") rfl), F.kp⟩
  exact (ess_cons (es_set (ps_set (i := 2) sc.nd rfl (by first | exact Or.inl rfl | exact Or.inr rfl) (ev_callR (runR_nox _ _ _) ((ok__law_extended KX G c).pe (hr.mono (by decide)) (by rfl) tk (pa_cons (pv 0) (ea_cons (ev_callR (runR_nox _ _ _) ((ok__law_plain KX G c).pe (hr.mono (by decide)) (by rfl) tk (pa_cons (pv 0) (ea_cons (ev_var (pv 1)) ea_nil')))) (ea_cons (ev_var (pv 1)) ea_nil')))))))
    (ess_one (es_ret (ps_ret (ev_call ((ok__law_renamed KX G c).pe (hr.mono (by decide)) (by rfl) tk (ea_cons (ev_var (pv 2)) (ea_cons (ev_callR (runR_nox _ _ _) ((ok__law_order_of KX G c).pe (hr.mono (by decide)) (by rfl) tk (pa_cons (pv 0) (ea_cons (evc1n vo_len (pe_callB call_lenD (by rfl) (T_free_len KX G c) (by decide +kernel) (pa_cons (pv 2) pa_nil))) ea_nil')))) ea_nil'))))))))
theorem sc_is_integer : FnScope ["value"] ["value"] (defScope (topS 6)) := ⟨rfl, rfl, rfl, by decide +kernel, rfl, by decide +kernel, by decide +kernel⟩
theorem ok_is_integer (KX : K.In h) (G : h.Ns mainGlobals mg) (c : Says fa fn xn ex K) : Fk PP w K mg base "is_integer" 1 (He.fAd K ("is_integer", none)) ["value"] (spD ⟨K, mg, none, TK⟩ d_is_integer) := by
  obtain ⟨fd, F⟩ := c.def_ 13 (d := dd_is_integer) rfl
  have sc := sc_is_integer
  refine ⟨⟨fd, fn_data F sc (by decide) fun cdv A outer s H E hr tk po => ?_, F.bindsN (ps := ["value"]) fun _ _ _ _ _ _ us hl => match us, hl with | [_], _ => rfl⟩, He.glo_ok KX G (c.fact 36 (f := .glo "is_integer") rfl), F.kp⟩
  exact (ess_one (es_ret (ps_ret (ev_andV (pe_and (ev_isi (by decide) (pe_callB call_isi (by rfl) (T_free_isinstance KX G c) (by decide +kernel) (pa_cons (ev_var (pv 0)) (pa_cons (pe_bltn (by rfl) (T_free_int KX G c) (by decide +kernel) rfl) pa_nil)))) (pe_one (ev_notV (pe_not (ev_isi (by decide) (pe_callB call_isi (by rfl) (T_free_isinstance KX G c) (by decide +kernel) (pa_cons (ev_var (pv 0)) (pa_cons (pe_bltn (by rfl) (T_free_bool KX G c) (by decide +kernel) rfl) pa_nil))))))))))))
theorem sc_is_item : FnScope ["value", "n"] ["value", "n"] (defScope (topS 9)) := ⟨rfl, rfl, rfl, by decide +kernel, rfl, by decide +kernel, by decide +kernel⟩
theorem ok_is_item (KX : K.In h) (G : h.Ns mainGlobals mg) (c : Says fa fn xn ex K) : Fk PP w K mg base "is_item" 2 (He.fAd K ("is_item", none)) ["value", "n"] (spD ⟨K, mg, none, TK⟩ d_is_item) := by
  obtain ⟨fd, F⟩ := c.def_ 14 (d := dd_is_item) rfl
  have sc := sc_is_item
  refine ⟨⟨fd, fn_data F sc (by decide) fun cdv A outer s H E hr tk po => ?_, F.bindsN (ps := ["value", "n"]) fun _ _ _ _ _ _ us hl => match us, hl with | [_, _], _ => rfl⟩, He.glo_ok KX G (c.fact 37 (f := .glo "is_item") rfl), F.kp⟩
  exact (ess_one (es_ret (ps_ret (ev_andV (pe_and (ev_call ((ok_is_integer KX G c).pe (hr.mono (by decide)) (by rfl) tk (ea_cons (ev_var (pv 0)) ea_nil'))) (pe_one (ev_chain (vo_cmpI _) (vo_cmpI _) (pe_chain op_le op_lt (ev_int pe_int) (ev_var (pv 0)) (ev_var (pv 1))))))))))
theorem sc_taken_table : FnScope ["table", "found", "row", "item"] ["table"] (defScope (topS 10)) := ⟨rfl, rfl, rfl, by decide +kernel, rfl, by decide +kernel, by decide +kernel⟩
theorem ok_taken_table (KX : K.In h) (G : h.Ns mainGlobals mg) (c : Says fa fn xn ex K) : Fk PP w K mg base "taken_table" 3 (He.fAd K ("taken_table", none)) ["table"] (spD ⟨K, mg, none, TK⟩ d_taken_table) := by
  obtain ⟨fd, F⟩ := c.def_ 15 (d := dd_taken_table) rfl
  have sc := sc_taken_table
  refine ⟨⟨fd, fn_data F sc (by decide) fun cdv A outer s H E hr tk po => ?_, F.bindsN (ps := ["table"]) fun _ _ _ _ _ _ us hl => match us, hl with | [_], _ => rfl⟩, He.glo_ok KX G (c.fact 38 (f := .glo "taken_table") rfl), F.kp⟩
  exact (ess_cons (es_if (ps_if (PW.pt (et_or (pw_or (et_not (pt_not (et_tst (pt_val (ev_isi2 (by decide) (by decide) (pe_callB call_isiT (by rfl) (T_free_isinstance KX G c) (by decide +kernel) (pa_cons (ev_var (pv 0)) (pa_cons (pe_tup (pa_cons (pe_bltn (by rfl) (T_free_list KX G c) (by decide +kernel) rfl) (pa_cons (pe_bltn (by rfl) (T_free_tuple KX G c) (by decide +kernel) rfl) pa_nil))) pa_nil)))))))) (pw_or1 (et2 vo_eq (pt_cmpR (op_eqD (room_u4 hr)) (evc1n vo_len (pe_callB call_lenD (by rfl) (T_free_len KX G c) (by decide +kernel) (pa_cons (pv 0) pa_nil))) (ev_int pe_int) (nomark _))))))) (ess_one (es_raise0 (T_glo_Malformed KX G c) tk (pmk_own PySem.F.excBase_ValueError (T_exc_Malformed KX G c).1 (T_glo_Malformed KX G c) (T_exc_Malformed KX G c).2.1 (raises_own (T_exc_Malformed KX G c).2.2.1 (T_exc_Malformed KX G c).2.2.2) (by rfl)))) ess_nil))
    (ess_cons (es_own (ps_set (i := 1) sc.nd rfl (by first | exact Or.inl rfl | exact Or.inr rfl) (evN_lst (pe_lst ea_nil'))))
    (ess_cons (es_for (ps_for po rfl (ei_any (pi_any (ev_var (pv 0)))) (eg_nm (pg_name (i := 2) sc.nd rfl (by first | exact .inl rfl | exact .inr rfl))) (ess_cons (es_if (ps_if (PW.pt (et_or (pw_or (et_not (pt_not (et_tst (pt_val (ev_isi2 (by decide) (by decide) (pe_callB call_isiT (by rfl) (T_free_isinstance KX G c) (by decide +kernel) (pa_cons (ev_var (pv 2)) (pa_cons (pe_tup (pa_cons (pe_bltn (by rfl) (T_free_list KX G c) (by decide +kernel) rfl) (pa_cons (pe_bltn (by rfl) (T_free_tuple KX G c) (by decide +kernel) rfl) pa_nil))) pa_nil)))))))) (pw_or1 (et2 vo_ne (pt_cmpR (op_neD (room_u4 hr)) (evc1n vo_len (pe_callB call_lenD (by rfl) (T_free_len KX G c) (by decide +kernel) (pa_cons (pv 2) pa_nil))) (evc1n vo_len (pe_callB call_lenD (by rfl) (T_free_len KX G c) (by decide +kernel) (pa_cons (pv 0) pa_nil))) (nomark _))))))) (ess_one (es_raise0 (T_glo_Malformed KX G c) tk (pmk_own PySem.F.excBase_ValueError (T_exc_Malformed KX G c).1 (T_glo_Malformed KX G c) (T_exc_Malformed KX G c).2.1 (raises_own (T_exc_Malformed KX G c).2.2.1 (T_exc_Malformed KX G c).2.2.2) (by rfl)))) ess_nil))
    (ess_cons (es_for (ps_for po rfl (ei_any (pi_any (ev_var (pv 2)))) (eg_nm (pg_name (i := 3) sc.nd rfl (by first | exact .inl rfl | exact .inr rfl))) (ess_one (es_if (ps_if (et_not (pt_not (et_tst (pt_val (ev_call ((ok_is_item KX G c).pe (hr.mono (by decide)) (by rfl) tk (ea_cons (ev_var (pv 3)) (ea_cons (evc1n vo_len (pe_callB call_lenD (by rfl) (T_free_len KX G c) (by decide +kernel) (pa_cons (pv 0) pa_nil))) ea_nil')))))))) (ess_one (es_raise0 (T_glo_Malformed KX G c) tk (pmk_own PySem.F.excBase_ValueError (T_exc_Malformed KX G c).1 (T_glo_Malformed KX G c) (T_exc_Malformed KX G c).2.1 (raises_own (T_exc_Malformed KX G c).2.2.1 (T_exc_Malformed KX G c).2.2.2) (by rfl)))) ess_nil)))))
    (ess_one (es_expr (ps_expr (ev_append (pe_bm PySem.F.plainAttrs_list PySem.F.slot_list_append PySem.F.type_list_append mt_append (pv 1) (pa_cons (evc1n vo_tuple (pe_callTy call_tupleN (by rfl) (T_free_tuple KX G c) (by decide +kernel) (pa_cons (pv 2) pa_nil))) pa_nil))))))))))
    (ess_one (es_ret (ps_ret (evc1n vo_tuple (pe_callTy call_tupleN (by rfl) (T_free_tuple KX G c) (by decide +kernel) (pa_cons (pv 1) pa_nil)))))))))
theorem sc_is_associative : FnScope ["table", "row", "y", "z", "item"] ["table"] (defScope (topS 11)) := ⟨rfl, rfl, rfl, by decide +kernel, rfl, by decide +kernel, by decide +kernel⟩
theorem ok_is_associative (KX : K.In h) (G : h.Ns mainGlobals mg) (c : Says fa fn xn ex K) : Fk PP w K mg base "is_associative" 1 (He.fAd K ("is_associative", none)) ["table"] (spD ⟨K, mg, none, TK⟩ d_is_associative) := by
  obtain ⟨fd, F⟩ := c.def_ 16 (d := dd_is_associative) rfl
  have sc := sc_is_associative
  refine ⟨⟨fd, fn_data F sc (by decide) fun cdv A outer s H E hr tk po => ?_, F.bindsN (ps := ["table"]) fun _ _ _ _ _ _ us hl => match us, hl with | [_], _ => rfl⟩, He.glo_ok KX G (c.fact 39 (f := .glo "is_associative") rfl), F.kp⟩
  exact (ess_cons (es_for (ps_for po rfl (ei_any (pi_any (ev_var (pv 0)))) (eg_nm (pg_name (i := 1) sc.nd rfl (by first | exact .inl rfl | exact .inr rfl))) (ess_one (es_for (ps_for po rfl (ei_rng (pi_range1 (by rfl) (T_free_range KX G c) (pa_cons (evc1n vo_len (pe_callB call_lenD (by rfl) (T_free_len KX G c) (by decide +kernel) (pa_cons (pv 0) pa_nil))) pa_nil))) (eg_nm (pg_name (i := 2) sc.nd rfl (by first | exact .inl rfl | exact .inr rfl))) (ess_one (es_if (ps_if (et2 vo_ne (pt_cmpR (op_neD (room_u4 hr)) (ev_frz (ev_comp (pe_lc (own := [("z", 3)]) rfl sc.nd (ei_rng (pi_range1 (by rfl) (T_free_range KX G c) (pa_cons (evc1n vo_len (pe_callB call_lenD (by rfl) (T_free_len KX G c) (by decide +kernel) (pa_cons (pv 0) pa_nil))) pa_nil))) (blkOk_by (own := [("z", 3)]) (by first | decide +kernel | rfl)) (fun _ _ _ _ _ => (eg_nm (pg_name (i := 3) sc.nd rfl (by first | exact .inl rfl | exact .inr rfl)))) (fun _ _ _ _ _ => ets_nil) (fun _ _ _ _ _ => (ev2 vo_ix (pe_ix ix_seq (ev2n vo_ix (pe_ix ix_seq (pv 0) (ev2n vo_ix (pe_ix ix_seq (pv 1) (ev_var (pv 2)) (fun _ _ => rfl))) (fun _ _ => rfl))) (ev_var (pv 3)) (fun _ _ => rfl))))))) (ev_frz (ev_comp (pe_lc (own := [("item", 4)]) rfl sc.nd (ei_any (pi_any (ev2n vo_ix (pe_ix ix_seq (pv 0) (ev_var (pv 2)) (fun _ _ => rfl))))) (blkOk_by (own := [("item", 4)]) (by first | decide +kernel | rfl)) (fun _ _ _ _ _ => (eg_nm (pg_name (i := 4) sc.nd rfl (by first | exact .inl rfl | exact .inr rfl)))) (fun _ _ _ _ _ => ets_nil) (fun _ _ _ _ _ => (ev2n vo_ix (pe_ix ix_seq (pv 1) (ev_var (pv 4)) (fun _ _ => rfl))))))) (nomark _))) (ess_one (es_ret (ps_ret (ev_bl pe_bl)))) ess_nil))))))))
    (ess_one (es_ret (ps_ret (ev_bl pe_bl)))))
theorem sc_Semigroup___init__ : FnScope ["self", "table", "own"] ["self", "table"] (defScope (inClass (topS 12) 0)) := ⟨rfl, rfl, rfl, by decide +kernel, rfl, by decide +kernel, by decide +kernel⟩
theorem ok_Semigroup (KX : K.In h) (G : h.Ns mainGlobals mg) (c : Says fa fn xn ex K) : Kf PP w K mg base "Semigroup" 4 (He.ga K "Semigroup") (He.fAd K ("Semigroup", some "__init__")) ["self", "table"] (spI ⟨K, mg, none, TK⟩ "Semigroup" d_Semigroup___init__) := by
  obtain ⟨fd, F⟩ := c.def_ 17 (d := dd_Semigroup___init__) rfl
  have sc := sc_Semigroup___init__
  refine ⟨⟨fd, fn_init F sc (by decide) fun cdv A outer s H E hr tk po => ?_, F.bindsN (ps := ["self", "table"]) fun _ _ _ _ _ _ us hl => match us, hl with | [_, _], _ => rfl⟩, He.mkr_ok (c.fact 40 (f := .mkr "Semigroup") rfl), He.glo_ok KX G (c.fact 14 (f := .glo "Semigroup") rfl)⟩
  exact (ess_cons (es_set (ps_set (i := 2) sc.nd rfl (by first | exact Or.inl rfl | exact Or.inr rfl) (ev_call ((ok_taken_table KX G c).pe (hr.mono (by decide)) (by rfl) tk (ea_cons (ev_var (pv 1)) ea_nil')))))
    (ess_cons (es_if (ps_if (et2 (vo_cmpI _) (pt_cmpR op_gt (evc1n vo_len (pe_callB call_lenD (by rfl) (T_free_len KX G c) (by decide +kernel) (pa_cons (pv 2) pa_nil))) (ev_gint (T_int_MOST_semigroup KX G c) (by rfl)) (nomark _))) (ess_one (es_raise1 (T_glo_Refused KX G c) tk (pmk_err (k := 1) (T_err_Refused KX G c).1 (T_glo_Refused KX G c) (T_free_super KX G c) (hr.mono (by decide)) (pa_cons (ev_str pe_str) pa_nil) (by rfl)))) ess_nil))
    (ess_cons (es_if (ps_if (et_not (pt_not (et_tst (pt_val (ev_call ((ok_is_associative KX G c).pe (hr.mono (by decide)) (by rfl) tk (ea_cons (ev_var (pv 2)) ea_nil'))))))) (ess_one (es_raise1 (T_glo_Refused KX G c) tk (pmk_err (k := 1) (T_err_Refused KX G c).1 (T_glo_Refused KX G c) (T_free_super KX G c) (hr.mono (by decide)) (pa_cons (ev_str pe_str) pa_nil) (by rfl)))) ess_nil))
    (ess_cons (es_self (T_cls_Semigroup KX G c) (T_noat_Semigroup_n KX G c) (ps_fld (pv 0) (evc1n vo_len (pe_callB call_lenD (by rfl) (T_free_len KX G c) (by decide +kernel) (pa_cons (pv 2) pa_nil))) rfl))
    (ess_one (es_self (T_cls_Semigroup KX G c) (T_noat_Semigroup_table KX G c) (ps_fld (pv 0) (ev_var (pv 2)) rfl)))))))
theorem sc__law_arrangements : FnScope ["_law_n", "_law_found_here", "_law_k", "_law_longer", "_law_row", "_law_x"] ["_law_n"] (defScope (topS 37)) := ⟨rfl, rfl, rfl, by decide +kernel, rfl, by decide +kernel, by decide +kernel⟩
theorem ok__law_arrangements (KX : K.In h) (G : h.Ns mainGlobals mg) (c : Says fa fn xn ex K) : Fk PP w K mg base "_law_arrangements" 1 (He.fAd K ("_law_arrangements", none)) ["_law_n"] (spD ⟨K, mg, none, TK⟩ d__law_arrangements) := by
  obtain ⟨fd, F⟩ := c.def_ 18 (d := dd__law_arrangements) rfl
  have sc := sc__law_arrangements
  refine ⟨⟨fd, fn_data F sc (by decide) fun cdv A outer s H E hr tk po => ?_, F.bindsN (ps := ["_law_n"]) fun _ _ _ _ _ _ us hl => match us, hl with | [_], _ => rfl⟩, He.glo_ok KX G (c.fact 41 (f := .glo "_law_arrangements") rfl), F.kp⟩
  exact (ess_cons (es_own (ps_set (i := 1) sc.nd rfl (by first | exact Or.inl rfl | exact Or.inr rfl) (evN_lst (pe_lst (ea_cons (ev_tup (pe_tupN ea_nil')) ea_nil')))))
    (ess_cons (es_for (ps_for po rfl (ei_rng (pi_range1 (by rfl) (T_free_range KX G c) (pa_cons (ev_var (pv 0)) pa_nil))) (eg_nm (pg_name (i := 2) sc.nd rfl (by first | exact .inl rfl | exact .inr rfl))) (ess_cons (es_own (ps_set (i := 3) sc.nd rfl (by first | exact Or.inl rfl | exact Or.inr rfl) (evN_lst (pe_lst ea_nil'))))
    (ess_cons (es_for (ps_for po rfl (ei_any (pi_any (ev_var (pv 1)))) (eg_nm (pg_name (i := 4) sc.nd rfl (by first | exact .inl rfl | exact .inr rfl))) (ess_one (es_own (ps_set (i := 3) sc.nd rfl (by first | exact Or.inl rfl | exact Or.inr rfl) (evN2 vn_add (pe_op op_addD (ev_var (pv 3)) (ev_frz (ev_comp (pe_lc (own := [("_law_x", 5)]) rfl sc.nd (ei_rng (pi_range1 (by rfl) (T_free_range KX G c) (pa_cons (ev_var (pv 0)) pa_nil))) (blkOk_by (own := [("_law_x", 5)]) (by first | decide +kernel | rfl)) (fun _ _ _ _ _ => (eg_nm (pg_name (i := 5) sc.nd rfl (by first | exact .inl rfl | exact .inr rfl)))) (fun _ _ _ _ _ => (pts_one (et2m vo_notin (pt_cmpR (op_notInA (room_u hr)) (ev_var (pv 5)) (pv 4) (by with_unfolding_all rfl))))) (fun _ _ _ _ _ => (ev2 vo_add (pe_op op_addD (ev_var (pv 4)) (ev_tup (pe_tupN (ea_cons (ev_var (pv 5)) ea_nil'))))))))))))))))
    (ess_one (es_own (ps_set (i := 1) sc.nd rfl (by first | exact Or.inl rfl | exact Or.inr rfl) (evN1n vn_list (pe_callTy call_list_of (by rfl) (T_free_list KX G c) (by decide +kernel) (pa_cons (pv 3) pa_nil))))))))))
    (ess_one (es_ret (ps_ret (ev_var (pv 1)))))))
theorem sc__law_found : FnScope ["_law_one", "_law_two", "_law_n", "_law_found_here", "_law_images", "_law_good", "_law_x", "_law_y"] ["_law_one", "_law_two"] (defScope (topS 38)) := ⟨rfl, rfl, rfl, by decide +kernel, rfl, by decide +kernel, by decide +kernel⟩
theorem ok__law_found (KX : K.In h) (G : h.Ns mainGlobals mg) (c : Says fa fn xn ex K) : Fk PP w K mg base "_law_found" 2 (He.fAd K ("_law_found", none)) ["_law_one", "_law_two"] (spD ⟨K, mg, none, TK⟩ d__law_found) := by
  obtain ⟨fd, F⟩ := c.def_ 19 (d := dd__law_found) rfl
  have sc := sc__law_found
  refine ⟨⟨fd, fn_data F sc (by decide) fun cdv A outer s H E hr tk po => ?_, F.bindsN (ps := ["_law_one", "_law_two"]) fun _ _ _ _ _ _ us hl => match us, hl with | [_, _], _ => rfl⟩, He.glo_ok KX G (c.fact 42 (f := .glo "_law_found") rfl), F.kp⟩
  exact (ess_cons (es_set (ps_set (i := 2) sc.nd rfl (by first | exact Or.inl rfl | exact Or.inr rfl) (evc1n vo_len (pe_callB call_lenD (by rfl) (T_free_len KX G c) (by decide +kernel) (pa_cons (pv 0) pa_nil)))))
    (ess_cons (es_own (ps_set (i := 3) sc.nd rfl (by first | exact Or.inl rfl | exact Or.inr rfl) (evN_lst (pe_lst ea_nil'))))
    (ess_cons (es_if (ps_if (et2 vo_ne (pt_cmpR (op_neD (room_u4 hr)) (evc1n vo_len (pe_callB call_lenD (by rfl) (T_free_len KX G c) (by decide +kernel) (pa_cons (pv 1) pa_nil))) (ev_var (pv 2)) (nomark _))) (ess_one (es_ret (ps_ret (ev_var (pv 3))))) ess_nil))
    (ess_cons (es_for (ps_for po rfl (ei_any (pi_any (ev_call ((ok__law_arrangements KX G c).pe (hr.mono (by decide)) (by rfl) tk (ea_cons (ev_var (pv 2)) ea_nil'))))) (eg_nm (pg_name (i := 4) sc.nd rfl (by first | exact .inl rfl | exact .inr rfl))) (ess_cons (es_set (ps_set (i := 5) sc.nd rfl (by first | exact Or.inl rfl | exact Or.inr rfl) (ev_bl pe_bl)))
    (ess_cons (es_for (ps_for po rfl (ei_rng (pi_range1 (by rfl) (T_free_range KX G c) (pa_cons (ev_var (pv 2)) pa_nil))) (eg_nm (pg_name (i := 6) sc.nd rfl (by first | exact .inl rfl | exact .inr rfl))) (ess_one (es_for (ps_for po rfl (ei_rng (pi_range1 (by rfl) (T_free_range KX G c) (pa_cons (ev_var (pv 2)) pa_nil))) (eg_nm (pg_name (i := 7) sc.nd rfl (by first | exact .inl rfl | exact .inr rfl))) (ess_one (es_if (ps_if (et2 vo_ne (pt_cmpR (op_neD (room_u4 hr)) (ev2n vo_ix (pe_ix ix_seq (pv 4) (ev2 vo_ix (pe_ix ix_seq (ev2n vo_ix (pe_ix ix_seq (pv 0) (ev_var (pv 6)) (fun _ _ => rfl))) (ev_var (pv 7)) (fun _ _ => rfl))) (fun _ _ => rfl))) (ev2 vo_ix (pe_ix ix_seq (ev2n vo_ix (pe_ix ix_seq (pv 1) (ev2n vo_ix (pe_ix ix_seq (pv 4) (ev_var (pv 6)) (fun _ _ => rfl))) (fun _ _ => rfl))) (ev2n vo_ix (pe_ix ix_seq (pv 4) (ev_var (pv 7)) (fun _ _ => rfl))) (fun _ _ => rfl))) (nomark _))) (ess_one (es_set (ps_set (i := 5) sc.nd rfl (by first | exact Or.inl rfl | exact Or.inr rfl) (ev_bl pe_bl)))) ess_nil))))))))
    (ess_one (es_if (ps_if (et_tst (pt_val (ev_var (pv 5)))) (ess_one (es_expr (ps_expr (ev_append (pe_bm PySem.F.plainAttrs_list PySem.F.slot_list_append PySem.F.type_list_append mt_append (pv 3) (pa_cons (ev_var (pv 4)) pa_nil)))))) ess_nil)))))))
    (ess_one (es_ret (ps_ret (ev_frz (evN1n vn_sortedA (pe_callB cr_sortedA (by rfl) (T_free_sorted KX G c) (by decide +kernel) (pa_cons (pv 3) pa_nil)))))))))))
theorem sc_close : FnScope ["s", "known", "made", "at", "y", "left", "right", "product"] ["s", "known"] (defScope (topS 16)) := ⟨rfl, rfl, rfl, by decide +kernel, rfl, by decide +kernel, by decide +kernel⟩
theorem ok_close (KX : K.In h) (G : h.Ns mainGlobals mg) (c : Says fa fn xn ex K) : Fk PP w K mg base "close" 1 (He.fAd K ("close", none)) ["s", "known"] (spR1 ⟨K, mg, none, TK⟩ d_close) := by
  obtain ⟨fd, F⟩ := c.def_ 20 (d := dd_close) rfl
  have sc := sc_close
  refine ⟨⟨fd, fn_dataR1 F sc (by decide) fun cdv A outer s H E hr tk po => ?_, F.bindsN (ps := ["s", "known"]) fun _ _ _ _ _ _ us hl => match us, hl with | [_, _], _ => rfl⟩, He.glo_ok KX G (c.fact 43 (f := .glo "close") rfl), F.kp⟩
  exact (ess_cons (es_own (ps_set (i := 2) sc.nd rfl (by first | exact Or.inl rfl | exact Or.inr rfl) (evN_lst (pe_lst ea_nil'))))
    (ess_cons (es_set (ps_set (i := 3) sc.nd rfl (by first | exact Or.inl rfl | exact Or.inr rfl) (ev_int pe_int)))
    (ess_cons (es_while (ps_while po (et2 (vo_cmpI _) (pt_cmpR op_lt (ev_var (pv 3)) (evc1n vo_len (pe_callB call_lenD (by rfl) (T_free_len KX G c) (by decide +kernel) (pa_cons (pv 1) pa_nil))) (nomark _))) (ess_cons (es_for (ps_for po rfl (ei_any (pi_any (ev_frz (evN1 vn_list (pe_callTy call_list_of (by rfl) (T_free_list KX G c) (by decide +kernel) (pa_cons (ev_sln (pe_slice sl_D (pv 1) eo_none (eo_some (ev2 vo_add (pe_op op_addD (ev_var (pv 3)) (ev_int pe_int)))))) pa_nil)))))) (eg_nm (pg_name (i := 4) sc.nd rfl (by first | exact .inl rfl | exact .inr rfl))) (ess_one (es_for (ps_for po rfl (ei_any (pi_any (ev_tup (pe_tupN (ea_cons (ev_tup (pe_tupN (ea_cons (ev2n vo_ix (pe_ix ix_seq (pv 1) (ev_var (pv 3)) (fun _ _ => rfl))) (ea_cons (ev_var (pv 4)) ea_nil')))) (ea_cons (ev_tup (pe_tupN (ea_cons (ev_var (pv 4)) (ea_cons (ev2n vo_ix (pe_ix ix_seq (pv 1) (ev_var (pv 3)) (fun _ _ => rfl))) ea_nil')))) ea_nil')))))) (eg_nms (pg_tup rfl (pgs_cons (pg_name (i := 5) sc.nd rfl (by first | exact .inl rfl | exact .inr rfl)) (pgs_cons (pg_name (i := 6) sc.nd rfl (by first | exact .inl rfl | exact .inr rfl)) pgs_nil))) rfl) (ess_cons (es_set (ps_set (i := 7) sc.nd rfl (by first | exact Or.inl rfl | exact Or.inr rfl) (ev2 vo_ix (pe_ix ix_seq (ev2 vo_ix (pe_ix ix_seq (ev_fld (T_cls_Semigroup KX G c) (T_noat_Semigroup_table KX G c) (pe_fld (ev_var (pv 0)) rfl)) (ev_var (pv 5)) (fun _ _ => rfl))) (ev_var (pv 6)) (fun _ _ => rfl)))))
    (ess_one (es_if (ps_if (et2m vo_notin (pt_cmpR (op_notInA (room_u hr)) (ev_var (pv 7)) (pv 1) (by with_unfolding_all rfl))) (ess_cons (es_expr (ps_expr (ev_append (pe_bm PySem.F.plainAttrs_list PySem.F.slot_list_append PySem.F.type_list_append mt_append (pv 1) (pa_cons (ev_var (pv 7)) pa_nil)))))
    (ess_one (es_expr (ps_expr (ev_append (pe_bm PySem.F.plainAttrs_list PySem.F.slot_list_append PySem.F.type_list_append mt_append (pv 2) (pa_cons (ev_tup (pe_tupN (ea_cons (ev_var (pv 7)) (ea_cons (ev_var (pv 5)) (ea_cons (ev_var (pv 6)) ea_nil'))))) pa_nil))))))) ess_nil)))))))))
    (ess_one (es_aug (ps_aug (i := 3) sc.nd rfl (by first | exact Or.inl rfl | exact Or.inr rfl) (ev_int pe_int) ip_add))))))
    (ess_one (es_ret (ps_ret (ev_var (pv 2))))))))
theorem sc_closing : FnScope ["s", "known", "found", "x", "made"] ["s"] (defScope (topS 15)) := ⟨rfl, rfl, rfl, by decide +kernel, rfl, by decide +kernel, by decide +kernel⟩
theorem ok_closing (KX : K.In h) (G : h.Ns mainGlobals mg) (c : Says fa fn xn ex K) : Fk PP w K mg base "closing" 2 (He.fAd K ("closing", none)) ["s"] (spD ⟨K, mg, none, TK⟩ d_closing) := by
  obtain ⟨fd, F⟩ := c.def_ 21 (d := dd_closing) rfl
  have sc := sc_closing
  refine ⟨⟨fd, fn_data F sc (by decide) fun cdv A outer s H E hr tk po => ?_, F.bindsN (ps := ["s"]) fun _ _ _ _ _ _ us hl => match us, hl with | [_], _ => rfl⟩, He.glo_ok KX G (c.fact 44 (f := .glo "closing") rfl), F.kp⟩
  exact (ess_cons (es_own (ps_set (i := 1) sc.nd rfl (by first | exact Or.inl rfl | exact Or.inr rfl) (evN_lst (pe_lst ea_nil'))))
    (ess_cons (es_own (ps_set (i := 2) sc.nd rfl (by first | exact Or.inl rfl | exact Or.inr rfl) (evN_lst (pe_lst ea_nil'))))
    (ess_cons (es_for (ps_for po rfl (ei_rng (pi_range1 (by rfl) (T_free_range KX G c) (pa_cons (ev_fld (T_cls_Semigroup KX G c) (T_noat_Semigroup_n KX G c) (pe_fld (ev_var (pv 0)) rfl)) pa_nil))) (eg_nm (pg_name (i := 3) sc.nd rfl (by first | exact .inl rfl | exact .inr rfl))) (ess_one (es_if (ps_if (et2m vo_notin (pt_cmpR (op_notInA (room_u hr)) (ev_var (pv 3)) (pv 1) (by with_unfolding_all rfl))) (ess_cons (es_expr (ps_expr (ev_append (pe_bm PySem.F.plainAttrs_list PySem.F.slot_list_append PySem.F.type_list_append mt_append (pv 1) (pa_cons (ev_var (pv 3)) pa_nil)))))
    (ess_cons (es_set (ps_set (i := 4) sc.nd rfl (by first | exact Or.inl rfl | exact Or.inr rfl) (ev_callR1 (runR1_nox _ _ _) ((ok_close KX G c).pe (hr.mono (by decide)) (by rfl) tk (pa_cons (ev_var (pv 0)) (pa_cons (pv 1) pa_nil))))))
    (ess_one (es_expr (ps_expr (ev_append (pe_bm PySem.F.plainAttrs_list PySem.F.slot_list_append PySem.F.type_list_append mt_append (pv 2) (pa_cons (ev_tup (pe_tupN (ea_cons (ev_var (pv 3)) (ea_cons (evc1n vo_tuple (pe_callTy call_tupleN (by rfl) (T_free_tuple KX G c) (by decide +kernel) (pa_cons (pv 1) pa_nil))) (ea_cons (evc1n vo_tuple (pe_callTy call_tupleN (by rfl) (T_free_tuple KX G c) (by decide +kernel) (pa_cons (pv 4) pa_nil))) ea_nil'))))) pa_nil)))))))) ess_nil)))))
    (ess_one (es_ret (ps_ret (ev_var (pv 2))))))))
theorem sc_extended : FnScope ["a", "b", "images", "step", "y", "unlike", "x", "known", "made", "found", "product", "left", "right", "z"] ["a", "b", "images", "step", "y", "unlike"] (defScope (topS 17)) := ⟨rfl, rfl, rfl, by decide +kernel, rfl, by decide +kernel, by decide +kernel⟩
theorem ok_extended (KX : K.In h) (G : h.Ns mainGlobals mg) (c : Says fa fn xn ex K) : Fk PP w K mg base "extended" 1 (He.fAd K ("extended", none)) ["a", "b", "images", "step", "y", "unlike"] (spD ⟨K, mg, none, TK⟩ d_extended) := by
  obtain ⟨fd, F⟩ := c.def_ 22 (d := dd_extended) rfl
  have sc := sc_extended
  refine ⟨⟨fd, fn_data F sc (by decide) fun cdv A outer s H E hr tk po => ?_, F.bindsN (ps := ["a", "b", "images", "step", "y", "unlike"]) fun _ _ _ _ _ _ us hl => match us, hl with | [_, _, _, _, _, _], _ => rfl⟩, He.glo_ok KX G (c.fact 45 (f := .glo "extended") rfl), F.kp⟩
  exact (ess_cons (es_asg (ps_asg (ev_var (pv 3)) (eg_nms (pg_tup rfl (pgs_cons (pg_name (i := 6) sc.nd rfl (by first | exact .inl rfl | exact .inr rfl)) (pgs_cons (pg_name (i := 7) sc.nd rfl (by first | exact .inl rfl | exact .inr rfl)) (pgs_cons (pg_name (i := 8) sc.nd rfl (by first | exact .inl rfl | exact .inr rfl)) pgs_nil)))) rfl)))
    (ess_cons (es_own (ps_set (i := 9) sc.nd rfl (by first | exact Or.inl rfl | exact Or.inr rfl) (evN1n vn_list (pe_callTy call_list_of (by rfl) (T_free_list KX G c) (by decide +kernel) (pa_cons (pv 2) pa_nil)))))
    (ess_cons (es_store (ps_asg (ev_var (pv 4)) (pg_sub (pv 9) (ev_var (pv 6)) set_list)))
    (ess_cons (es_for (ps_for po rfl (ei_any (pi_any (ev_var (pv 8)))) (eg_nms (pg_tup rfl (pgs_cons (pg_name (i := 10) sc.nd rfl (by first | exact .inl rfl | exact .inr rfl)) (pgs_cons (pg_name (i := 11) sc.nd rfl (by first | exact .inl rfl | exact .inr rfl)) (pgs_cons (pg_name (i := 12) sc.nd rfl (by first | exact .inl rfl | exact .inr rfl)) pgs_nil)))) rfl) (ess_one (es_store (ps_asg (ev2 vo_ix (pe_ix ix_seq (ev2 vo_ix (pe_ix ix_seq (ev_fld (T_cls_Semigroup KX G c) (T_noat_Semigroup_table KX G c) (pe_fld (ev_var (pv 1)) rfl)) (ev2n vo_ix (pe_ix ix_seq (pv 9) (ev_var (pv 11)) (fun _ _ => rfl))) (fun _ _ => rfl))) (ev2n vo_ix (pe_ix ix_seq (pv 9) (ev_var (pv 12)) (fun _ _ => rfl))) (fun _ _ => rfl))) (pg_sub (pv 9) (ev_var (pv 10)) set_list))))))
    (ess_cons (es_for (ps_for po rfl (ei_any (pi_any (ev_var (pv 7)))) (eg_nm (pg_name (i := 11) sc.nd rfl (by first | exact .inl rfl | exact .inr rfl))) (ess_one (es_for (ps_for po rfl (ei_any (pi_any (ev_var (pv 7)))) (eg_nm (pg_name (i := 12) sc.nd rfl (by first | exact .inl rfl | exact .inr rfl))) (ess_one (es_if (ps_if (et2 vo_ne (pt_cmpR (op_neD (room_u4 hr)) (ev2n vo_ix (pe_ix ix_seq (pv 9) (ev2 vo_ix (pe_ix ix_seq (ev2 vo_ix (pe_ix ix_seq (ev_fld (T_cls_Semigroup KX G c) (T_noat_Semigroup_table KX G c) (pe_fld (ev_var (pv 0)) rfl)) (ev_var (pv 11)) (fun _ _ => rfl))) (ev_var (pv 12)) (fun _ _ => rfl))) (fun _ _ => rfl))) (ev2 vo_ix (pe_ix ix_seq (ev2 vo_ix (pe_ix ix_seq (ev_fld (T_cls_Semigroup KX G c) (T_noat_Semigroup_table KX G c) (pe_fld (ev_var (pv 1)) rfl)) (ev2n vo_ix (pe_ix ix_seq (pv 9) (ev_var (pv 11)) (fun _ _ => rfl))) (fun _ _ => rfl))) (ev2n vo_ix (pe_ix ix_seq (pv 9) (ev_var (pv 12)) (fun _ _ => rfl))) (fun _ _ => rfl))) (nomark _))) (ess_one (es_ret (ps_ret (ev_non pe_non)))) ess_nil))))))))
    (ess_cons (es_if (ps_if (PW.pt (et_and (pw_and (et_tst (pt_val (ev_var (pv 5)))) (pw_and1 (et2 vo_ne (pt_cmpR (op_neD (room_u4 hr)) (evc12 vo_lenSet (pe_callB cr_lenSet (by rfl) (T_free_len KX G c) (by decide +kernel) (pa_cons (pe_callTy (cr_setOI rfl) (by rfl) (T_free_set KX G c) (by decide +kernel) (pa_cons (ev_frz (ev_comp (pe_lc (own := [("z", 13)]) rfl sc.nd (ei_any (pi_any (ev_var (pv 7)))) (blkOk_by (own := [("z", 13)]) (by first | decide +kernel | rfl)) (fun _ _ _ _ _ => (eg_nm (pg_name (i := 13) sc.nd rfl (by first | exact .inl rfl | exact .inr rfl)))) (fun _ _ _ _ _ => ets_nil) (fun _ _ _ _ _ => (ev2n vo_ix (pe_ix ix_seq (pv 9) (ev_var (pv 13)) (fun _ _ => rfl))))))) pa_nil)) pa_nil))) (evc1n vo_len (pe_callB call_lenD (by rfl) (T_free_len KX G c) (by decide +kernel) (pa_cons (pv 7) pa_nil))) (nomark _))))))) (ess_one (es_ret (ps_ret (ev_non pe_non)))) ess_nil))
    (ess_one (es_ret (ps_ret (ev_var (pv 9)))))))))))
theorem sc_walk : GScope ["a", "b", "unlike", "steps", "waiting", "images", "at", "y", "more", "%"] ["a", "b", "unlike"] (defScope (topS 18)) := ⟨rfl, rfl, rfl, by decide +kernel, rfl, by decide +kernel, by decide +kernel⟩
theorem ok_walk (KX : K.In h) (G : h.Ns mainGlobals mg) (c : Says fa fn xn ex K) : Gk PP w K mg base "walk" 2 (He.fAd K ("walk", none)) ["a", "b", "unlike"] ⟨K, mg, none, TK⟩ d_walk := by
  obtain ⟨fd, F⟩ := c.def_ 23 (d := dd_walk) rfl
  have sc := sc_walk
  refine ⟨⟨fd, gfn_data F sc (by decide) (fun _ => rfl) ?_, F.bindsN (ps := ["a", "b", "unlike"]) fun _ _ _ _ _ _ us hl => match us, hl with | [_, _, _], _ => rfl⟩, He.glo_ok KX G (c.fact 46 (f := .glo "walk") rfl), F.kp⟩
  rintro ⟨_, _, env, A0, Aw, mem, _, _, all, hP, hw, he, hA, own⟩ rfl rfl rfl rfl hco hT
  exact ⟨(gs_cons (gs_plain (fun X hX => by obtain ⟨cdv, A, outer, s, H, pn, rfl, hr, tk⟩ := hT X hX; have po := own _ hX; exact (es_set (ps_set (i := 3) sc.nd rfl (by first | exact Or.inl rfl | exact Or.inr rfl) (ev_call ((ok_closing KX G c).pe (hr.mono (by decide)) (by rfl) tk (ea_cons (ev_var (pv 0)) ea_nil')))))) (KSt.keeps (show KSt 9 g1_walk from by unfold g1_walk; repeat (first | exact kd_ret | exact kd_lift | exact kd_liftM | exact kd_rd | exact kd_ow | exact kd_int | exact kd_var (by decide) | exact kd_setOw (by decide) | exact ks_nx | exact ks_stuck | exact ks_put (by decide) | refine ks_for (by decide) ?_ ?_ | refine ks_if ?_ ?_ ?_ | refine ks_seq ?_ ?_ | refine ks_asg (by decide) ?_ | refine ks_bind ?_ (fun _ => ?_) | refine kd_bind ?_ (fun _ => ?_) | refine ks_ite ?_ ?_ | refine kd_ite ?_ ?_))) (KSt.flow (show KSt 9 g1_walk from by unfold g1_walk; repeat (first | exact kd_ret | exact kd_lift | exact kd_liftM | exact kd_rd | exact kd_ow | exact kd_int | exact kd_var (by decide) | exact kd_setOw (by decide) | exact ks_nx | exact ks_stuck | exact ks_put (by decide) | refine ks_for (by decide) ?_ ?_ | refine ks_if ?_ ?_ ?_ | refine ks_seq ?_ ?_ | refine ks_asg (by decide) ?_ | refine ks_bind ?_ (fun _ => ?_) | refine kd_bind ?_ (fun _ => ?_) | refine ks_ite ?_ ?_ | refine kd_ite ?_ ?_))))
    (gs_cons (gs_plain (fun X hX => by obtain ⟨cdv, A, outer, s, H, pn, rfl, hr, tk⟩ := hT X hX; have po := own _ hX; exact (es_own (ps_set (i := 4) sc.nd rfl (by first | exact Or.inl rfl | exact Or.inr rfl) (evN_lst (pe_lst (ea_cons (ev_tup (pe_tupN (ea_cons (ev_frz (evN2 vn_mul (pe_op op_mulD (ev_frz (evN_lst (pe_lst (ea_cons (ev1 vo_neg (pe_un un_neg (ev_int pe_int))) ea_nil')))) (ev_fld (T_cls_Semigroup KX G c) (T_noat_Semigroup_n KX G c) (pe_fld (ev_var (pv 0)) rfl))))) (ea_cons (ev_int pe_int) ea_nil')))) ea_nil')))))) (KSt.keeps (show KSt 9 g2_walk from by unfold g2_walk; repeat (first | exact kd_ret | exact kd_lift | exact kd_liftM | exact kd_rd | exact kd_ow | exact kd_int | exact kd_var (by decide) | exact kd_setOw (by decide) | exact ks_nx | exact ks_stuck | exact ks_put (by decide) | refine ks_for (by decide) ?_ ?_ | refine ks_if ?_ ?_ ?_ | refine ks_seq ?_ ?_ | refine ks_asg (by decide) ?_ | refine ks_bind ?_ (fun _ => ?_) | refine kd_bind ?_ (fun _ => ?_) | refine ks_ite ?_ ?_ | refine kd_ite ?_ ?_))) (KSt.flow (show KSt 9 g2_walk from by unfold g2_walk; repeat (first | exact kd_ret | exact kd_lift | exact kd_liftM | exact kd_rd | exact kd_ow | exact kd_int | exact kd_var (by decide) | exact kd_setOw (by decide) | exact ks_nx | exact ks_stuck | exact ks_put (by decide) | refine ks_for (by decide) ?_ ?_ | refine ks_if ?_ ?_ ?_ | refine ks_seq ?_ ?_ | refine ks_asg (by decide) ?_ | refine ks_bind ?_ (fun _ => ?_) | refine kd_bind ?_ (fun _ => ?_) | refine ks_ite ?_ ?_ | refine kd_ite ?_ ?_))))
    (gs_one (gs_while (fun X hX => by obtain ⟨cdv, A, outer, s, H, pn, rfl, hr, tk⟩ := hT X hX; have po := own _ hX; exact (et2 (vo_cmpI _) (pt_cmpR op_gt (evc1n vo_len (pe_callB call_lenD (by rfl) (T_free_len KX G c) (by decide +kernel) (pa_cons (pv 4) pa_nil))) (ev_int pe_int) (nomark _)))) (show KD 9 t1_walk from by unfold t1_walk; repeat (first | exact kd_ret | exact kd_lift | exact kd_liftM | exact kd_rd | exact kd_ow | exact kd_int | exact kd_var (by decide) | exact kd_setOw (by decide) | exact ks_nx | exact ks_stuck | exact ks_put (by decide) | refine ks_for (by decide) ?_ ?_ | refine ks_if ?_ ?_ ?_ | refine ks_seq ?_ ?_ | refine ks_asg (by decide) ?_ | refine ks_bind ?_ (fun _ => ?_) | refine kd_bind ?_ (fun _ => ?_) | refine ks_ite ?_ ?_ | refine kd_ite ?_ ?_))
    (gs_cons (gs_plain (fun X hX => by obtain ⟨cdv, A, outer, s, H, pn, rfl, hr, tk⟩ := hT X hX; have po := own _ hX; exact (es_asg (ps_asg (ev_pop (pe_bm0 PySem.F.plainAttrs_list PySem.F.slot_list_pop PySem.F.type_list_pop mt_pop (pv 4))) (eg_nms (pg_tup rfl (pgs_cons (pg_name (i := 5) sc.nd rfl (by first | exact .inl rfl | exact .inr rfl)) (pgs_cons (pg_name (i := 6) sc.nd rfl (by first | exact .inl rfl | exact .inr rfl)) pgs_nil))) rfl)))) (KSt.keeps (show KSt 9 g3_walk from by unfold g3_walk; repeat (first | exact kd_ret | exact kd_lift | exact kd_liftM | exact kd_rd | exact kd_ow | exact kd_int | exact kd_var (by decide) | exact kd_setOw (by decide) | exact ks_nx | exact ks_stuck | exact ks_put (by decide) | refine ks_for (by decide) ?_ ?_ | refine ks_if ?_ ?_ ?_ | refine ks_seq ?_ ?_ | refine ks_asg (by decide) ?_ | refine ks_bind ?_ (fun _ => ?_) | refine kd_bind ?_ (fun _ => ?_) | refine ks_ite ?_ ?_ | refine kd_ite ?_ ?_))) (KSt.flow (show KSt 9 g3_walk from by unfold g3_walk; repeat (first | exact kd_ret | exact kd_lift | exact kd_liftM | exact kd_rd | exact kd_ow | exact kd_int | exact kd_var (by decide) | exact kd_setOw (by decide) | exact ks_nx | exact ks_stuck | exact ks_put (by decide) | refine ks_for (by decide) ?_ ?_ | refine ks_if ?_ ?_ ?_ | refine ks_seq ?_ ?_ | refine ks_asg (by decide) ?_ | refine ks_bind ?_ (fun _ => ?_) | refine kd_bind ?_ (fun _ => ?_) | refine ks_ite ?_ ?_ | refine kd_ite ?_ ?_))))
    (gs_one (gs_if (fun X hX => by obtain ⟨cdv, A, outer, s, H, pn, rfl, hr, tk⟩ := hT X hX; have po := own _ hX; exact (et2 vo_eq (pt_cmpR (op_eqD (room_u4 hr)) (ev_var (pv 6)) (evc1n vo_len (pe_callB call_lenD (by rfl) (T_free_len KX G c) (by decide +kernel) (pa_cons (pv 3) pa_nil))) (nomark _)))) (show KD 9 t2_walk from by unfold t2_walk; repeat (first | exact kd_ret | exact kd_lift | exact kd_liftM | exact kd_rd | exact kd_ow | exact kd_int | exact kd_var (by decide) | exact kd_setOw (by decide) | exact ks_nx | exact ks_stuck | exact ks_put (by decide) | refine ks_for (by decide) ?_ ?_ | refine ks_if ?_ ?_ ?_ | refine ks_seq ?_ ?_ | refine ks_asg (by decide) ?_ | refine ks_bind ?_ (fun _ => ?_) | refine kd_bind ?_ (fun _ => ?_) | refine ks_ite ?_ ?_ | refine kd_ite ?_ ?_))
    (gs_one (gs_yield (fun X hX => by obtain ⟨cdv, A, outer, s, H, pn, rfl, hr, tk⟩ := hT X hX; have po := own _ hX; exact (evc1n vo_tuple (pe_callTy call_tupleN (by rfl) (T_free_tuple KX G c) (by decide +kernel) (pa_cons (pv 5) pa_nil)))) (show KD 9 y1_walk from by unfold y1_walk; repeat (first | exact kd_ret | exact kd_lift | exact kd_liftM | exact kd_rd | exact kd_ow | exact kd_int | exact kd_var (by decide) | exact kd_setOw (by decide) | exact ks_nx | exact ks_stuck | exact ks_put (by decide) | refine ks_for (by decide) ?_ ?_ | refine ks_if ?_ ?_ ?_ | refine ks_seq ?_ ?_ | refine ks_asg (by decide) ?_ | refine ks_bind ?_ (fun _ => ?_) | refine kd_bind ?_ (fun _ => ?_) | refine ks_ite ?_ ?_ | refine kd_ite ?_ ?_)) hco) (Mono.yield (show KD 9 y1_walk from by unfold y1_walk; repeat (first | exact kd_ret | exact kd_lift | exact kd_liftM | exact kd_rd | exact kd_ow | exact kd_int | exact kd_var (by decide) | exact kd_setOw (by decide) | exact ks_nx | exact ks_stuck | exact ks_put (by decide) | refine ks_for (by decide) ?_ ?_ | refine ks_if ?_ ?_ ?_ | refine ks_seq ?_ ?_ | refine ks_asg (by decide) ?_ | refine ks_bind ?_ (fun _ => ?_) | refine kd_bind ?_ (fun _ => ?_) | refine ks_ite ?_ ?_ | refine kd_ite ?_ ?_))))
    (gs_one (gs_plain (fun X hX => by obtain ⟨cdv, A, outer, s, H, pn, rfl, hr, tk⟩ := hT X hX; have po := own _ hX; exact (es_for (ps_for po rfl (ei_rng3 (pi_range3 (by rfl) (T_free_range KX G c) (pa_cons (ev2 vo_sub (pe_op op_sub (ev_fld (T_cls_Semigroup KX G c) (T_noat_Semigroup_n KX G c) (pe_fld (ev_var (pv 1)) rfl)) (ev_int pe_int))) (pa_cons (ev1 vo_neg (pe_un un_neg (ev_int pe_int))) (pa_cons (ev1 vo_neg (pe_un un_neg (ev_int pe_int))) pa_nil))))) (eg_nm (pg_name (i := 7) sc.nd rfl (by first | exact .inl rfl | exact .inr rfl))) (ess_cons (es_set (ps_set (i := 8) sc.nd rfl (by first | exact Or.inl rfl | exact Or.inr rfl) (ev_call ((ok_extended KX G c).pe (hr.mono (by decide)) (by rfl) tk (ea_cons (ev_var (pv 0)) (ea_cons (ev_var (pv 1)) (ea_cons (ev_var (pv 5)) (ea_cons (ev2n vo_ix (pe_ix ix_seq (pv 3) (ev_var (pv 6)) (fun _ _ => rfl))) (ea_cons (ev_var (pv 7)) (ea_cons (ev_var (pv 2)) ea_nil'))))))))))
    (ess_one (es_if (ps_if (et2 vo_isnot (pt_cmpR op_isNotD (ev_var (pv 8)) (ev_non pe_non) (nomark _))) (ess_one (es_expr (ps_expr (ev_append (pe_bm PySem.F.plainAttrs_list PySem.F.slot_list_append PySem.F.type_list_append mt_append (pv 4) (pa_cons (ev_tup (pe_tupN (ea_cons (ev_var (pv 8)) (ea_cons (ev2 vo_add (pe_op op_addD (ev_var (pv 6)) (ev_int pe_int))) ea_nil')))) pa_nil)))))) ess_nil))))))) (KSt.keeps (show KSt 9 g4_walk from by unfold g4_walk; repeat (first | exact kd_ret | exact kd_lift | exact kd_liftM | exact kd_rd | exact kd_ow | exact kd_int | exact kd_var (by decide) | exact kd_setOw (by decide) | exact ks_nx | exact ks_stuck | exact ks_put (by decide) | refine ks_for (by decide) ?_ ?_ | refine ks_if ?_ ?_ ?_ | refine ks_seq ?_ ?_ | refine ks_asg (by decide) ?_ | refine ks_bind ?_ (fun _ => ?_) | refine kd_bind ?_ (fun _ => ?_) | refine ks_ite ?_ ?_ | refine kd_ite ?_ ?_))) (KSt.flow (show KSt 9 g4_walk from by unfold g4_walk; repeat (first | exact kd_ret | exact kd_lift | exact kd_liftM | exact kd_rd | exact kd_ow | exact kd_int | exact kd_var (by decide) | exact kd_setOw (by decide) | exact ks_nx | exact ks_stuck | exact ks_put (by decide) | refine ks_for (by decide) ?_ ?_ | refine ks_if ?_ ?_ ?_ | refine ks_seq ?_ ?_ | refine ks_asg (by decide) ?_ | refine ks_bind ?_ (fun _ => ?_) | refine kd_bind ?_ (fun _ => ?_) | refine ks_ite ?_ ?_ | refine kd_ite ?_ ?_)))) (KSt.keeps (show KSt 9 g4_walk from by unfold g4_walk; repeat (first | exact kd_ret | exact kd_lift | exact kd_liftM | exact kd_rd | exact kd_ow | exact kd_int | exact kd_var (by decide) | exact kd_setOw (by decide) | exact ks_nx | exact ks_stuck | exact ks_put (by decide) | refine ks_for (by decide) ?_ ?_ | refine ks_if ?_ ?_ ?_ | refine ks_seq ?_ ?_ | refine ks_asg (by decide) ?_ | refine ks_bind ?_ (fun _ => ?_) | refine kd_bind ?_ (fun _ => ?_) | refine ks_ite ?_ ?_ | refine kd_ite ?_ ?_))).mono)) (Mono.sif (show KD 9 t2_walk from by unfold t2_walk; repeat (first | exact kd_ret | exact kd_lift | exact kd_liftM | exact kd_rd | exact kd_ow | exact kd_int | exact kd_var (by decide) | exact kd_setOw (by decide) | exact ks_nx | exact ks_stuck | exact ks_put (by decide) | refine ks_for (by decide) ?_ ?_ | refine ks_if ?_ ?_ ?_ | refine ks_seq ?_ ?_ | refine ks_asg (by decide) ?_ | refine ks_bind ?_ (fun _ => ?_) | refine kd_bind ?_ (fun _ => ?_) | refine ks_ite ?_ ?_ | refine kd_ite ?_ ?_)) (Mono.yield (show KD 9 y1_walk from by unfold y1_walk; repeat (first | exact kd_ret | exact kd_lift | exact kd_liftM | exact kd_rd | exact kd_ow | exact kd_int | exact kd_var (by decide) | exact kd_setOw (by decide) | exact ks_nx | exact ks_stuck | exact ks_put (by decide) | refine ks_for (by decide) ?_ ?_ | refine ks_if ?_ ?_ ?_ | refine ks_seq ?_ ?_ | refine ks_asg (by decide) ?_ | refine ks_bind ?_ (fun _ => ?_) | refine kd_bind ?_ (fun _ => ?_) | refine ks_ite ?_ ?_ | refine kd_ite ?_ ?_))) (KSt.keeps (show KSt 9 g4_walk from by unfold g4_walk; repeat (first | exact kd_ret | exact kd_lift | exact kd_liftM | exact kd_rd | exact kd_ow | exact kd_int | exact kd_var (by decide) | exact kd_setOw (by decide) | exact ks_nx | exact ks_stuck | exact ks_put (by decide) | refine ks_for (by decide) ?_ ?_ | refine ks_if ?_ ?_ ?_ | refine ks_seq ?_ ?_ | refine ks_asg (by decide) ?_ | refine ks_bind ?_ (fun _ => ?_) | refine kd_bind ?_ (fun _ => ?_) | refine ks_ite ?_ ?_ | refine kd_ite ?_ ?_))).mono)) (KSt.keeps (show KSt 9 g3_walk from by unfold g3_walk; repeat (first | exact kd_ret | exact kd_lift | exact kd_liftM | exact kd_rd | exact kd_ow | exact kd_int | exact kd_var (by decide) | exact kd_setOw (by decide) | exact ks_nx | exact ks_stuck | exact ks_put (by decide) | refine ks_for (by decide) ?_ ?_ | refine ks_if ?_ ?_ ?_ | refine ks_seq ?_ ?_ | refine ks_asg (by decide) ?_ | refine ks_bind ?_ (fun _ => ?_) | refine kd_bind ?_ (fun _ => ?_) | refine ks_ite ?_ ?_ | refine kd_ite ?_ ?_))).mono (Mono.sif (show KD 9 t2_walk from by unfold t2_walk; repeat (first | exact kd_ret | exact kd_lift | exact kd_liftM | exact kd_rd | exact kd_ow | exact kd_int | exact kd_var (by decide) | exact kd_setOw (by decide) | exact ks_nx | exact ks_stuck | exact ks_put (by decide) | refine ks_for (by decide) ?_ ?_ | refine ks_if ?_ ?_ ?_ | refine ks_seq ?_ ?_ | refine ks_asg (by decide) ?_ | refine ks_bind ?_ (fun _ => ?_) | refine kd_bind ?_ (fun _ => ?_) | refine ks_ite ?_ ?_ | refine kd_ite ?_ ?_)) (Mono.yield (show KD 9 y1_walk from by unfold y1_walk; repeat (first | exact kd_ret | exact kd_lift | exact kd_liftM | exact kd_rd | exact kd_ow | exact kd_int | exact kd_var (by decide) | exact kd_setOw (by decide) | exact ks_nx | exact ks_stuck | exact ks_put (by decide) | refine ks_for (by decide) ?_ ?_ | refine ks_if ?_ ?_ ?_ | refine ks_seq ?_ ?_ | refine ks_asg (by decide) ?_ | refine ks_bind ?_ (fun _ => ?_) | refine kd_bind ?_ (fun _ => ?_) | refine ks_ite ?_ ?_ | refine kd_ite ?_ ?_))) (KSt.keeps (show KSt 9 g4_walk from by unfold g4_walk; repeat (first | exact kd_ret | exact kd_lift | exact kd_liftM | exact kd_rd | exact kd_ow | exact kd_int | exact kd_var (by decide) | exact kd_setOw (by decide) | exact ks_nx | exact ks_stuck | exact ks_put (by decide) | refine ks_for (by decide) ?_ ?_ | refine ks_if ?_ ?_ ?_ | refine ks_seq ?_ ?_ | refine ks_asg (by decide) ?_ | refine ks_bind ?_ (fun _ => ?_) | refine kd_bind ?_ (fun _ => ?_) | refine ks_ite ?_ ?_ | refine kd_ite ?_ ?_))).mono)) (Mono.seq (KSt.keeps (show KSt 9 g3_walk from by unfold g3_walk; repeat (first | exact kd_ret | exact kd_lift | exact kd_liftM | exact kd_rd | exact kd_ow | exact kd_int | exact kd_var (by decide) | exact kd_setOw (by decide) | exact ks_nx | exact ks_stuck | exact ks_put (by decide) | refine ks_for (by decide) ?_ ?_ | refine ks_if ?_ ?_ ?_ | refine ks_seq ?_ ?_ | refine ks_asg (by decide) ?_ | refine ks_bind ?_ (fun _ => ?_) | refine kd_bind ?_ (fun _ => ?_) | refine ks_ite ?_ ?_ | refine kd_ite ?_ ?_))).mono (Mono.sif (show KD 9 t2_walk from by unfold t2_walk; repeat (first | exact kd_ret | exact kd_lift | exact kd_liftM | exact kd_rd | exact kd_ow | exact kd_int | exact kd_var (by decide) | exact kd_setOw (by decide) | exact ks_nx | exact ks_stuck | exact ks_put (by decide) | refine ks_for (by decide) ?_ ?_ | refine ks_if ?_ ?_ ?_ | refine ks_seq ?_ ?_ | refine ks_asg (by decide) ?_ | refine ks_bind ?_ (fun _ => ?_) | refine kd_bind ?_ (fun _ => ?_) | refine ks_ite ?_ ?_ | refine kd_ite ?_ ?_)) (Mono.yield (show KD 9 y1_walk from by unfold y1_walk; repeat (first | exact kd_ret | exact kd_lift | exact kd_liftM | exact kd_rd | exact kd_ow | exact kd_int | exact kd_var (by decide) | exact kd_setOw (by decide) | exact ks_nx | exact ks_stuck | exact ks_put (by decide) | refine ks_for (by decide) ?_ ?_ | refine ks_if ?_ ?_ ?_ | refine ks_seq ?_ ?_ | refine ks_asg (by decide) ?_ | refine ks_bind ?_ (fun _ => ?_) | refine kd_bind ?_ (fun _ => ?_) | refine ks_ite ?_ ?_ | refine kd_ite ?_ ?_))) (KSt.keeps (show KSt 9 g4_walk from by unfold g4_walk; repeat (first | exact kd_ret | exact kd_lift | exact kd_liftM | exact kd_rd | exact kd_ow | exact kd_int | exact kd_var (by decide) | exact kd_setOw (by decide) | exact ks_nx | exact ks_stuck | exact ks_put (by decide) | refine ks_for (by decide) ?_ ?_ | refine ks_if ?_ ?_ ?_ | refine ks_seq ?_ ?_ | refine ks_asg (by decide) ?_ | refine ks_bind ?_ (fun _ => ?_) | refine kd_bind ?_ (fun _ => ?_) | refine ks_ite ?_ ?_ | refine kd_ite ?_ ?_))).mono)) (fl_seq (KSt.flow (show KSt 9 g3_walk from by unfold g3_walk; repeat (first | exact kd_ret | exact kd_lift | exact kd_liftM | exact kd_rd | exact kd_ow | exact kd_int | exact kd_var (by decide) | exact kd_setOw (by decide) | exact ks_nx | exact ks_stuck | exact ks_put (by decide) | refine ks_for (by decide) ?_ ?_ | refine ks_if ?_ ?_ ?_ | refine ks_seq ?_ ?_ | refine ks_asg (by decide) ?_ | refine ks_bind ?_ (fun _ => ?_) | refine kd_bind ?_ (fun _ => ?_) | refine ks_ite ?_ ?_ | refine kd_ite ?_ ?_))) (fl_if fl_yield (KSt.flow (show KSt 9 g4_walk from by unfold g4_walk; repeat (first | exact kd_ret | exact kd_lift | exact kd_liftM | exact kd_rd | exact kd_ow | exact kd_int | exact kd_var (by decide) | exact kd_setOw (by decide) | exact ks_nx | exact ks_stuck | exact ks_put (by decide) | refine ks_for (by decide) ?_ ?_ | refine ks_if ?_ ?_ ?_ | refine ks_seq ?_ ?_ | refine ks_asg (by decide) ?_ | refine ks_bind ?_ (fun _ => ?_) | refine kd_bind ?_ (fun _ => ?_) | refine ks_ite ?_ ?_ | refine kd_ite ?_ ?_)))))) (Mono.swhile (show KD 9 t1_walk from by unfold t1_walk; repeat (first | exact kd_ret | exact kd_lift | exact kd_liftM | exact kd_rd | exact kd_ow | exact kd_int | exact kd_var (by decide) | exact kd_setOw (by decide) | exact ks_nx | exact ks_stuck | exact ks_put (by decide) | refine ks_for (by decide) ?_ ?_ | refine ks_if ?_ ?_ ?_ | refine ks_seq ?_ ?_ | refine ks_asg (by decide) ?_ | refine ks_bind ?_ (fun _ => ?_) | refine kd_bind ?_ (fun _ => ?_) | refine ks_ite ?_ ?_ | refine kd_ite ?_ ?_)) (Mono.seq (KSt.keeps (show KSt 9 g3_walk from by unfold g3_walk; repeat (first | exact kd_ret | exact kd_lift | exact kd_liftM | exact kd_rd | exact kd_ow | exact kd_int | exact kd_var (by decide) | exact kd_setOw (by decide) | exact ks_nx | exact ks_stuck | exact ks_put (by decide) | refine ks_for (by decide) ?_ ?_ | refine ks_if ?_ ?_ ?_ | refine ks_seq ?_ ?_ | refine ks_asg (by decide) ?_ | refine ks_bind ?_ (fun _ => ?_) | refine kd_bind ?_ (fun _ => ?_) | refine ks_ite ?_ ?_ | refine kd_ite ?_ ?_))).mono (Mono.sif (show KD 9 t2_walk from by unfold t2_walk; repeat (first | exact kd_ret | exact kd_lift | exact kd_liftM | exact kd_rd | exact kd_ow | exact kd_int | exact kd_var (by decide) | exact kd_setOw (by decide) | exact ks_nx | exact ks_stuck | exact ks_put (by decide) | refine ks_for (by decide) ?_ ?_ | refine ks_if ?_ ?_ ?_ | refine ks_seq ?_ ?_ | refine ks_asg (by decide) ?_ | refine ks_bind ?_ (fun _ => ?_) | refine kd_bind ?_ (fun _ => ?_) | refine ks_ite ?_ ?_ | refine kd_ite ?_ ?_)) (Mono.yield (show KD 9 y1_walk from by unfold y1_walk; repeat (first | exact kd_ret | exact kd_lift | exact kd_liftM | exact kd_rd | exact kd_ow | exact kd_int | exact kd_var (by decide) | exact kd_setOw (by decide) | exact ks_nx | exact ks_stuck | exact ks_put (by decide) | refine ks_for (by decide) ?_ ?_ | refine ks_if ?_ ?_ ?_ | refine ks_seq ?_ ?_ | refine ks_asg (by decide) ?_ | refine ks_bind ?_ (fun _ => ?_) | refine kd_bind ?_ (fun _ => ?_) | refine ks_ite ?_ ?_ | refine kd_ite ?_ ?_))) (KSt.keeps (show KSt 9 g4_walk from by unfold g4_walk; repeat (first | exact kd_ret | exact kd_lift | exact kd_liftM | exact kd_rd | exact kd_ow | exact kd_int | exact kd_var (by decide) | exact kd_setOw (by decide) | exact ks_nx | exact ks_stuck | exact ks_put (by decide) | refine ks_for (by decide) ?_ ?_ | refine ks_if ?_ ?_ ?_ | refine ks_seq ?_ ?_ | refine ks_asg (by decide) ?_ | refine ks_bind ?_ (fun _ => ?_) | refine kd_bind ?_ (fun _ => ?_) | refine ks_ite ?_ ?_ | refine kd_ite ?_ ?_))).mono)) _)) (KSt.keeps (show KSt 9 g2_walk from by unfold g2_walk; repeat (first | exact kd_ret | exact kd_lift | exact kd_liftM | exact kd_rd | exact kd_ow | exact kd_int | exact kd_var (by decide) | exact kd_setOw (by decide) | exact ks_nx | exact ks_stuck | exact ks_put (by decide) | refine ks_for (by decide) ?_ ?_ | refine ks_if ?_ ?_ ?_ | refine ks_seq ?_ ?_ | refine ks_asg (by decide) ?_ | refine ks_bind ?_ (fun _ => ?_) | refine kd_bind ?_ (fun _ => ?_) | refine ks_ite ?_ ?_ | refine kd_ite ?_ ?_))).mono (Mono.swhile (show KD 9 t1_walk from by unfold t1_walk; repeat (first | exact kd_ret | exact kd_lift | exact kd_liftM | exact kd_rd | exact kd_ow | exact kd_int | exact kd_var (by decide) | exact kd_setOw (by decide) | exact ks_nx | exact ks_stuck | exact ks_put (by decide) | refine ks_for (by decide) ?_ ?_ | refine ks_if ?_ ?_ ?_ | refine ks_seq ?_ ?_ | refine ks_asg (by decide) ?_ | refine ks_bind ?_ (fun _ => ?_) | refine kd_bind ?_ (fun _ => ?_) | refine ks_ite ?_ ?_ | refine kd_ite ?_ ?_)) (Mono.seq (KSt.keeps (show KSt 9 g3_walk from by unfold g3_walk; repeat (first | exact kd_ret | exact kd_lift | exact kd_liftM | exact kd_rd | exact kd_ow | exact kd_int | exact kd_var (by decide) | exact kd_setOw (by decide) | exact ks_nx | exact ks_stuck | exact ks_put (by decide) | refine ks_for (by decide) ?_ ?_ | refine ks_if ?_ ?_ ?_ | refine ks_seq ?_ ?_ | refine ks_asg (by decide) ?_ | refine ks_bind ?_ (fun _ => ?_) | refine kd_bind ?_ (fun _ => ?_) | refine ks_ite ?_ ?_ | refine kd_ite ?_ ?_))).mono (Mono.sif (show KD 9 t2_walk from by unfold t2_walk; repeat (first | exact kd_ret | exact kd_lift | exact kd_liftM | exact kd_rd | exact kd_ow | exact kd_int | exact kd_var (by decide) | exact kd_setOw (by decide) | exact ks_nx | exact ks_stuck | exact ks_put (by decide) | refine ks_for (by decide) ?_ ?_ | refine ks_if ?_ ?_ ?_ | refine ks_seq ?_ ?_ | refine ks_asg (by decide) ?_ | refine ks_bind ?_ (fun _ => ?_) | refine kd_bind ?_ (fun _ => ?_) | refine ks_ite ?_ ?_ | refine kd_ite ?_ ?_)) (Mono.yield (show KD 9 y1_walk from by unfold y1_walk; repeat (first | exact kd_ret | exact kd_lift | exact kd_liftM | exact kd_rd | exact kd_ow | exact kd_int | exact kd_var (by decide) | exact kd_setOw (by decide) | exact ks_nx | exact ks_stuck | exact ks_put (by decide) | refine ks_for (by decide) ?_ ?_ | refine ks_if ?_ ?_ ?_ | refine ks_seq ?_ ?_ | refine ks_asg (by decide) ?_ | refine ks_bind ?_ (fun _ => ?_) | refine kd_bind ?_ (fun _ => ?_) | refine ks_ite ?_ ?_ | refine kd_ite ?_ ?_))) (KSt.keeps (show KSt 9 g4_walk from by unfold g4_walk; repeat (first | exact kd_ret | exact kd_lift | exact kd_liftM | exact kd_rd | exact kd_ow | exact kd_int | exact kd_var (by decide) | exact kd_setOw (by decide) | exact ks_nx | exact ks_stuck | exact ks_put (by decide) | refine ks_for (by decide) ?_ ?_ | refine ks_if ?_ ?_ ?_ | refine ks_seq ?_ ?_ | refine ks_asg (by decide) ?_ | refine ks_bind ?_ (fun _ => ?_) | refine kd_bind ?_ (fun _ => ?_) | refine ks_ite ?_ ?_ | refine kd_ite ?_ ?_))).mono)) _)) (KSt.keeps (show KSt 9 g1_walk from by unfold g1_walk; repeat (first | exact kd_ret | exact kd_lift | exact kd_liftM | exact kd_rd | exact kd_ow | exact kd_int | exact kd_var (by decide) | exact kd_setOw (by decide) | exact ks_nx | exact ks_stuck | exact ks_put (by decide) | refine ks_for (by decide) ?_ ?_ | refine ks_if ?_ ?_ ?_ | refine ks_seq ?_ ?_ | refine ks_asg (by decide) ?_ | refine ks_bind ?_ (fun _ => ?_) | refine kd_bind ?_ (fun _ => ?_) | refine ks_ite ?_ ?_ | refine kd_ite ?_ ?_))).mono (Mono.seq (KSt.keeps (show KSt 9 g2_walk from by unfold g2_walk; repeat (first | exact kd_ret | exact kd_lift | exact kd_liftM | exact kd_rd | exact kd_ow | exact kd_int | exact kd_var (by decide) | exact kd_setOw (by decide) | exact ks_nx | exact ks_stuck | exact ks_put (by decide) | refine ks_for (by decide) ?_ ?_ | refine ks_if ?_ ?_ ?_ | refine ks_seq ?_ ?_ | refine ks_asg (by decide) ?_ | refine ks_bind ?_ (fun _ => ?_) | refine kd_bind ?_ (fun _ => ?_) | refine ks_ite ?_ ?_ | refine kd_ite ?_ ?_))).mono (Mono.swhile (show KD 9 t1_walk from by unfold t1_walk; repeat (first | exact kd_ret | exact kd_lift | exact kd_liftM | exact kd_rd | exact kd_ow | exact kd_int | exact kd_var (by decide) | exact kd_setOw (by decide) | exact ks_nx | exact ks_stuck | exact ks_put (by decide) | refine ks_for (by decide) ?_ ?_ | refine ks_if ?_ ?_ ?_ | refine ks_seq ?_ ?_ | refine ks_asg (by decide) ?_ | refine ks_bind ?_ (fun _ => ?_) | refine kd_bind ?_ (fun _ => ?_) | refine ks_ite ?_ ?_ | refine kd_ite ?_ ?_)) (Mono.seq (KSt.keeps (show KSt 9 g3_walk from by unfold g3_walk; repeat (first | exact kd_ret | exact kd_lift | exact kd_liftM | exact kd_rd | exact kd_ow | exact kd_int | exact kd_var (by decide) | exact kd_setOw (by decide) | exact ks_nx | exact ks_stuck | exact ks_put (by decide) | refine ks_for (by decide) ?_ ?_ | refine ks_if ?_ ?_ ?_ | refine ks_seq ?_ ?_ | refine ks_asg (by decide) ?_ | refine ks_bind ?_ (fun _ => ?_) | refine kd_bind ?_ (fun _ => ?_) | refine ks_ite ?_ ?_ | refine kd_ite ?_ ?_))).mono (Mono.sif (show KD 9 t2_walk from by unfold t2_walk; repeat (first | exact kd_ret | exact kd_lift | exact kd_liftM | exact kd_rd | exact kd_ow | exact kd_int | exact kd_var (by decide) | exact kd_setOw (by decide) | exact ks_nx | exact ks_stuck | exact ks_put (by decide) | refine ks_for (by decide) ?_ ?_ | refine ks_if ?_ ?_ ?_ | refine ks_seq ?_ ?_ | refine ks_asg (by decide) ?_ | refine ks_bind ?_ (fun _ => ?_) | refine kd_bind ?_ (fun _ => ?_) | refine ks_ite ?_ ?_ | refine kd_ite ?_ ?_)) (Mono.yield (show KD 9 y1_walk from by unfold y1_walk; repeat (first | exact kd_ret | exact kd_lift | exact kd_liftM | exact kd_rd | exact kd_ow | exact kd_int | exact kd_var (by decide) | exact kd_setOw (by decide) | exact ks_nx | exact ks_stuck | exact ks_put (by decide) | refine ks_for (by decide) ?_ ?_ | refine ks_if ?_ ?_ ?_ | refine ks_seq ?_ ?_ | refine ks_asg (by decide) ?_ | refine ks_bind ?_ (fun _ => ?_) | refine kd_bind ?_ (fun _ => ?_) | refine ks_ite ?_ ?_ | refine kd_ite ?_ ?_))) (KSt.keeps (show KSt 9 g4_walk from by unfold g4_walk; repeat (first | exact kd_ret | exact kd_lift | exact kd_liftM | exact kd_rd | exact kd_ow | exact kd_int | exact kd_var (by decide) | exact kd_setOw (by decide) | exact ks_nx | exact ks_stuck | exact ks_put (by decide) | refine ks_for (by decide) ?_ ?_ | refine ks_if ?_ ?_ ?_ | refine ks_seq ?_ ?_ | refine ks_asg (by decide) ?_ | refine ks_bind ?_ (fun _ => ?_) | refine kd_bind ?_ (fun _ => ?_) | refine ks_ite ?_ ?_ | refine kd_ite ?_ ?_))).mono)) _))),
    (Mono.seq (KSt.keeps (show KSt 9 g1_walk from by unfold g1_walk; repeat (first | exact kd_ret | exact kd_lift | exact kd_liftM | exact kd_rd | exact kd_ow | exact kd_int | exact kd_var (by decide) | exact kd_setOw (by decide) | exact ks_nx | exact ks_stuck | exact ks_put (by decide) | refine ks_for (by decide) ?_ ?_ | refine ks_if ?_ ?_ ?_ | refine ks_seq ?_ ?_ | refine ks_asg (by decide) ?_ | refine ks_bind ?_ (fun _ => ?_) | refine kd_bind ?_ (fun _ => ?_) | refine ks_ite ?_ ?_ | refine kd_ite ?_ ?_))).mono (Mono.seq (KSt.keeps (show KSt 9 g2_walk from by unfold g2_walk; repeat (first | exact kd_ret | exact kd_lift | exact kd_liftM | exact kd_rd | exact kd_ow | exact kd_int | exact kd_var (by decide) | exact kd_setOw (by decide) | exact ks_nx | exact ks_stuck | exact ks_put (by decide) | refine ks_for (by decide) ?_ ?_ | refine ks_if ?_ ?_ ?_ | refine ks_seq ?_ ?_ | refine ks_asg (by decide) ?_ | refine ks_bind ?_ (fun _ => ?_) | refine kd_bind ?_ (fun _ => ?_) | refine ks_ite ?_ ?_ | refine kd_ite ?_ ?_))).mono (Mono.swhile (show KD 9 t1_walk from by unfold t1_walk; repeat (first | exact kd_ret | exact kd_lift | exact kd_liftM | exact kd_rd | exact kd_ow | exact kd_int | exact kd_var (by decide) | exact kd_setOw (by decide) | exact ks_nx | exact ks_stuck | exact ks_put (by decide) | refine ks_for (by decide) ?_ ?_ | refine ks_if ?_ ?_ ?_ | refine ks_seq ?_ ?_ | refine ks_asg (by decide) ?_ | refine ks_bind ?_ (fun _ => ?_) | refine kd_bind ?_ (fun _ => ?_) | refine ks_ite ?_ ?_ | refine kd_ite ?_ ?_)) (Mono.seq (KSt.keeps (show KSt 9 g3_walk from by unfold g3_walk; repeat (first | exact kd_ret | exact kd_lift | exact kd_liftM | exact kd_rd | exact kd_ow | exact kd_int | exact kd_var (by decide) | exact kd_setOw (by decide) | exact ks_nx | exact ks_stuck | exact ks_put (by decide) | refine ks_for (by decide) ?_ ?_ | refine ks_if ?_ ?_ ?_ | refine ks_seq ?_ ?_ | refine ks_asg (by decide) ?_ | refine ks_bind ?_ (fun _ => ?_) | refine kd_bind ?_ (fun _ => ?_) | refine ks_ite ?_ ?_ | refine kd_ite ?_ ?_))).mono (Mono.sif (show KD 9 t2_walk from by unfold t2_walk; repeat (first | exact kd_ret | exact kd_lift | exact kd_liftM | exact kd_rd | exact kd_ow | exact kd_int | exact kd_var (by decide) | exact kd_setOw (by decide) | exact ks_nx | exact ks_stuck | exact ks_put (by decide) | refine ks_for (by decide) ?_ ?_ | refine ks_if ?_ ?_ ?_ | refine ks_seq ?_ ?_ | refine ks_asg (by decide) ?_ | refine ks_bind ?_ (fun _ => ?_) | refine kd_bind ?_ (fun _ => ?_) | refine ks_ite ?_ ?_ | refine kd_ite ?_ ?_)) (Mono.yield (show KD 9 y1_walk from by unfold y1_walk; repeat (first | exact kd_ret | exact kd_lift | exact kd_liftM | exact kd_rd | exact kd_ow | exact kd_int | exact kd_var (by decide) | exact kd_setOw (by decide) | exact ks_nx | exact ks_stuck | exact ks_put (by decide) | refine ks_for (by decide) ?_ ?_ | refine ks_if ?_ ?_ ?_ | refine ks_seq ?_ ?_ | refine ks_asg (by decide) ?_ | refine ks_bind ?_ (fun _ => ?_) | refine kd_bind ?_ (fun _ => ?_) | refine ks_ite ?_ ?_ | refine kd_ite ?_ ?_))) (KSt.keeps (show KSt 9 g4_walk from by unfold g4_walk; repeat (first | exact kd_ret | exact kd_lift | exact kd_liftM | exact kd_rd | exact kd_ow | exact kd_int | exact kd_var (by decide) | exact kd_setOw (by decide) | exact ks_nx | exact ks_stuck | exact ks_put (by decide) | refine ks_for (by decide) ?_ ?_ | refine ks_if ?_ ?_ ?_ | refine ks_seq ?_ ?_ | refine ks_asg (by decide) ?_ | refine ks_bind ?_ (fun _ => ?_) | refine kd_bind ?_ (fun _ => ?_) | refine ks_ite ?_ ?_ | refine kd_ite ?_ ?_))).mono)) _)))⟩
theorem sc_find_isomorphism : FnScope ["a", "b", "images"] ["a", "b"] (defScope (topS 21)) := ⟨rfl, rfl, rfl, by decide +kernel, rfl, by decide +kernel, by decide +kernel⟩
theorem ok_find_isomorphism (KX : K.In h) (G : h.Ns mainGlobals mg) (c : Says fa fn xn ex K) : Fk PP w K mg base "find_isomorphism" 5 (He.fAd K ("find_isomorphism", none)) ["a", "b"] (spD ⟨K, mg, none, TK⟩ d_find_isomorphism) := by
  obtain ⟨fd, F⟩ := c.def_ 24 (d := dd_find_isomorphism) rfl
  have sc := sc_find_isomorphism
  refine ⟨⟨fd, fn_data F sc (by decide) fun cdv A outer s H E hr tk po => ?_, F.bindsN (ps := ["a", "b"]) fun _ _ _ _ _ _ us hl => match us, hl with | [_, _], _ => rfl⟩, He.glo_ok KX G (c.fact 47 (f := .glo "find_isomorphism") rfl), F.kp⟩
  exact (ess_cons (es_if (ps_if (et2 vo_ne (pt_cmpR (op_neD (room_u4 hr)) (ev_fld (T_cls_Semigroup KX G c) (T_noat_Semigroup_n KX G c) (pe_fld (ev_var (pv 0)) rfl)) (ev_fld (T_cls_Semigroup KX G c) (T_noat_Semigroup_n KX G c) (pe_fld (ev_var (pv 1)) rfl)) (nomark _))) (ess_one (es_ret (ps_ret (ev_non pe_non)))) ess_nil))
    (ess_cons (Gk.loop (i := 2) (ok_walk KX G c) runG_lists (hr.mono (by decide)) (by rfl) (own1_cx fun _ => rfl) po sc.nd rfl rfl (ea_cons (ev_var (pv 0)) (ea_cons (ev_var (pv 1)) (ea_cons (ev_bl pe_bl) ea_nil'))) (bg_ret (ess_one (es_ret (ps_ret (ev_var (pv 2))))) ret_only))
    (ess_one (es_ret (ps_ret (ev_non pe_non))))))
theorem sc_gathered : FnScope ["a", "b", "unlike", "found", "images"] ["a", "b", "unlike"] (defScope (topS 19)) := ⟨rfl, rfl, rfl, by decide +kernel, rfl, by decide +kernel, by decide +kernel⟩
theorem ok_gathered (KX : K.In h) (G : h.Ns mainGlobals mg) (c : Says fa fn xn ex K) : Fk PP w K mg base "gathered" 5 (He.fAd K ("gathered", none)) ["a", "b", "unlike"] (spD ⟨K, mg, none, TK⟩ d_gathered) := by
  obtain ⟨fd, F⟩ := c.def_ 25 (d := dd_gathered) rfl
  have sc := sc_gathered
  refine ⟨⟨fd, fn_data F sc (by decide) fun cdv A outer s H E hr tk po => ?_, F.bindsN (ps := ["a", "b", "unlike"]) fun _ _ _ _ _ _ us hl => match us, hl with | [_, _, _], _ => rfl⟩, He.glo_ok KX G (c.fact 48 (f := .glo "gathered") rfl), F.kp⟩
  exact (ess_cons (es_own (ps_set (i := 3) sc.nd rfl (by first | exact Or.inl rfl | exact Or.inr rfl) (evN_lst (pe_lst ea_nil'))))
    (ess_cons (Gk.loop (i := 4) (ok_walk KX G c) runG_lists (hr.mono (by decide)) (by rfl) (own1_cx fun _ => rfl) po sc.nd rfl rfl (ea_cons (ev_var (pv 0)) (ea_cons (ev_var (pv 1)) (ea_cons (ev_var (pv 2)) ea_nil'))) (bg_gath' (i := 3) (j := 4) (own1_cx fun _ => rfl) rfl rfl rfl rfl (by rfl) (T_free_len KX G c) (by rfl) (T_int_MOST_homs KX G c) (ess_one (es_raise1 (T_glo_Refused KX G c) tk (pmk_err (k := 1) (T_err_Refused KX G c).1 (T_glo_Refused KX G c) (T_free_super KX G c) (hr.mono (by decide)) (pa_cons (ev_str pe_str) pa_nil) (by rfl)))) raise1_no))
    (ess_one (es_ret (ps_ret (ev_var (pv 3)))))))
theorem sc_one_to_one : FnScope ["a", "b"] ["a", "b"] (defScope (topS 20)) := ⟨rfl, rfl, rfl, by decide +kernel, rfl, by decide +kernel, by decide +kernel⟩
theorem ok_one_to_one (KX : K.In h) (G : h.Ns mainGlobals mg) (c : Says fa fn xn ex K) : Fk PP w K mg base "one_to_one" 6 (He.fAd K ("one_to_one", none)) ["a", "b"] (spD ⟨K, mg, none, TK⟩ d_one_to_one) := by
  obtain ⟨fd, F⟩ := c.def_ 26 (d := dd_one_to_one) rfl
  have sc := sc_one_to_one
  refine ⟨⟨fd, fn_data F sc (by decide) fun cdv A outer s H E hr tk po => ?_, F.bindsN (ps := ["a", "b"]) fun _ _ _ _ _ _ us hl => match us, hl with | [_, _], _ => rfl⟩, He.glo_ok KX G (c.fact 49 (f := .glo "one_to_one") rfl), F.kp⟩
  exact (ess_one (es_ret (ps_ret (evc1 vo_tuple (pe_callTy call_tupleN (by rfl) (T_free_tuple KX G c) (by decide +kernel) (pa_cons (ev_call ((ok_gathered KX G c).pe (hr.mono (by decide)) (by rfl) tk (ea_cons (ev_var (pv 0)) (ea_cons (ev_var (pv 1)) (ea_cons (ev_bl pe_bl) ea_nil'))))) pa_nil))))))
theorem sc_automorphisms : FnScope ["s"] ["s"] (defScope (topS 22)) := ⟨rfl, rfl, rfl, by decide +kernel, rfl, by decide +kernel, by decide +kernel⟩
theorem ok_automorphisms (KX : K.In h) (G : h.Ns mainGlobals mg) (c : Says fa fn xn ex K) : Fk PP w K mg base "automorphisms" 7 (He.fAd K ("automorphisms", none)) ["s"] (spD ⟨K, mg, none, TK⟩ d_automorphisms) := by
  obtain ⟨fd, F⟩ := c.def_ 27 (d := dd_automorphisms) rfl
  have sc := sc_automorphisms
  refine ⟨⟨fd, fn_data F sc (by decide) fun cdv A outer s H E hr tk po => ?_, F.bindsN (ps := ["s"]) fun _ _ _ _ _ _ us hl => match us, hl with | [_], _ => rfl⟩, He.glo_ok KX G (c.fact 50 (f := .glo "automorphisms") rfl), F.kp⟩
  exact (ess_one (es_ret (ps_ret (ev_call ((ok_one_to_one KX G c).pe (hr.mono (by decide)) (by rfl) tk (ea_cons (ev_var (pv 0)) (ea_cons (ev_var (pv 0)) ea_nil')))))))
theorem sc_law : FnScope ["_law_script", "_law_state_here", "_law_one", "_law_two", "_law_a", "_law_b", "_law_due", "_law_told"] ["_law_script"] (defScope (topS 39)) := ⟨rfl, rfl, rfl, by decide +kernel, rfl, by decide +kernel, by decide +kernel⟩
theorem ok_law (KX : K.In h) (G : h.Ns mainGlobals mg) (c : Says fa fn xn ex K) : mg ("law" : Str) = some (.ref (He.fAd K ("law", none))) ∧ ∃ fd : FuncData, (∀ (s : Shared) (u : Value), BindsTo s fd ⟨[u], []⟩ [(("_law_script" : Str), u)]) ∧ ∀ base : Heap, FnOk PP w K mg base (L2.CX PP w) 8 (He.fAd K ("law", none)) fd ["_law_script"] (spD ⟨K, mg, none, TK⟩ d_law) := by
  obtain ⟨fd, F⟩ := c.def_ 28 (d := dd_law) rfl
  have sc := sc_law
  have b := FunD.bindsA (ps := ["_law_script"]) F fun _ _ _ _ _ _ us hl => match us, hl with | [_], _ => rfl
  refine ⟨He.glo_ok KX G (c.fact 51 (f := .glo "law") rfl), fd, fun s u => b s [u] rfl, fun base => fn_data F sc (by decide) fun cdv A outer s H E hr tk po => ?_⟩
  exact (ess_cons (es_own (ps_set (i := 1) sc.nd rfl (by first | exact Or.inl rfl | exact Or.inr rfl) (ev_callO ((ok__law_state KX G c).pe (hr.mono (by decide)) (by rfl) tk (ea_cons (ev_var (pv 0)) ea_nil')))))
    (ess_cons (es_set (ps_set (i := 2) sc.nd rfl (by first | exact Or.inl rfl | exact Or.inr rfl) (ev_callR (runR_nox _ _ _) ((ok__law_semigroup KX G c).pe (hr.mono (by decide)) (by rfl) tk (pa_cons (pv 1) (ea_cons (ev_int pe_int) ea_nil'))))))
    (ess_cons (es_set (ps_set (i := 3) sc.nd rfl (by first | exact Or.inl rfl | exact Or.inr rfl) (ev_callR (runR_nox _ _ _) ((ok__law_semigroup KX G c).pe (hr.mono (by decide)) (by rfl) tk (pa_cons (pv 1) (ea_cons (ev_int pe_int) ea_nil'))))))
    (ess_cons (es_if (ps_if (et2 vo_eq (pt_cmpR (op_eqD (room_u4 hr)) (ev_callR (runR_nox _ _ _) ((ok__law_take KX G c).pe (hr.mono (by decide)) (by rfl) tk (pa_cons (pv 1) (ea_cons (ev_int pe_int) ea_nil')))) (ev_int pe_int) (nomark _))) (ess_one (es_set (ps_set (i := 3) sc.nd rfl (by first | exact Or.inl rfl | exact Or.inr rfl) (ev_call ((ok__law_renamed KX G c).pe (hr.mono (by decide)) (by rfl) tk (ea_cons (ev_var (pv 2)) (ea_cons (ev_callR (runR_nox _ _ _) ((ok__law_order_of KX G c).pe (hr.mono (by decide)) (by rfl) tk (pa_cons (pv 1) (ea_cons (evc1n vo_len (pe_callB call_lenD (by rfl) (T_free_len KX G c) (by decide +kernel) (pa_cons (pv 2) pa_nil))) ea_nil')))) ea_nil'))))))) ess_nil))
    (ess_cons (es_set (ps_set (i := 4) sc.nd rfl (by first | exact Or.inl rfl | exact Or.inr rfl) (ev_make (T_cls_Semigroup KX G c).gC ((ok_Semigroup KX G c).pe (hr.mono (by decide)) (by rfl) tk (ea_cons (ev_var (pv 2)) ea_nil')))))
    (ess_cons (es_set (ps_set (i := 5) sc.nd rfl (by first | exact Or.inl rfl | exact Or.inr rfl) (ev_make (T_cls_Semigroup KX G c).gC ((ok_Semigroup KX G c).pe (hr.mono (by decide)) (by rfl) tk (ea_cons (ev_var (pv 3)) ea_nil')))))
    (ess_cons (es_set (ps_set (i := 6) sc.nd rfl (by first | exact Or.inl rfl | exact Or.inr rfl) (ev_call ((ok__law_found KX G c).pe (hr.mono (by decide)) (by rfl) tk (ea_cons (ev_var (pv 2)) (ea_cons (ev_var (pv 3)) ea_nil'))))))
    (ess_cons (es_set (ps_set (i := 7) sc.nd rfl (by first | exact Or.inl rfl | exact Or.inr rfl) (ev_call ((ok_find_isomorphism KX G c).pe (hr.mono (by decide)) (by rfl) tk (ea_cons (ev_var (pv 4)) (ea_cons (ev_var (pv 5)) ea_nil'))))))
    (ess_cons (es_if (ps_if (et2 vo_ne (pt_cmpR (op_neD (room_u4 hr)) (ev_var (pv 7)) (ev_ifE (pe_ifExp (et2 (vo_cmpI _) (pt_cmpR op_gt (evc1n vo_len (pe_callB call_lenD (by rfl) (T_free_len KX G c) (by decide +kernel) (pa_cons (pv 6) pa_nil))) (ev_int pe_int) (nomark _))) (ev2n vo_ix (pe_ix ix_seq (pv 6) (ev_int pe_int) (fun _ _ => rfl))) (ev_non pe_non))) (nomark _))) (ess_one (es_ret (ps_ret (ev_bl pe_bl)))) ess_nil))
    (ess_cons (es_if (ps_if (et2 vo_ne (pt_cmpR (op_neD (room_u4 hr)) (ev2 vo_is (pe_cmpR op_isD (ev_call ((ok_find_isomorphism KX G c).pe (hr.mono (by decide)) (by rfl) tk (ea_cons (ev_var (pv 5)) (ea_cons (ev_var (pv 4)) ea_nil')))) (ev_non pe_non) (nomark _))) (ev2 vo_eq (pe_cmpR (op_eqD (room_u4 hr)) (evc1n vo_len (pe_callB call_lenD (by rfl) (T_free_len KX G c) (by decide +kernel) (pa_cons (pv 6) pa_nil))) (ev_int pe_int) (nomark _))) (nomark _))) (ess_one (es_ret (ps_ret (ev_bl pe_bl)))) ess_nil))
    (ess_one (es_ret (ps_ret (ev2 vo_eq (pe_cmpR (op_eqD (room_u4 hr)) (ev_call ((ok_automorphisms KX G c).pe (hr.mono (by decide)) (by rfl) tk (ea_cons (ev_var (pv 4)) ea_nil'))) (evc1 vo_tuple (pe_callTy call_tupleN (by rfl) (T_free_tuple KX G c) (by decide +kernel) (pa_cons (ev_call ((ok__law_found KX G c).pe (hr.mono (by decide)) (by rfl) tk (ea_cons (ev_var (pv 2)) (ea_cons (ev_var (pv 2)) ea_nil')))) pa_nil))) (nomark _))))))))))))))))
end
abbrev R : PySem.W.OpenRow := PySem.W.OpenLaw.row PySem.Challenge.rw_reesblocks_k36_whole_isomorphisms
abbrev hk : PySem.W.Hook := hookB 5 fa fn xn ex
def ob (s : PySem.W.SharedT) : AlB := obsBG 5 fa fn xn ex (HandSHeadRun.getT s)
theorem ob_eq (s : PySem.W.SharedT) : ob s = hk.obs s.abs := obsBG_eq (HandSHeadRun.getT_eq s)
theorem run (w : World) : HandSHeadRun.RunEq R (PySem.W.view R.prog [39]) hk ob 4000 ((["_wall", "Fault", "Malformed", "Refused", "is_integer", "MOST_semigroup", "is_item", "taken_table", "is_associative", "Semigroup", "MOST_homs", "closing", "close", "extended", "walk", "gathered", "one_to_one", "find_isomorphism", "automorphisms", "_law_state", "_law_take", "_law_order_of", "_law_renamed", "_law_after", "_law_closed"] : List PySem.Str) ++ (["_law_of_maps", "_law_monogenic", "_law_triples", "_law_blocks", "_law_plain", "_law_extended", "_law_semigroup", "_law_arrangements", "_law_found"] : List PySem.Str)) w := by
  intro os
  kernel_rfl
end LAW
namespace LAW
open DL PySem L2
def P__law_state (script : (List Int)) : M (List Int) := M.bind (pfold (fun (x10 : Int) (a11 : (Int × Int)) => M.bind (M.bind (pMul a11.1 1000003) fun c13 => .ok (c13 + (if x10 < 0 then -x10 else x10))) fun c14 => M.bind (M.bind (M.bind (pMul a11.2 48271) fun c15 => .ok (c15 + x10)) fun c17 => pMod c17 2147483647) fun c18 => .ok (c14, c18)) (cutD script none (some 63)) (0, 1)) fun (a19 : (Int × Int)) => .ok [a19.1, a19.2]
theorem S__law_state (script : (List Int)) : DO (d__law_state [D.scr script]) (P__law_state script) eI := fn_O rfl (show RO (sSeq (sSet 1 (dC (.int 0))) (sSeq (sSet 2 (dC (.int 1))) (sSeq (sFor (.nm 3) (dItems (dSln 0 dNoP (dPart (dC (.int 63))))) (sSeq (sSet 1 (dOp2 opAdd (dOp2 opMul (dVar 1) (dC (.int 1000003))) (dOp1n opAbs 3))) (sSet 2 (dOp2 opMod (dOp1 opInt (dOp2 opAdd (dOp2 opMul (dVar 2) (dC (.int 48271))) (dVar 3))) (dC (.int 2147483647)))))) sPass))) (dLst (dCons (dVar 1) (dCons (dVar 2) dNil))) [.sh (D.scr script), .no, .no, .no] (P__law_state script) (List.map eI) from
  (rs_bindP rv_ret (rs_put (st1 := [.sh (D.scr script), .sh (eI 0), .no, .no]) rfl (rs_bindP rv_ret (rs_put (st1 := [.sh (D.scr script), .sh (eI 0), .sh (eI 1), .no]) rfl (rs_bindP (rv_dItems (rv_bind (rv_dSln (rv_bind (rv_rd rfl) (rv_bind rv_ret (rv_bind (rv_dPart (rv_bind rv_ret (rv_lift (y := (some 63)) rfl))) (rv_bind (rv_rd rfl) (rv_lift op_slScr)))))) (rv_lift (y := ((List.map eI) (cutD script none (some 63)))) rfl))) (rs_for0 (e := eI) (xs := (cutD script none (some 63))) (a := (0, 1)) (f := fun (x10 : Int) (a11 : (Int × Int)) => M.bind (M.bind (pMul a11.1 1000003) fun c13 => .ok (c13 + (if x10 < 0 then -x10 else x10))) fun c14 => M.bind (M.bind (M.bind (pMul a11.2 48271) fun c15 => .ok (c15 + x10)) fun c17 => pMod c17 2147483647) fun c18 => .ok (c14, c18)) (fun (a21 : (Int × Int)) (st : DSt) => ∃ (j22 : (Option D)), st = [.sh (D.scr script), .sh (eI a21.1), .sh (eI a21.2), jk j22]) ⟨none, rfl⟩ (fun | x10, a11, _, ⟨j12, rfl⟩ => ⟨[.sh (D.scr script), .sh (eI a11.1), .sh (eI a11.2), .sh (eI x10)], rfl, (rs_bindG (re_dOp2 (re_bindG (re_dOp2 (re_bindP (rv_var rfl) (re_bindP rv_ret (re_lift op_mul)))) fun c13 => (re_bindP (rv_dOp1n (rv_bind (rv_rd rfl) (rv_lift (y := (eI (if x10 < 0 then -x10 else x10))) rfl))) (re_rv (w := eI) (rv_lift (y := (eI (c13 + (if x10 < 0 then -x10 else x10)))) rfl))))) fun c14 => (rs_put (st1 := [.sh (D.scr script), .sh (eI c14), .sh (eI a11.2), .sh (eI x10)]) rfl (rs_last (rs_bindG (re_dOp2 (re_bindG (re_dOp1 (re_tail (w := eI) (re_dOp2 (re_bindG (re_dOp2 (re_bindP (rv_var rfl) (re_bindP rv_ret (re_lift op_mul)))) fun c15 => (re_bindP (rv_var rfl) (re_rv (w := eI) (rv_lift (y := (eI (c15 + x10))) rfl))))) fun c16 => (rv_lift (y := (eI c16)) rfl))) fun c17 => (re_bindP rv_ret (re_lift op_mod)))) fun c18 => (rs_put (st1 := [.sh (D.scr script), .sh (eI c14), .sh (eI c18), .sh (eI x10)]) rfl (rs_end ⟨rfl, (some (eI x10)), rfl⟩))))))⟩) (fun | a19, _, ⟨j20, rfl⟩ => (rs_endO (re_rv (rv_dLst (rv_cons (rv_var rfl) (rv_cons (rv_var rfl) (rv_nil (rv_lift (y := ((List.map eI) [a19.1, a19.2])) (op_lst (by exact Nat.le_of_ble_eq_true rfl) rfl))))))))))))))))
def P__law_take (state_here : (List Int)) (m : Int) : M (Int × (List Int)) := M.bind (M.bind (pAt state_here 0) fun c1 => .ok (decide (c1 > 0))) fun c2 => if c2 = true then M.bind (M.bind (pAt state_here 0) fun c4 => pMod c4 m) fun c5 => M.bind (M.bind (pAt state_here 0) fun c6 => pDiv c6 m) fun c7 => M.bind (pSet state_here 0 c7) fun c8 => .ok (c5, c8) else M.bind (M.bind (M.bind (M.bind (pAt state_here 1) fun c9 => pMul c9 48271) fun c10 => .ok (c10 + 11)) fun c12 => pMod c12 2147483647) fun c13 => M.bind (pSet state_here 1 c13) fun c14 => M.bind (M.bind (M.bind (pAt c14 1) fun c15 => pDiv c15 7) fun c17 => pMod c17 m) fun c18 => .ok (c18, c14)
theorem S__law_take (state_here : (List Int)) (m : Int) : DR (d__law_take (List.map eI state_here) [eI m]) (P__law_take state_here m) eI eI := fn_R rfl (show RS false (sSeq (sIf (dTst (dOp2 opGt (dOp2n opIx 0 (dC (.int 0))) (dC (.int 0)))) (sSeq (sSet 2 (dOp2 opMod (dOp1 opInt (dOp2n opIx 0 (dC (.int 0)))) (dVar 1))) (sSeq (sStore 0 (dC (.int 0)) (dOp2 opDiv (dOp2n opIx 0 (dC (.int 0))) (dVar 1))) (sRet (dVar 2)))) sPass) (sSeq (sStore 0 (dC (.int 1)) (dOp2 opMod (dOp1 opInt (dOp2 opAdd (dOp2 opMul (dOp2n opIx 0 (dC (.int 1))) (dC (.int 48271))) (dC (.int 11)))) (dC (.int 2147483647)))) (sRet (dOp2 opMod (dOp1 opInt (dOp2 opDiv (dOp2n opIx 0 (dC (.int 1))) (dC (.int 7)))) (dVar 1))))) [.rf 0 (List.map eI state_here), .sh (eI m), .no] (P__law_take state_here m) (Kby eI eI) from
  (rs_bindG (re_tst (re_dOp2 (re_bindG (re_dOp2n (re_bindP (rv_rdR rfl) (re_bindP rv_ret (re_bindP (rv_rdR rfl) (re_lift op_atL))))) fun c1 => (re_bindP rv_ret (re_rv (w := eB) (rv_lift (y := (eB (decide (c1 > 0)))) rfl)))))) fun c2 => (rs_ite (fun _ => (rs_seq (rs_bindG (re_dOp2 (re_bindG (re_dOp1 (re_tail (w := eI) (re_dOp2n (re_bindP (rv_rdR rfl) (re_bindP rv_ret (re_bindP (rv_rdR rfl) (re_lift op_atL))))) fun c3 => (rv_lift (y := (eI c3)) rfl))) fun c4 => (re_bindP (rv_var rfl) (re_lift op_mod)))) fun c5 => (rs_put (st1 := [.rf 0 (List.map eI state_here), .sh (eI m), .sh (eI c5)]) rfl (rs_seq (rs_bindG (re_dOp2 (re_bindG (re_dOp2n (re_bindP (rv_rdR rfl) (re_bindP rv_ret (re_bindP (rv_rdR rfl) (re_lift op_atL))))) fun c6 => (re_bindP (rv_var rfl) (re_lift op_div)))) fun c7 => (rs_bindP (rv_rdR rfl) (rs_bindP rv_ret (rs_x (x_setKr (e := eI) (xs := state_here) (k := 0) (v := c7) rfl) fun c8 => rs_st ([.rf 0 (List.map eI c8), .sh (eI m), .sh (eI c5)]) rfl (rs_bindP (rv_var rfl) (rs_ret ⟨.inl rfl, _, rfl⟩))))))))))) (fun _ => (rs_nx (rs_bindG (re_dOp2 (re_bindG (re_dOp1 (re_tail (w := eI) (re_dOp2 (re_bindG (re_dOp2 (re_bindG (re_dOp2n (re_bindP (rv_rdR rfl) (re_bindP rv_ret (re_bindP (rv_rdR rfl) (re_lift op_atL))))) fun c9 => (re_bindP rv_ret (re_lift op_mul)))) fun c10 => (re_bindP rv_ret (re_rv (w := eI) (rv_lift (y := (eI (c10 + 11))) rfl))))) fun c11 => (rv_lift (y := (eI c11)) rfl))) fun c12 => (re_bindP rv_ret (re_lift op_mod)))) fun c13 => (rs_bindP (rv_rdR rfl) (rs_bindP rv_ret (rs_x (x_setKr (e := eI) (xs := state_here) (k := 1) (v := c13) rfl) fun c14 => rs_st ([.rf 0 (List.map eI c14), .sh (eI m), .no]) rfl (rs_last (rs_bindG (re_dOp2 (re_bindG (re_dOp1 (re_tail (w := eI) (re_dOp2 (re_bindG (re_dOp2n (re_bindP (rv_rdR rfl) (re_bindP rv_ret (re_bindP (rv_rdR rfl) (re_lift op_atL))))) fun c15 => (re_bindP rv_ret (re_lift op_div)))) fun c16 => (rv_lift (y := (eI c16)) rfl))) fun c17 => (re_bindP (rv_var rfl) (re_lift op_mod)))) fun c18 => (rs_ret ⟨.inl rfl, _, rfl⟩))))))))))))
def P__law_monogenic (state_here : (List Int)) (most : Int) : M ((List (List Int)) × (List Int)) := M.bind (M.bind (P__law_take state_here most) fun c3 => .ok ((1 + c3.1), c3.2)) fun c4 => M.bind (M.bind (P__law_take c4.2 c4.1) fun c8 => .ok ((1 + c8.1), c8.2)) fun c9 => M.bind (pRng c4.1) fun c11 => M.bind (pfold (fun (x106 : Int) (a107 : (List (List Int))) => M.bind (pRng c4.1) fun c112 => M.bind (pfold (fun (x135 : Int) (a136 : (List Int)) => M.bind (if (decide (((x106 + x135) + 2) > c4.1)) = true then M.bind (M.bind (pMod (((x106 + x135) + 2) - ((c4.1 + 1) - c9.1)) c9.1) fun c141 => .ok (((c4.1 + 1) - c9.1) + c141)) fun c142 => .ok c142 else .ok ((x106 + x135) + 2) : M Int) fun (a143 : Int) => M.bind (pApp a136 (a143 - 1)) fun c144 => .ok c144) c112 []) fun (a146 : (List Int)) => M.bind (pApp a107 a146) fun c149 => .ok c149) c11 []) fun (a153 : (List (List Int))) => .ok (a153, c9.2)
theorem S__law_monogenic (state_here : (List Int)) (most : Int) : DR (d__law_monogenic (List.map eI state_here) [eI most]) (P__law_monogenic state_here most) (eL (eT eI)) eI := fn_R rfl (show RS false (sSeq (sSet 2 (dOp2 opAdd (dC (.int 1)) (dCallR d__law_take 0 (dCons (dVar 1) dNil)))) (sSeq (sSet 3 (dOp2 opAdd (dC (.int 1)) (dCallR d__law_take 0 (dCons (dVar 2) dNil)))) (sSeq (sSet 4 (dOp2 opSub (dOp2 opAdd (dVar 2) (dC (.int 1))) (dVar 3))) (sSeq (sOwn 5 (dLst dNil)) (sSeq (sFor (.nm 6) (dRng (dVar 2)) (sSeq (sOwn 7 (dLst dNil)) (sSeq (sFor (.nm 8) (dRng (dVar 2)) (sSeq (sSet 9 (dOp2 opAdd (dOp2 opAdd (dVar 6) (dVar 8)) (dC (.int 2)))) (sSeq (sIf (dTst (dOp2 opGt (dVar 9) (dVar 2))) (sSet 9 (dOp2 opAdd (dVar 4) (dOp2 opMod (dOp1 opInt (dOp2 opSub (dVar 9) (dVar 4))) (dVar 3)))) sPass) (sExpr (dAppend 7 (dOp2 opSub (dVar 9) (dC (.int 1)))))))) (sExpr (dAppend 5 (dOp1n opTuple 7)))))) (sRet (dVar 5))))))) [.rf 0 (List.map eI state_here), .sh (eI most), .no, .no, .no, .no, .no, .no, .no, .no] (P__law_monogenic state_here most) (Kby (eL (eT eI)) eI) from
  (rs_bindS (fun (r5 : List Int) => [.rf 0 (List.map eI r5), .sh (eI most), .no, .no, .no, .no, .no, .no, .no, .no]) (rt_dOp2 (rt_bindP rv_ret (rt_bindS (rt_dCallR (rt_bindP (rv_owR rfl) (rt_consP (rv_var rfl) (rt_nil (rt_callR (S := fun r2 => [.rf 0 (List.map eI r2), .sh (eI most), .no, .no, .no, .no, .no, .no, .no, .no]) rfl (fun _ => rfl) (S__law_take state_here most)))))) fun c3 => (rt_rv (v := eI) (rv_lift (y := (eI (1 + c3.1))) rfl))))) fun c4 => (rs_put (st1 := [.rf 0 (List.map eI c4.2), .sh (eI most), .sh (eI c4.1), .no, .no, .no, .no, .no, .no, .no]) rfl (rs_bindS (fun (r10 : List Int) => [.rf 0 (List.map eI r10), .sh (eI most), .sh (eI c4.1), .no, .no, .no, .no, .no, .no, .no]) (rt_dOp2 (rt_bindP rv_ret (rt_bindS (rt_dCallR (rt_bindP (rv_owR rfl) (rt_consP (rv_var rfl) (rt_nil (rt_callR (S := fun r7 => [.rf 0 (List.map eI r7), .sh (eI most), .sh (eI c4.1), .no, .no, .no, .no, .no, .no, .no]) rfl (fun _ => rfl) (S__law_take c4.2 c4.1)))))) fun c8 => (rt_rv (v := eI) (rv_lift (y := (eI (1 + c8.1))) rfl))))) fun c9 => (rs_put (st1 := [.rf 0 (List.map eI c9.2), .sh (eI most), .sh (eI c4.1), .sh (eI c9.1), .no, .no, .no, .no, .no, .no]) rfl (rs_bindP (rv_dOp2 (rv_bind (rv_dOp2 (rv_bind (rv_var rfl) (rv_bind rv_ret (rv_lift (y := (eI (c4.1 + 1))) rfl)))) (rv_bind (rv_var rfl) (rv_lift (y := (eI ((c4.1 + 1) - c9.1))) rfl)))) (rs_put (st1 := [.rf 0 (List.map eI c9.2), .sh (eI most), .sh (eI c4.1), .sh (eI c9.1), .sh (eI ((c4.1 + 1) - c9.1)), .no, .no, .no, .no, .no]) rfl (rs_bindP (rv_dLst (rv_nil (rv_lift (y := ((List.map eI) [])) (op_lst (by exact Nat.le_of_ble_eq_true rfl) rfl)))) (rs_put (st1 := [.rf 0 (List.map eI c9.2), .sh (eI most), .sh (eI c4.1), .sh (eI c9.1), .sh (eI ((c4.1 + 1) - c9.1)), .ow (List.map eI []), .no, .no, .no, .no]) rfl (rs_bindG (re_dRng (re_bindP (rv_var rfl) (re_lift op_rng))) fun c11 => (rs_for0 (e := eI) (xs := c11) (a := []) (f := fun (x106 : Int) (a107 : (List (List Int))) => M.bind (pRng c4.1) fun c112 => M.bind (pfold (fun (x135 : Int) (a136 : (List Int)) => M.bind (if (decide (((x106 + x135) + 2) > c4.1)) = true then M.bind (M.bind (pMod (((x106 + x135) + 2) - ((c4.1 + 1) - c9.1)) c9.1) fun c141 => .ok (((c4.1 + 1) - c9.1) + c141)) fun c142 => .ok c142 else .ok ((x106 + x135) + 2) : M Int) fun (a143 : Int) => M.bind (pApp a136 (a143 - 1)) fun c144 => .ok c144) c112 []) fun (a146 : (List Int)) => M.bind (pApp a107 a146) fun c149 => .ok c149) (fun (a158 : (List (List Int))) (st : DSt) => ∃ (j159 : (Option D)), ∃ (j160 : Slot), ∃ (j161 : (Option D)), ∃ (j162 : (Option D)), st = [.rf 0 (List.map eI c9.2), .sh (eI most), .sh (eI c4.1), .sh (eI c9.1), .sh (eI ((c4.1 + 1) - c9.1)), .ow (List.map (eT eI) a158), jk j159, j160, jk j161, jk j162]) ⟨none, (.no), none, none, rfl⟩ (fun | x106, a107, _, ⟨j108, j109, j110, j111, rfl⟩ => ⟨[.rf 0 (List.map eI c9.2), .sh (eI most), .sh (eI c4.1), .sh (eI c9.1), .sh (eI ((c4.1 + 1) - c9.1)), .ow (List.map (eT eI) a107), .sh (eI x106), j109, jk j110, jk j111], rfl, (rs_bindP (rv_dLst (rv_nil (rv_lift (y := ((List.map eI) [])) (op_lst (by exact Nat.le_of_ble_eq_true rfl) rfl)))) (rs_put (st1 := [.rf 0 (List.map eI c9.2), .sh (eI most), .sh (eI c4.1), .sh (eI c9.1), .sh (eI ((c4.1 + 1) - c9.1)), .ow (List.map (eT eI) a107), .sh (eI x106), .ow (List.map eI []), jk j110, jk j111]) rfl (rs_bindG (re_dRng (re_bindP (rv_var rfl) (re_lift op_rng))) fun c112 => (rs_for0 (e := eI) (xs := c112) (a := []) (f := fun (x135 : Int) (a136 : (List Int)) => M.bind (if (decide (((x106 + x135) + 2) > c4.1)) = true then M.bind (M.bind (pMod (((x106 + x135) + 2) - ((c4.1 + 1) - c9.1)) c9.1) fun c141 => .ok (((c4.1 + 1) - c9.1) + c141)) fun c142 => .ok c142 else .ok ((x106 + x135) + 2) : M Int) fun (a143 : Int) => M.bind (pApp a136 (a143 - 1)) fun c144 => .ok c144) (fun (a150 : (List Int)) (st : DSt) => ∃ (j151 : (Option D)), ∃ (j152 : (Option D)), st = [.rf 0 (List.map eI c9.2), .sh (eI most), .sh (eI c4.1), .sh (eI c9.1), .sh (eI ((c4.1 + 1) - c9.1)), .ow (List.map (eT eI) a107), .sh (eI x106), .ow (List.map eI a150), jk j151, jk j152]) ⟨j110, j111, rfl⟩ (fun | x135, a136, _, ⟨j137, j138, rfl⟩ => ⟨[.rf 0 (List.map eI c9.2), .sh (eI most), .sh (eI c4.1), .sh (eI c9.1), .sh (eI ((c4.1 + 1) - c9.1)), .ow (List.map (eT eI) a107), .sh (eI x106), .ow (List.map eI a136), .sh (eI x135), jk j138], rfl, (rs_bindP (rv_dOp2 (rv_bind (rv_dOp2 (rv_bind (rv_var rfl) (rv_bind (rv_var rfl) (rv_lift (y := (eI (x106 + x135))) rfl)))) (rv_bind rv_ret (rv_lift (y := (eI ((x106 + x135) + 2))) rfl)))) (rs_put (st1 := [.rf 0 (List.map eI c9.2), .sh (eI most), .sh (eI c4.1), .sh (eI c9.1), .sh (eI ((c4.1 + 1) - c9.1)), .ow (List.map (eT eI) a107), .sh (eI x106), .ow (List.map eI a136), .sh (eI x135), .sh (eI ((x106 + x135) + 2))]) rfl (rs_bindP (rv_tst (rv_dOp2 (rv_bind (rv_var rfl) (rv_bind (rv_var rfl) (rv_lift (y := (eB (decide (((x106 + x135) + 2) > c4.1)))) rfl))))) (rs_join (I := (fun (a145 : Int) (st : DSt) => st = [.rf 0 (List.map eI c9.2), .sh (eI most), .sh (eI c4.1), .sh (eI c9.1), .sh (eI ((c4.1 + 1) - c9.1)), .ow (List.map (eT eI) a107), .sh (eI x106), .ow (List.map eI a136), .sh (eI x135), .sh (eI a145)])) (rs_iteN (fun _ => (rs_last (rs_bindG (re_dOp2 (re_bindP (rv_var rfl) (re_bindG (re_dOp2 (re_bindP (rv_dOp1 (rv_bind (rv_dOp2 (rv_bind (rv_var rfl) (rv_bind (rv_var rfl) (rv_lift (y := (eI (((x106 + x135) + 2) - ((c4.1 + 1) - c9.1)))) rfl)))) (rv_lift (y := (eI (((x106 + x135) + 2) - ((c4.1 + 1) - c9.1)))) rfl))) (re_bindP (rv_var rfl) (re_lift op_mod)))) fun c141 => (re_rv (w := eI) (rv_lift (y := (eI (((c4.1 + 1) - c9.1) + c141))) rfl))))) fun c142 => (rs_put (st1 := [.rf 0 (List.map eI c9.2), .sh (eI most), .sh (eI c4.1), .sh (eI c9.1), .sh (eI ((c4.1 + 1) - c9.1)), .ow (List.map (eT eI) a107), .sh (eI x106), .ow (List.map eI a136), .sh (eI x135), .sh (eI c142)]) rfl (rs_end ⟨rfl, rfl⟩))))) (fun _ => (rs_end ⟨rfl, rfl⟩))) fun | a143, _, rfl => (rs_last (rs_x (x_appP (e := eI) (xs := a136) rfl (rv_dOp2 (rv_bind (rv_var rfl) (rv_bind rv_ret (rv_lift (y := (eI (a143 - 1))) rfl)))) rfl) fun c144 => rs_st ([.rf 0 (List.map eI c9.2), .sh (eI most), .sh (eI c4.1), .sh (eI c9.1), .sh (eI ((c4.1 + 1) - c9.1)), .ow (List.map (eT eI) a107), .sh (eI x106), .ow (List.map eI c144), .sh (eI x135), .sh (eI a143)]) rfl (rs_end ⟨rfl, (some (eI x135)), (some (eI a143)), rfl⟩)))))))⟩) (fun | a146, _, ⟨j147, j148, rfl⟩ => (rs_last (rs_x (x_appP (e := (eT eI)) (xs := a107) rfl (rv_dOp1n (rv_bind (rv_rdO rfl) (rv_lift (y := ((eT eI) a146)) rfl))) rfl) fun c149 => rs_st ([.rf 0 (List.map eI c9.2), .sh (eI most), .sh (eI c4.1), .sh (eI c9.1), .sh (eI ((c4.1 + 1) - c9.1)), .ow (List.map (eT eI) c149), .sh (eI x106), .ow (List.map eI a146), jk j147, jk j148]) rfl (rs_end ⟨rfl, (some (eI x106)), (.ow (List.map eI a146)), j147, j148, rfl⟩))))))))⟩) (fun | a153, _, ⟨j154, j155, j156, j157, rfl⟩ => (rs_last (rs_bindP (rv_frz rfl) (rs_ret ⟨.inl rfl, _, rfl⟩)))))))))))))))
def P__law_after (f : (List Int)) (g : (List Int)) : M (List Int) := M.bind (pMap (fun (x1 : Int) => pAt g x1) f) fun c3 => .ok c3
theorem S__law_after (f : (List Int)) (g : (List Int)) : DM (d__law_after [(eT eI) f, (eT eI) g]) (P__law_after f g) (eT eI) := fn_F rfl (show RS true (sRet (dOp1 opTuple (dFrz (dComp [2] (.nm 2) (dItems (dVar 0)) dYes (dOp2n opIx 1 (dVar 2)))))) [.sh ((eT eI) f), .sh ((eT eI) g), .no] (P__law_after f g) (Kfn (eT eI)) from
  (rs_last (rs_bindG (re_dOp1 (re_tail (w := (eT eI)) (re_frzN (re_bindP (rv_dItems (rv_bind (rv_var rfl) (rv_lift (y := ((List.map eI) f)) rfl))) (re_compM (e := eI) (f := fun (x1 : Int) => pAt g x1) ([.sh ((eT eI) f), .sh ((eT eI) g), .no]) rfl rfl rfl (fun x1 => ⟨[.sh ((eT eI) f), .sh ((eT eI) g), .sh (eI x1)], [.sh ((eT eI) f), .sh ((eT eI) g), .sh (eI x1)], rfl, (re_dOp2n (re_bindP (rv_rd rfl) (re_bindP (rv_var rfl) (re_bindP (rv_rd rfl) (re_lift op_atT))))), rfl, rfl⟩)))) fun c2 => (rv_lift (y := ((eT eI) c2)) rfl))) fun c3 => (rs_ret (.inl rfl)))))
def P__law_closed (maps : (List (List Int))) : M (List (List Int)) := M.bind (pfold (fun (x9 : (List Int)) (a10 : (List (List Int))) => if (!has x9 a10) = true then M.bind (pApp a10 x9) fun c12 => .ok c12 else .ok a10) maps []) fun (a13 : (List (List Int))) => M.bind (pRng 30) fun c15 => M.bind (pfold (fun (x76 : Int) (a77 : (List (List Int))) => M.bind (pfold (fun (x105 : (List Int)) (a106 : (List (List Int))) => M.bind (pfold (fun (x116 : (List Int)) (a117 : (List (List Int))) => M.bind (P__law_after x105 x116) fun c120 => if ((!has c120 a117) && (decide ((a117.length : Int) < 30))) = true then M.bind (pApp a117 c120) fun c121 => .ok c121 else .ok a117) maps a106) fun (a122 : (List (List Int))) => .ok a122) a77 a77) fun (a128 : (List (List Int))) => .ok a128) c15 a13) fun (a136 : (List (List Int))) => .ok a136
theorem S__law_closed (maps : (List (List Int))) : DM (d__law_closed [(eL (eT eI)) maps]) (P__law_closed maps) (eL (eT eI)) := fn_F rfl (show RS true (sSeq (sOwn 1 (dLst dNil)) (sSeq (sFor (.nm 2) (dItems (dVar 0)) (sIf (dTst (dOp2m opNotIn (dVar 2) 1)) (sExpr (dAppend 1 (dVar 2))) sPass)) (sSeq (sFor (.nm 3) (dRng (dC (.int 30))) (sFor (.nm 2) (dItems (dFrz (dN1n nList 1))) (sFor (.nm 4) (dItems (dVar 0)) (sSeq (sSet 5 (dCall d__law_after (dCons (dVar 2) (dCons (dVar 4) dNil)))) (sIf (dAnd (dTst (dOp2m opNotIn (dVar 5) 1)) (dTst (dOp2 opLt (dOp1n opLen 1) (dC (.int 30))))) (sExpr (dAppend 1 (dVar 5))) sPass))))) (sRet (dVar 1))))) [.sh ((eL (eT eI)) maps), .no, .no, .no, .no, .no] (P__law_closed maps) (Kfn (eL (eT eI))) from
  (rs_bindP (rv_dLst (rv_nil (rv_lift (y := ((List.map eI) [])) (op_lst (by exact Nat.le_of_ble_eq_true rfl) rfl)))) (rs_put (st1 := [.sh ((eL (eT eI)) maps), .ow (List.map eI []), .no, .no, .no, .no]) rfl (rs_bindP (rv_dItems (rv_bind (rv_var rfl) (rv_lift (y := ((List.map (eT eI)) maps)) rfl))) (rs_for0 (e := (eT eI)) (xs := maps) (a := []) (f := fun (x9 : (List Int)) (a10 : (List (List Int))) => if (!has x9 a10) = true then M.bind (pApp a10 x9) fun c12 => .ok c12 else .ok a10) (fun (a146 : (List (List Int))) (st : DSt) => ∃ (j147 : (Option D)), st = [.sh ((eL (eT eI)) maps), .ow (List.map (eT eI) a146), jk j147, .no, .no, .no]) ⟨none, rfl⟩ (fun | x9, a10, _, ⟨j11, rfl⟩ => ⟨[.sh ((eL (eT eI)) maps), .ow (List.map (eT eI) a10), .sh ((eT eI) x9), .no, .no, .no], rfl, (rs_last (rs_bindP (rv_tst (rv_dOp2m (rv_bind (rv_var rfl) (rv_bind (rv_rdO rfl) (rv_lift (ninL_ (in_py (x := x9) (xs := a10) (pyT pyI)).1)))))) (rs_ite (fun _ => (rs_x (x_appP (e := (eT eI)) (xs := a10) rfl (rv_var rfl) rfl) fun c12 => rs_st ([.sh ((eL (eT eI)) maps), .ow (List.map (eT eI) c12), .sh ((eT eI) x9), .no, .no, .no]) rfl (rs_end ⟨rfl, (some ((eT eI) x9)), rfl⟩))) (fun _ => (rs_nx (rs_end ⟨rfl, (some ((eT eI) x9)), rfl⟩))))))⟩) (fun | a13, _, ⟨j14, rfl⟩ => (rs_bindG (re_dRng (re_bindP rv_ret (re_lift op_rng))) fun c15 => (rs_for0 (e := eI) (xs := c15) (a := a13) (f := fun (x76 : Int) (a77 : (List (List Int))) => M.bind (pfold (fun (x105 : (List Int)) (a106 : (List (List Int))) => M.bind (pfold (fun (x116 : (List Int)) (a117 : (List (List Int))) => M.bind (P__law_after x105 x116) fun c120 => if ((!has c120 a117) && (decide ((a117.length : Int) < 30))) = true then M.bind (pApp a117 c120) fun c121 => .ok c121 else .ok a117) maps a106) fun (a122 : (List (List Int))) => .ok a122) a77 a77) fun (a128 : (List (List Int))) => .ok a128) (fun (a141 : (List (List Int))) (st : DSt) => ∃ (j142 : (Option D)), ∃ (j143 : (Option D)), ∃ (j144 : (Option D)), ∃ (j145 : (Option D)), st = [.sh ((eL (eT eI)) maps), .ow (List.map (eT eI) a141), jk j142, jk j143, jk j144, jk j145]) ⟨j14, none, none, none, rfl⟩ (fun | x76, a77, _, ⟨j78, j79, j80, j81, rfl⟩ => ⟨[.sh ((eL (eT eI)) maps), .ow (List.map (eT eI) a77), jk j78, .sh (eI x76), jk j80, jk j81], rfl, (rs_last (rs_bindP (rv_dItems (rv_bind (rv_frzN (d := ((eL (eT eI)) a77)) (rv_dN1n (rv_bind (rv_rdO rfl) (rv_lift (y := ((List.map (eT eI)) a77)) rfl))) rfl) (rv_lift (y := ((List.map (eT eI)) a77)) rfl))) (rs_for0 (e := (eT eI)) (xs := a77) (a := a77) (f := fun (x105 : (List Int)) (a106 : (List (List Int))) => M.bind (pfold (fun (x116 : (List Int)) (a117 : (List (List Int))) => M.bind (P__law_after x105 x116) fun c120 => if ((!has c120 a117) && (decide ((a117.length : Int) < 30))) = true then M.bind (pApp a117 c120) fun c121 => .ok c121 else .ok a117) maps a106) fun (a122 : (List (List Int))) => .ok a122) (fun (a132 : (List (List Int))) (st : DSt) => ∃ (j133 : (Option D)), ∃ (j134 : (Option D)), ∃ (j135 : (Option D)), st = [.sh ((eL (eT eI)) maps), .ow (List.map (eT eI) a132), jk j133, .sh (eI x76), jk j134, jk j135]) ⟨j78, j80, j81, rfl⟩ (fun | x105, a106, _, ⟨j107, j108, j109, rfl⟩ => ⟨[.sh ((eL (eT eI)) maps), .ow (List.map (eT eI) a106), .sh ((eT eI) x105), .sh (eI x76), jk j108, jk j109], rfl, (rs_last (rs_bindP (rv_dItems (rv_bind (rv_var rfl) (rv_lift (y := ((List.map (eT eI)) maps)) rfl))) (rs_for0 (e := (eT eI)) (xs := maps) (a := a106) (f := fun (x116 : (List Int)) (a117 : (List (List Int))) => M.bind (P__law_after x105 x116) fun c120 => if ((!has c120 a117) && (decide ((a117.length : Int) < 30))) = true then M.bind (pApp a117 c120) fun c121 => .ok c121 else .ok a117) (fun (a125 : (List (List Int))) (st : DSt) => ∃ (j126 : (Option D)), ∃ (j127 : (Option D)), st = [.sh ((eL (eT eI)) maps), .ow (List.map (eT eI) a125), .sh ((eT eI) x105), .sh (eI x76), jk j126, jk j127]) ⟨j108, j109, rfl⟩ (fun | x116, a117, _, ⟨j118, j119, rfl⟩ => ⟨[.sh ((eL (eT eI)) maps), .ow (List.map (eT eI) a117), .sh ((eT eI) x105), .sh (eI x76), .sh ((eT eI) x116), jk j119], rfl, (rs_bindG (re_dCall (re_consP (rv_var rfl) (re_consP (rv_var rfl) (re_nil (re_liftM (S__law_after x105 x116)))))) fun c120 => (rs_put (st1 := [.sh ((eL (eT eI)) maps), .ow (List.map (eT eI) a117), .sh ((eT eI) x105), .sh (eI x76), .sh ((eT eI) x116), .sh ((eT eI) c120)]) rfl (rs_last (rs_bindP (rv_dAnd (rv_bind (rv_tst (rv_dOp2m (rv_bind (rv_var rfl) (rv_bind (rv_rdO rfl) (rv_lift (ninL_ (in_py (x := c120) (xs := a117) (pyT pyI)).1)))))) (rv_and fun _ => (rv_tst (rv_dOp2 (rv_bind (rv_dOp1n (rv_bind (rv_rdO rfl) (rv_lift op_lenL))) (rv_bind rv_ret (rv_lift (y := (eB (decide ((a117.length : Int) < 30)))) rfl)))))))) (rs_ite (fun _ => (rs_x (x_appP (e := (eT eI)) (xs := a117) rfl (rv_var rfl) rfl) fun c121 => rs_st ([.sh ((eL (eT eI)) maps), .ow (List.map (eT eI) c121), .sh ((eT eI) x105), .sh (eI x76), .sh ((eT eI) x116), .sh ((eT eI) c120)]) rfl (rs_end ⟨rfl, (some ((eT eI) x116)), (some ((eT eI) c120)), rfl⟩))) (fun _ => (rs_nx (rs_end ⟨rfl, (some ((eT eI) x116)), (some ((eT eI) c120)), rfl⟩))))))))⟩) (fun | a122, _, ⟨j123, j124, rfl⟩ => (rs_end ⟨rfl, (some ((eT eI) x105)), j123, j124, rfl⟩)))))⟩) (fun | a128, _, ⟨j129, j130, j131, rfl⟩ => (rs_end ⟨rfl, j129, (some (eI x76)), j130, j131, rfl⟩)))))⟩) (fun | a136, _, ⟨j137, j138, j139, j140, rfl⟩ => (rs_last (rs_bindP (rv_frz rfl) (rs_ret (.inl rfl)))))))))))))
def P__law_of_maps (state_here : (List Int)) (most : Int) : M ((List (List Int)) × (List Int)) := M.bind (M.bind (P__law_take state_here 2) fun c3 => .ok ((2 + c3.1), c3.2)) fun c4 => M.bind (M.bind (M.bind (P__law_take c4.2 2) fun c8 => .ok ((1 + c8.1), c8.2)) fun c9 => M.bind (pRng c9.1) fun c10 => .ok (c10, c9.2)) fun c11 => M.bind (pfold (fun (x35 : Int) (a36 : ((List Int) × (List (List Int)))) => M.bind (M.bind (pRng c4.1) fun c38 => pMapS (fun (x39 : Int) (r40 : List Int) => P__law_take r40 c4.1) c38 a36.1) fun c43 => M.bind (pApp a36.2 c43.1) fun c44 => .ok (c43.2, c44)) c11.1 (c11.2, [])) fun (a46 : ((List Int) × (List (List Int)))) => M.bind (P__law_closed a46.2) fun c48 => M.bind (if (decide ((c48.length : Int) > most)) = true then M.bind (P__law_closed (cutD a46.2 none (some 1))) fun c50 => .ok c50 else .ok c48 : M (List (List Int))) fun (a51 : (List (List Int))) => M.bind (if (decide ((a51.length : Int) > most)) = true then M.bind (M.bind (M.bind (pRng c4.1) fun c58 => pMap (fun (x59 : Int) => M.bind (pAt a46.2 0) fun c60 => pAt c60 0) c58) fun c62 => .ok [c62]) fun c63 => .ok c63 else .ok a51 : M (List (List Int))) fun (a64 : (List (List Int))) => M.bind (pMap (fun (x66 : (List Int)) => pMap (fun (x67 : (List Int)) => M.bind (P__law_after x66 x67) fun c68 => pIndex a64 c68) a64) a64) fun c70 => .ok (c70, a46.1)
theorem S__law_of_maps (state_here : (List Int)) (most : Int) : DR (d__law_of_maps (List.map eI state_here) [eI most]) (P__law_of_maps state_here most) (eL (eT eI)) eI := fn_R rfl (show RS false (sSeq (sSet 2 (dOp2 opAdd (dC (.int 2)) (dCallR d__law_take 0 (dCons (dC (.int 2)) dNil)))) (sSeq (sOwn 3 (dLst dNil)) (sSeq (sFor (.nm 4) (dRng (dOp2 opAdd (dC (.int 1)) (dCallR d__law_take 0 (dCons (dC (.int 2)) dNil)))) (sExpr (dAppend 3 (dOp1 opTuple (dFrz (dComp [6] (.nm 6) (dRng (dVar 2)) dYes (dCallR d__law_take 0 (dCons (dVar 2) dNil)))))))) (sSeq (sSet 5 (dCall d__law_closed (dCons (dVar 3) dNil))) (sSeq (sIf (dTst (dOp2 opGt (dOp1n opLen 5) (dVar 1))) (sSet 5 (dCall d__law_closed (dCons (dSln 3 dNoP (dPart (dC (.int 1)))) dNil))) sPass) (sSeq (sIf (dTst (dOp2 opGt (dOp1n opLen 5) (dVar 1))) (sOwn 5 (dLst (dCons (dOp1 opTuple (dFrz (dComp [6] (.nm 6) (dRng (dVar 2)) dYes (dOp2 opIx (dOp2n opIx 3 (dC (.int 0))) (dC (.int 0)))))) dNil))) sPass) (sRet (dFrz (dPre 5 (dComp [7] (.nm 7) (dItems (dVar 5)) dYes (dOp1 opTuple (dFrz (dComp [8] (.nm 8) (dItems (dVar 5)) dYes (dIndexN 5 (dCall d__law_after (dCons (dVar 7) (dCons (dVar 8) dNil))))))))))))))))) [.rf 0 (List.map eI state_here), .sh (eI most), .no, .no, .no, .no, .no, .no, .no] (P__law_of_maps state_here most) (Kby (eL (eT eI)) eI) from
  (rs_bindS (fun (r5 : List Int) => [.rf 0 (List.map eI r5), .sh (eI most), .no, .no, .no, .no, .no, .no, .no]) (rt_dOp2 (rt_bindP rv_ret (rt_bindS (rt_dCallR (rt_bindP (rv_owR rfl) (rt_consP rv_ret (rt_nil (rt_callR (S := fun r2 => [.rf 0 (List.map eI r2), .sh (eI most), .no, .no, .no, .no, .no, .no, .no]) rfl (fun _ => rfl) (S__law_take state_here 2)))))) fun c3 => (rt_rv (v := eI) (rv_lift (y := (eI (2 + c3.1))) rfl))))) fun c4 => (rs_put (st1 := [.rf 0 (List.map eI c4.2), .sh (eI most), .sh (eI c4.1), .no, .no, .no, .no, .no, .no]) rfl (rs_bindP (rv_dLst (rv_nil (rv_lift (y := ((List.map eI) [])) (op_lst (by exact Nat.le_of_ble_eq_true rfl) rfl)))) (rs_put (st1 := [.rf 0 (List.map eI c4.2), .sh (eI most), .sh (eI c4.1), .ow (List.map eI []), .no, .no, .no, .no, .no]) rfl (rs_bindS (fun (r12 : List Int) => [.rf 0 (List.map eI r12), .sh (eI most), .sh (eI c4.1), .ow (List.map eI []), .no, .no, .no, .no, .no]) (rt_dRng (rt_bindS (rt_dOp2 (rt_bindP rv_ret (rt_bindS (rt_dCallR (rt_bindP (rv_owR rfl) (rt_consP rv_ret (rt_nil (rt_callR (S := fun r7 => [.rf 0 (List.map eI r7), .sh (eI most), .sh (eI c4.1), .ow (List.map eI []), .no, .no, .no, .no, .no]) rfl (fun _ => rfl) (S__law_take c4.2 2)))))) fun c8 => (rt_rv (v := eI) (rv_lift (y := (eI (1 + c8.1))) rfl))))) fun c9 => (rt_re (re_lift op_rng)))) fun c11 => (rs_for0 (e := eI) (xs := c11.1) (a := (c11.2, [])) (f := fun (x35 : Int) (a36 : ((List Int) × (List (List Int)))) => M.bind (M.bind (pRng c4.1) fun c38 => pMapS (fun (x39 : Int) (r40 : List Int) => P__law_take r40 c4.1) c38 a36.1) fun c43 => M.bind (pApp a36.2 c43.1) fun c44 => .ok (c43.2, c44)) (fun (a74 : ((List Int) × (List (List Int)))) (st : DSt) => ∃ (j75 : (Option D)), st = [.rf 0 (List.map eI a74.1), .sh (eI most), .sh (eI c4.1), .ow (List.map (eT eI) a74.2), jk j75, .no, .no, .no, .no]) ⟨none, rfl⟩ (fun | x35, a36, _, ⟨j37, rfl⟩ => ⟨[.rf 0 (List.map eI a36.1), .sh (eI most), .sh (eI c4.1), .ow (List.map (eT eI) a36.2), .sh (eI x35), .no, .no, .no, .no], rfl, (rs_last (rs_appS (e := (eT eI)) (xs := a36.2) (fun (r45 : List Int) => [.rf 0 (List.map eI r45), .sh (eI most), .sh (eI c4.1), .ow (List.map (eT eI) a36.2), .sh (eI x35), .no, .no, .no, .no]) rfl (rt_dOp1 (rt_tail (w := (eT eI)) (rt_frzN (rt_bindG (re_dRng (re_bindP (rv_var rfl) (re_lift op_rng))) fun c38 => (rt_comp (e := eI) (f := fun (x39 : Int) (r40 : List Int) => P__law_take r40 c4.1) (S := fun (r40 : List Int) => [.rf 0 (List.map eI r40), .sh (eI most), .sh (eI c4.1), .ow (List.map (eT eI) a36.2), .sh (eI x35), .no, .no, .no, .no]) (fun (r40 : List Int) => [.rf 0 (List.map eI r40), .sh (eI most), .sh (eI c4.1), .ow (List.map (eT eI) a36.2), .sh (eI x35), .no, .no, .no, .no]) (fun (x39 : Int) (r40 : List Int) => [.rf 0 (List.map eI r40), .sh (eI most), .sh (eI c4.1), .ow (List.map (eT eI) a36.2), .sh (eI x35), .no, .sh (eI x39), .no, .no]) (fun _ => rfl) rfl (fun _ => rfl) (fun x39 r40 => ⟨rfl, (rt_dCallR (rt_bindP (rv_owR rfl) (rt_consP (rv_var rfl) (rt_nil (rt_callR (S := fun r41 => [.rf 0 (List.map eI r41), .sh (eI most), .sh (eI c4.1), .ow (List.map (eT eI) a36.2), .sh (eI x35), .no, .sh (eI x39), .no, .no]) rfl (fun _ => rfl) (S__law_take r40 c4.1)))))), rfl⟩)))) fun c42 => (rv_lift (y := ((eT eI) c42.1)) rfl))) (fun _ => rfl) fun c43 c44 => (rs_end ⟨rfl, (some (eI x35)), rfl⟩)))⟩) (fun | a46, _, ⟨j47, rfl⟩ => (rs_bindG (re_dCall (re_consP (rv_frz rfl) (re_nil (re_liftM (S__law_closed a46.2))))) fun c48 => (rs_put (st1 := [.rf 0 (List.map eI a46.1), .sh (eI most), .sh (eI c4.1), .sh ((eL (eT eI)) a46.2), jk j47, .sh ((eL (eT eI)) c48), .no, .no, .no]) rfl (rs_bindP (rv_tst (rv_dOp2 (rv_bind (rv_dOp1n (rv_bind (rv_rd rfl) (rv_lift op_lenL))) (rv_bind (rv_var rfl) (rv_lift (y := (eB (decide ((c48.length : Int) > most)))) rfl))))) (rs_join (I := (fun (a73 : (List (List Int))) (st : DSt) => st = [.rf 0 (List.map eI a46.1), .sh (eI most), .sh (eI c4.1), .sh ((eL (eT eI)) a46.2), jk j47, .sh ((eL (eT eI)) a73), .no, .no, .no])) (rs_iteN (fun _ => (rs_last (rs_bindG (re_dCall (re_consP (rv_dSln (rv_bind (rv_rd rfl) (rv_bind rv_ret (rv_bind (rv_dPart (rv_bind rv_ret (rv_lift (y := (some 1)) rfl))) (rv_bind (rv_rd rfl) (rv_lift (op_slL (e := (eT eI)) (xs := a46.2)))))))) (re_nil (re_liftM (S__law_closed (cutD a46.2 none (some 1))))))) fun c50 => (rs_put (st1 := [.rf 0 (List.map eI a46.1), .sh (eI most), .sh (eI c4.1), .sh ((eL (eT eI)) a46.2), jk j47, .sh ((eL (eT eI)) c50), .no, .no, .no]) rfl (rs_end ⟨rfl, rfl⟩))))) (fun _ => (rs_end ⟨rfl, rfl⟩))) fun | a51, _, rfl => (rs_bindP (rv_tst (rv_dOp2 (rv_bind (rv_dOp1n (rv_bind (rv_rd rfl) (rv_lift op_lenL))) (rv_bind (rv_var rfl) (rv_lift (y := (eB (decide ((a51.length : Int) > most)))) rfl))))) (rs_join (I := (fun (a71 : (List (List Int))) (st : DSt) => ∃ (z72 : Bool), st = [.rf 0 (List.map eI a46.1), .sh (eI most), .sh (eI c4.1), .sh ((eL (eT eI)) a46.2), jk j47, fz z72 (List.map (eT eI) a71), .no, .no, .no])) (rs_iteN (fun _ => (rs_last (rs_bindG (re_dLst (re_consG (re_dOp1 (re_tail (w := (eT eI)) (re_frzN (re_bindG (re_dRng (re_bindP (rv_var rfl) (re_lift op_rng))) fun c58 => (re_compM (e := eI) (f := fun (x59 : Int) => M.bind (pAt a46.2 0) fun c60 => pAt c60 0) ([.rf 0 (List.map eI a46.1), .sh (eI most), .sh (eI c4.1), .sh ((eL (eT eI)) a46.2), jk j47, .sh ((eL (eT eI)) a51), .no, .no, .no]) rfl rfl rfl (fun x59 => ⟨[.rf 0 (List.map eI a46.1), .sh (eI most), .sh (eI c4.1), .sh ((eL (eT eI)) a46.2), jk j47, .sh ((eL (eT eI)) a51), .sh (eI x59), .no, .no], [.rf 0 (List.map eI a46.1), .sh (eI most), .sh (eI c4.1), .sh ((eL (eT eI)) a46.2), jk j47, .sh ((eL (eT eI)) a51), .sh (eI x59), .no, .no], rfl, (re_dOp2 (re_bindG (re_dOp2n (re_bindP (rv_rd rfl) (re_bindP rv_ret (re_bindP (rv_rd rfl) (re_lift op_atL))))) fun c60 => (re_bindP rv_ret (re_lift op_atT)))), rfl, rfl⟩)))) fun c61 => (rv_lift (y := ((eT eI) c61)) rfl))) fun c62 => (re_nil (re_rv (w := (List.map (eT eI))) (rv_lift (y := ((List.map (eT eI)) [c62])) (op_lst (by exact Nat.le_of_ble_eq_true rfl) rfl)))))) fun c63 => (rs_put (st1 := [.rf 0 (List.map eI a46.1), .sh (eI most), .sh (eI c4.1), .sh ((eL (eT eI)) a46.2), jk j47, .ow (List.map (eT eI) c63), .no, .no, .no]) rfl (rs_end ⟨rfl, true, rfl⟩))))) (fun _ => (rs_end ⟨rfl, false, rfl⟩))) fun | a64, _, ⟨z65, rfl⟩ => (rs_last (rs_bindG (re_frzN (re_pre (st1 := [.rf 0 (List.map eI a46.1), .sh (eI most), .sh (eI c4.1), .sh ((eL (eT eI)) a46.2), jk j47, .sh ((eL (eT eI)) a64), .no, .no, .no]) (pre_fz rfl) (re_bindP (rv_dItems (rv_bind (rv_var rfl) (rv_lift (y := ((List.map (eT eI)) a64)) rfl))) (re_compM (e := (eT eI)) (f := fun (x66 : (List Int)) => pMap (fun (x67 : (List Int)) => M.bind (P__law_after x66 x67) fun c68 => pIndex a64 c68) a64) ([.rf 0 (List.map eI a46.1), .sh (eI most), .sh (eI c4.1), .sh ((eL (eT eI)) a46.2), jk j47, .sh ((eL (eT eI)) a64), .no, .no, .no]) rfl rfl rfl (fun x66 => ⟨[.rf 0 (List.map eI a46.1), .sh (eI most), .sh (eI c4.1), .sh ((eL (eT eI)) a46.2), jk j47, .sh ((eL (eT eI)) a64), .no, .sh ((eT eI) x66), .no], [.rf 0 (List.map eI a46.1), .sh (eI most), .sh (eI c4.1), .sh ((eL (eT eI)) a46.2), jk j47, .sh ((eL (eT eI)) a64), .no, .sh ((eT eI) x66), .no], rfl, (re_dOp1 (re_tail (w := (eT eI)) (re_frzN (re_bindP (rv_dItems (rv_bind (rv_var rfl) (rv_lift (y := ((List.map (eT eI)) a64)) rfl))) (re_compM (e := (eT eI)) (f := fun (x67 : (List Int)) => M.bind (P__law_after x66 x67) fun c68 => pIndex a64 c68) ([.rf 0 (List.map eI a46.1), .sh (eI most), .sh (eI c4.1), .sh ((eL (eT eI)) a46.2), jk j47, .sh ((eL (eT eI)) a64), .no, .sh ((eT eI) x66), .no]) rfl rfl rfl (fun x67 => ⟨[.rf 0 (List.map eI a46.1), .sh (eI most), .sh (eI c4.1), .sh ((eL (eT eI)) a46.2), jk j47, .sh ((eL (eT eI)) a64), .no, .sh ((eT eI) x66), .sh ((eT eI) x67)], [.rf 0 (List.map eI a46.1), .sh (eI most), .sh (eI c4.1), .sh ((eL (eT eI)) a46.2), jk j47, .sh ((eL (eT eI)) a64), .no, .sh ((eT eI) x66), .sh ((eT eI) x67)], rfl, (re_dIndexN (re_bindP (rv_rd rfl) (re_bindP (rv_lift rfl) (re_bindG (re_dCall (re_consP (rv_var rfl) (re_consP (rv_var rfl) (re_nil (re_liftM (S__law_after x66 x67)))))) fun c68 => (re_bindP (rv_rd rfl) (re_lift (index_py (x := c68) (xs := a64) (pyT pyI)))))))), rfl, rfl⟩)))) fun c69 => (rv_lift (y := ((eT eI) c69)) rfl))), rfl, rfl⟩))))) fun c70 => (rs_ret ⟨.inl rfl, _, rfl⟩)))))))))))))))))
def P__law_triples (a : Int) (b : Int) (g : Int) (twist : (List (List Int))) (holes : (List (List Bool))) (zero : Bool) : M (List (List Int)) := M.bind (M.bind (pMul a b) fun c1 => pMul c1 g) fun c2 => M.bind (pRng c2) fun c3 => M.bind (pfold (fun (x228 : Int) (a229 : (List (List Int))) => M.bind (pRng c2) fun c236 => M.bind (pfold (fun (x295 : Int) (a296 : (List Int)) => M.bind (pMod x228 b) fun c301 => M.bind (M.bind (pMul g b) fun c302 => pDiv x295 c302) fun c303 => M.bind (if zero = true then M.bind (pAt holes c301) fun c304 => pAt c304 c303 else .ok false) fun c305 => if c305 = true then M.bind (pApp a296 c2) fun c306 => .ok c306 else M.bind (M.bind (M.bind (M.bind (pDiv x228 b) fun c308 => M.bind (M.bind (pAt twist c301) fun c309 => pAt c309 c303) fun c310 => .ok (c308 + c310)) fun c311 => M.bind (pDiv x295 b) fun c312 => .ok (c311 + c312)) fun c314 => pMod c314 g) fun c315 => M.bind (M.bind (M.bind (M.bind (M.bind (M.bind (M.bind (pMul g b) fun c316 => pDiv x228 c316) fun c317 => pMul c317 g) fun c318 => .ok (c318 + c315)) fun c319 => pMul c319 b) fun c320 => M.bind (pMod x295 b) fun c321 => .ok (c320 + c321)) fun c323 => pApp a296 c323) fun c322 => .ok c322) c236 []) fun (a324 : (List Int)) => M.bind (M.bind (M.bind (M.bind (pRng (if zero = true then (1 : Int) else 0)) fun c329 => pMap (fun (x330 : Int) => .ok c2) c329) fun c331 => pCat a324 c331) fun c334 => pApp a229 c334) fun c333 => .ok c333) c3 []) fun (a340 : (List (List Int))) => if zero = true then M.bind (M.bind (M.bind (pRng (c2 + 1)) fun c347 => pMap (fun (x348 : Int) => .ok c2) c347) fun c351 => pApp a340 c351) fun c350 => .ok c350 else .ok a340
theorem S__law_triples (a : Int) (b : Int) (g : Int) (twist : (List (List Int))) (holes : (List (List Bool))) (zero : Bool) : DM (d__law_triples [eI a, eI b, eI g, (eL (eL eI)) twist, (eL (eL eB)) holes, eB zero]) (P__law_triples a b g twist holes zero) (eL (eT eI)) := fn_F rfl (show RS true (sSeq (sSet 6 (dOp2 opMul (dOp2 opMul (dVar 0) (dVar 1)) (dVar 2))) (sSeq (sOwn 7 (dLst dNil)) (sSeq (sFor (.nm 8) (dRng (dVar 6)) (sSeq (sOwn 9 (dLst dNil)) (sSeq (sFor (.nm 10) (dRng (dVar 6)) (sSeq (sSet 11 (dOp2 opMod (dOp1n opInt 8) (dVar 1))) (sSeq (sSet 12 (dOp2 opDiv (dVar 10) (dOp2 opMul (dVar 2) (dVar 1)))) (sIf (dAnd (dTst (dVar 5)) (dTst (dOp2 opIx (dOp2n opIx 4 (dVar 11)) (dVar 12)))) (sExpr (dAppend 9 (dVar 6))) (sSeq (sSet 13 (dOp2 opMod (dOp1 opInt (dOp2 opAdd (dOp2 opAdd (dOp2 opDiv (dVar 8) (dVar 1)) (dOp2 opIx (dOp2n opIx 3 (dVar 11)) (dVar 12))) (dOp2 opDiv (dVar 10) (dVar 1)))) (dVar 2))) (sExpr (dAppend 9 (dOp2 opAdd (dOp2 opMul (dOp2 opAdd (dOp2 opMul (dOp2 opDiv (dVar 8) (dOp2 opMul (dVar 2) (dVar 1))) (dVar 2)) (dVar 13)) (dVar 1)) (dOp2 opMod (dOp1n opInt 10) (dVar 1)))))))))) (sExpr (dAppend 7 (dOp1 opTuple (dFrz (dN2 nAdd (dVar 9) (dFrz (dComp [14] (.nm 14) (dRng (dOp1n opInt 5)) dYes (dVar 6))))))))))) (sSeq (sIf (dTst (dVar 5)) (sExpr (dAppend 7 (dOp1 opTuple (dFrz (dComp [14] (.nm 14) (dRng (dOp2 opAdd (dVar 6) (dC (.int 1)))) dYes (dVar 6)))))) sPass) (sRet (dVar 7)))))) [.sh (eI a), .sh (eI b), .sh (eI g), .sh ((eL (eL eI)) twist), .sh ((eL (eL eB)) holes), .sh (eB zero), .no, .no, .no, .no, .no, .no, .no, .no, .no] (P__law_triples a b g twist holes zero) (Kfn (eL (eT eI))) from
  (rs_bindG (re_dOp2 (re_bindG (re_dOp2 (re_bindP (rv_var rfl) (re_bindP (rv_var rfl) (re_lift op_mul)))) fun c1 => (re_bindP (rv_var rfl) (re_lift op_mul)))) fun c2 => (rs_put (st1 := [.sh (eI a), .sh (eI b), .sh (eI g), .sh ((eL (eL eI)) twist), .sh ((eL (eL eB)) holes), .sh (eB zero), .sh (eI c2), .no, .no, .no, .no, .no, .no, .no, .no]) rfl (rs_bindP (rv_dLst (rv_nil (rv_lift (y := ((List.map eI) [])) (op_lst (by exact Nat.le_of_ble_eq_true rfl) rfl)))) (rs_put (st1 := [.sh (eI a), .sh (eI b), .sh (eI g), .sh ((eL (eL eI)) twist), .sh ((eL (eL eB)) holes), .sh (eB zero), .sh (eI c2), .ow (List.map eI []), .no, .no, .no, .no, .no, .no, .no]) rfl (rs_bindG (re_dRng (re_bindP (rv_var rfl) (re_lift op_rng))) fun c3 => (rs_for0 (e := eI) (xs := c3) (a := []) (f := fun (x228 : Int) (a229 : (List (List Int))) => M.bind (pRng c2) fun c236 => M.bind (pfold (fun (x295 : Int) (a296 : (List Int)) => M.bind (pMod x228 b) fun c301 => M.bind (M.bind (pMul g b) fun c302 => pDiv x295 c302) fun c303 => M.bind (if zero = true then M.bind (pAt holes c301) fun c304 => pAt c304 c303 else .ok false) fun c305 => if c305 = true then M.bind (pApp a296 c2) fun c306 => .ok c306 else M.bind (M.bind (M.bind (M.bind (pDiv x228 b) fun c308 => M.bind (M.bind (pAt twist c301) fun c309 => pAt c309 c303) fun c310 => .ok (c308 + c310)) fun c311 => M.bind (pDiv x295 b) fun c312 => .ok (c311 + c312)) fun c314 => pMod c314 g) fun c315 => M.bind (M.bind (M.bind (M.bind (M.bind (M.bind (M.bind (pMul g b) fun c316 => pDiv x228 c316) fun c317 => pMul c317 g) fun c318 => .ok (c318 + c315)) fun c319 => pMul c319 b) fun c320 => M.bind (pMod x295 b) fun c321 => .ok (c320 + c321)) fun c323 => pApp a296 c323) fun c322 => .ok c322) c236 []) fun (a324 : (List Int)) => M.bind (M.bind (M.bind (M.bind (pRng (if zero = true then (1 : Int) else 0)) fun c329 => pMap (fun (x330 : Int) => .ok c2) c329) fun c331 => pCat a324 c331) fun c334 => pApp a229 c334) fun c333 => .ok c333) (fun (a352 : (List (List Int))) (st : DSt) => ∃ (j353 : (Option D)), ∃ (j354 : (Option D)), ∃ (j355 : (Option D)), ∃ (j356 : (Option D)), ∃ (j357 : (Option D)), ∃ (j358 : (Option D)), st = [.sh (eI a), .sh (eI b), .sh (eI g), .sh ((eL (eL eI)) twist), .sh ((eL (eL eB)) holes), .sh (eB zero), .sh (eI c2), .ow (List.map (eT eI) a352), jk j353, jk j354, jk j355, jk j356, jk j357, jk j358, .no]) ⟨none, none, none, none, none, none, rfl⟩ (fun | x228, a229, _, ⟨j230, j231, j232, j233, j234, j235, rfl⟩ => ⟨[.sh (eI a), .sh (eI b), .sh (eI g), .sh ((eL (eL eI)) twist), .sh ((eL (eL eB)) holes), .sh (eB zero), .sh (eI c2), .ow (List.map (eT eI) a229), .sh (eI x228), jk j231, jk j232, jk j233, jk j234, jk j235, .no], rfl, (rs_bindP (rv_dLst (rv_nil (rv_lift (y := ((List.map eI) [])) (op_lst (by exact Nat.le_of_ble_eq_true rfl) rfl)))) (rs_put (st1 := [.sh (eI a), .sh (eI b), .sh (eI g), .sh ((eL (eL eI)) twist), .sh ((eL (eL eB)) holes), .sh (eB zero), .sh (eI c2), .ow (List.map (eT eI) a229), .sh (eI x228), .ow (List.map eI []), jk j232, jk j233, jk j234, jk j235, .no]) rfl (rs_bindG (re_dRng (re_bindP (rv_var rfl) (re_lift op_rng))) fun c236 => (rs_for0 (e := eI) (xs := c236) (a := []) (f := fun (x295 : Int) (a296 : (List Int)) => M.bind (pMod x228 b) fun c301 => M.bind (M.bind (pMul g b) fun c302 => pDiv x295 c302) fun c303 => M.bind (if zero = true then M.bind (pAt holes c301) fun c304 => pAt c304 c303 else .ok false) fun c305 => if c305 = true then M.bind (pApp a296 c2) fun c306 => .ok c306 else M.bind (M.bind (M.bind (M.bind (pDiv x228 b) fun c308 => M.bind (M.bind (pAt twist c301) fun c309 => pAt c309 c303) fun c310 => .ok (c308 + c310)) fun c311 => M.bind (pDiv x295 b) fun c312 => .ok (c311 + c312)) fun c314 => pMod c314 g) fun c315 => M.bind (M.bind (M.bind (M.bind (M.bind (M.bind (M.bind (pMul g b) fun c316 => pDiv x228 c316) fun c317 => pMul c317 g) fun c318 => .ok (c318 + c315)) fun c319 => pMul c319 b) fun c320 => M.bind (pMod x295 b) fun c321 => .ok (c320 + c321)) fun c323 => pApp a296 c323) fun c322 => .ok c322) (fun (a335 : (List Int)) (st : DSt) => ∃ (j336 : (Option D)), ∃ (j337 : (Option D)), ∃ (j338 : (Option D)), ∃ (j339 : (Option D)), st = [.sh (eI a), .sh (eI b), .sh (eI g), .sh ((eL (eL eI)) twist), .sh ((eL (eL eB)) holes), .sh (eB zero), .sh (eI c2), .ow (List.map (eT eI) a229), .sh (eI x228), .ow (List.map eI a335), jk j336, jk j337, jk j338, jk j339, .no]) ⟨j232, j233, j234, j235, rfl⟩ (fun | x295, a296, _, ⟨j297, j298, j299, j300, rfl⟩ => ⟨[.sh (eI a), .sh (eI b), .sh (eI g), .sh ((eL (eL eI)) twist), .sh ((eL (eL eB)) holes), .sh (eB zero), .sh (eI c2), .ow (List.map (eT eI) a229), .sh (eI x228), .ow (List.map eI a296), .sh (eI x295), jk j298, jk j299, jk j300, .no], rfl, (rs_bindG (re_dOp2 (re_bindP (rv_dOp1n (rv_bind (rv_rd rfl) (rv_lift (y := (eI x228)) rfl))) (re_bindP (rv_var rfl) (re_lift op_mod)))) fun c301 => (rs_put (st1 := [.sh (eI a), .sh (eI b), .sh (eI g), .sh ((eL (eL eI)) twist), .sh ((eL (eL eB)) holes), .sh (eB zero), .sh (eI c2), .ow (List.map (eT eI) a229), .sh (eI x228), .ow (List.map eI a296), .sh (eI x295), .sh (eI c301), jk j299, jk j300, .no]) rfl (rs_bindG (re_dOp2 (re_bindP (rv_var rfl) (re_bindG (re_dOp2 (re_bindP (rv_var rfl) (re_bindP (rv_var rfl) (re_lift op_mul)))) fun c302 => (re_lift op_div)))) fun c303 => (rs_put (st1 := [.sh (eI a), .sh (eI b), .sh (eI g), .sh ((eL (eL eI)) twist), .sh ((eL (eL eB)) holes), .sh (eB zero), .sh (eI c2), .ow (List.map (eT eI) a229), .sh (eI x228), .ow (List.map eI a296), .sh (eI x295), .sh (eI c301), .sh (eI c303), jk j300, .no]) rfl (rs_last (rs_bindG (re_dAnd (re_bindP (rv_tst (rv_var rfl)) (re_ite (fun _ => (re_tst (re_dOp2 (re_bindG (re_dOp2n (re_bindP (rv_rd rfl) (re_bindP (rv_var rfl) (re_bindP (rv_rd rfl) (re_lift op_atL))))) fun c304 => (re_bindP (rv_var rfl) (re_lift op_atL)))))) (fun _ => re_rv rv_ret)))) fun c305 => (rs_ite (fun _ => (rs_x (x_appP (e := eI) (xs := a296) rfl (rv_var rfl) rfl) fun c306 => rs_st ([.sh (eI a), .sh (eI b), .sh (eI g), .sh ((eL (eL eI)) twist), .sh ((eL (eL eB)) holes), .sh (eB zero), .sh (eI c2), .ow (List.map (eT eI) a229), .sh (eI x228), .ow (List.map eI c306), .sh (eI x295), .sh (eI c301), .sh (eI c303), jk j300, .no]) rfl (rs_end ⟨rfl, (some (eI x295)), (some (eI c301)), (some (eI c303)), j300, rfl⟩))) (fun _ => (rs_seq (rs_bindG (re_dOp2 (re_bindG (re_dOp1 (re_tail (w := eI) (re_dOp2 (re_bindG (re_dOp2 (re_bindG (re_dOp2 (re_bindP (rv_var rfl) (re_bindP (rv_var rfl) (re_lift op_div)))) fun c308 => (re_bindG (re_dOp2 (re_bindG (re_dOp2n (re_bindP (rv_rd rfl) (re_bindP (rv_var rfl) (re_bindP (rv_rd rfl) (re_lift op_atL))))) fun c309 => (re_bindP (rv_var rfl) (re_lift op_atL)))) fun c310 => (re_rv (w := eI) (rv_lift (y := (eI (c308 + c310))) rfl))))) fun c311 => (re_bindG (re_dOp2 (re_bindP (rv_var rfl) (re_bindP (rv_var rfl) (re_lift op_div)))) fun c312 => (re_rv (w := eI) (rv_lift (y := (eI (c311 + c312))) rfl))))) fun c313 => (rv_lift (y := (eI c313)) rfl))) fun c314 => (re_bindP (rv_var rfl) (re_lift op_mod)))) fun c315 => (rs_put (st1 := [.sh (eI a), .sh (eI b), .sh (eI g), .sh ((eL (eL eI)) twist), .sh ((eL (eL eB)) holes), .sh (eB zero), .sh (eI c2), .ow (List.map (eT eI) a229), .sh (eI x228), .ow (List.map eI a296), .sh (eI x295), .sh (eI c301), .sh (eI c303), .sh (eI c315), .no]) rfl (rs_x (x_appG (e := eI) (xs := a296) rfl (re_dOp2 (re_bindG (re_dOp2 (re_bindG (re_dOp2 (re_bindG (re_dOp2 (re_bindG (re_dOp2 (re_bindP (rv_var rfl) (re_bindG (re_dOp2 (re_bindP (rv_var rfl) (re_bindP (rv_var rfl) (re_lift op_mul)))) fun c316 => (re_lift op_div)))) fun c317 => (re_bindP (rv_var rfl) (re_lift op_mul)))) fun c318 => (re_bindP (rv_var rfl) (re_rv (w := eI) (rv_lift (y := (eI (c318 + c315))) rfl))))) fun c319 => (re_bindP (rv_var rfl) (re_lift op_mul)))) fun c320 => (re_bindG (re_dOp2 (re_bindP (rv_dOp1n (rv_bind (rv_rd rfl) (rv_lift (y := (eI x295)) rfl))) (re_bindP (rv_var rfl) (re_lift op_mod)))) fun c321 => (re_rv (w := eI) (rv_lift (y := (eI (c320 + c321))) rfl))))) rfl) fun c322 => rs_st ([.sh (eI a), .sh (eI b), .sh (eI g), .sh ((eL (eL eI)) twist), .sh ((eL (eL eB)) holes), .sh (eB zero), .sh (eI c2), .ow (List.map (eT eI) a229), .sh (eI x228), .ow (List.map eI c322), .sh (eI x295), .sh (eI c301), .sh (eI c303), .sh (eI c315), .no]) rfl (rs_end ⟨rfl, (some (eI x295)), (some (eI c301)), (some (eI c303)), (some (eI c315)), rfl⟩)))))))))))))⟩) (fun | a324, _, ⟨j325, j326, j327, j328, rfl⟩ => (rs_last (rs_x (x_appG (e := (eT eI)) (xs := a229) rfl (re_dOp1 (re_tail (w := (eT eI)) (re_frzN (re_dN2 (re_bindP (rv_frz rfl) (re_bindG (re_frzN (re_bindG (re_dRng (re_bindP (rv_dOp1n (rv_bind (rv_rd rfl) (rv_lift (y := (eI (if zero = true then (1 : Int) else 0))) rfl))) (re_lift op_rng))) fun c329 => (re_compM (e := eI) (f := fun (x330 : Int) => .ok c2) ([.sh (eI a), .sh (eI b), .sh (eI g), .sh ((eL (eL eI)) twist), .sh ((eL (eL eB)) holes), .sh (eB zero), .sh (eI c2), .ow (List.map (eT eI) a229), .sh (eI x228), .sh ((eL eI) a324), jk j325, jk j326, jk j327, jk j328, .no]) rfl rfl rfl (fun x330 => ⟨[.sh (eI a), .sh (eI b), .sh (eI g), .sh ((eL (eL eI)) twist), .sh ((eL (eL eB)) holes), .sh (eB zero), .sh (eI c2), .ow (List.map (eT eI) a229), .sh (eI x228), .sh ((eL eI) a324), jk j325, jk j326, jk j327, jk j328, .sh (eI x330)], [.sh (eI a), .sh (eI b), .sh (eI g), .sh ((eL (eL eI)) twist), .sh ((eL (eL eB)) holes), .sh (eB zero), .sh (eI c2), .ow (List.map (eT eI) a229), .sh (eI x228), .sh ((eL eI) a324), jk j325, jk j326, jk j327, jk j328, .sh (eI x330)], rfl, (re_rv (w := eI) (rv_var rfl)), rfl, rfl⟩)))) fun c331 => (re_lift (op_nCat (e := eI) (xs := a324) (ys := c331))))))) fun c332 => (rv_lift (y := ((eT eI) c332)) rfl))) rfl) fun c333 => rs_st ([.sh (eI a), .sh (eI b), .sh (eI g), .sh ((eL (eL eI)) twist), .sh ((eL (eL eB)) holes), .sh (eB zero), .sh (eI c2), .ow (List.map (eT eI) c333), .sh (eI x228), .sh ((eL eI) a324), jk j325, jk j326, jk j327, jk j328, .no]) rfl (rs_end ⟨rfl, (some (eI x228)), (some ((eL eI) a324)), j325, j326, j327, j328, rfl⟩))))))))⟩) (fun | a340, _, ⟨j341, j342, j343, j344, j345, j346, rfl⟩ => (rs_bindP (rv_tst (rv_var rfl)) (rs_ite (fun _ => (rs_x (x_appG (e := (eT eI)) (xs := a340) rfl (re_dOp1 (re_tail (w := (eT eI)) (re_frzN (re_bindG (re_dRng (re_bindP (rv_dOp2 (rv_bind (rv_var rfl) (rv_bind rv_ret (rv_lift (y := (eI (c2 + 1))) rfl)))) (re_lift op_rng))) fun c347 => (re_compM (e := eI) (f := fun (x348 : Int) => .ok c2) ([.sh (eI a), .sh (eI b), .sh (eI g), .sh ((eL (eL eI)) twist), .sh ((eL (eL eB)) holes), .sh (eB zero), .sh (eI c2), .ow (List.map (eT eI) a340), jk j341, jk j342, jk j343, jk j344, jk j345, jk j346, .no]) rfl rfl rfl (fun x348 => ⟨[.sh (eI a), .sh (eI b), .sh (eI g), .sh ((eL (eL eI)) twist), .sh ((eL (eL eB)) holes), .sh (eB zero), .sh (eI c2), .ow (List.map (eT eI) a340), jk j341, jk j342, jk j343, jk j344, jk j345, jk j346, .sh (eI x348)], [.sh (eI a), .sh (eI b), .sh (eI g), .sh ((eL (eL eI)) twist), .sh ((eL (eL eB)) holes), .sh (eB zero), .sh (eI c2), .ow (List.map (eT eI) a340), jk j341, jk j342, jk j343, jk j344, jk j345, jk j346, .sh (eI x348)], rfl, (re_rv (w := eI) (rv_var rfl)), rfl, rfl⟩)))) fun c349 => (rv_lift (y := ((eT eI) c349)) rfl))) rfl) fun c350 => rs_st ([.sh (eI a), .sh (eI b), .sh (eI g), .sh ((eL (eL eI)) twist), .sh ((eL (eL eB)) holes), .sh (eB zero), .sh (eI c2), .ow (List.map (eT eI) c350), jk j341, jk j342, jk j343, jk j344, jk j345, jk j346, .no]) rfl (rs_last (rs_bindP (rv_frz rfl) (rs_ret (.inl rfl)))))) (fun _ => (rs_nx (rs_last (rs_bindP (rv_frz rfl) (rs_ret (.inl rfl))))))))))))))))
def P__law_blocks (state_here : (List Int)) (most : Int) : M ((List (List Int)) × (List Int)) := M.bind (M.bind (P__law_take state_here 2) fun c3 => .ok ((1 + c3.1), c3.2)) fun c4 => M.bind (M.bind (P__law_take c4.2 2) fun c8 => .ok ((1 + c8.1), c8.2)) fun c9 => M.bind (M.bind (P__law_take c9.2 2) fun c13 => .ok ((1 + c13.1), c13.2)) fun c14 => M.bind (M.bind (M.bind (M.bind (pMul c4.1 c9.1) fun c16 => pMul c16 c14.1) fun c17 => .ok (c17 + 1)) fun c18 => .ok (decide (c18 > most))) fun c19 => M.bind (if c19 = true then .ok (1, 1, (if most < 2 then most else 2)) else .ok (c4.1, c9.1, c14.1) : M (Int × Int × Int)) fun (a20 : (Int × Int × Int)) => M.bind (M.bind (pRng a20.2.1) fun c21 => pMapS (fun (x22 : Int) (r23 : List Int) => M.bind (pRng a20.1) fun c24 => pMapS (fun (x25 : Int) (r26 : List Int) => P__law_take r26 a20.2.2) c24 r23) c21 c14.2) fun c28 => M.bind (M.bind (pRng a20.2.1) fun c30 => pMapS (fun (x31 : Int) (r32 : List Int) => M.bind (pRng a20.1) fun c33 => pMapS (fun (x34 : Int) (r35 : List Int) => M.bind (P__law_take r35 3) fun c37 => .ok ((decide (c37.1 = 0)), c37.2)) c33 r32) c30 c28.2) fun c38 => M.bind (M.bind (M.bind (P__law_take c38.2 2) fun c41 => .ok ((decide (c41.1 = 0)), c41.2)) fun c42 => if c42.1 = true then M.bind (M.bind (M.bind (pMul a20.1 a20.2.1) fun c45 => pMul c45 a20.2.2) fun c46 => .ok (decide (c46 < most))) fun z => .ok (z, c42.2) else .ok (false, c42.2)) fun c47 => M.bind (P__law_triples a20.1 a20.2.1 a20.2.2 c28.1 c38.1 c47.1) fun c49 => .ok (c49, c47.2)
theorem S__law_blocks (state_here : (List Int)) (most : Int) : DR (d__law_blocks (List.map eI state_here) [eI most]) (P__law_blocks state_here most) (eL (eT eI)) eI := fn_R rfl (show RS false (sSeq (sSet 2 (dOp2 opAdd (dC (.int 1)) (dCallR d__law_take 0 (dCons (dC (.int 2)) dNil)))) (sSeq (sSet 3 (dOp2 opAdd (dC (.int 1)) (dCallR d__law_take 0 (dCons (dC (.int 2)) dNil)))) (sSeq (sSet 4 (dOp2 opAdd (dC (.int 1)) (dCallR d__law_take 0 (dCons (dC (.int 2)) dNil)))) (sSeq (sIf (dTst (dOp2 opGt (dOp2 opAdd (dOp2 opMul (dOp2 opMul (dVar 2) (dVar 3)) (dVar 4)) (dC (.int 1))) (dVar 1))) (sAsg (.nms [2, 3, 4]) (dTup (dCons (dC (.int 1)) (dCons (dC (.int 1)) (dCons (dOp2 opMin2 (dC (.int 2)) (dVar 1)) dNil))))) sPass) (sSeq (sOwn 5 (dComp [8] (.nm 8) (dRng (dVar 3)) dYes (dFrz (dComp [9] (.nm 9) (dRng (dVar 2)) dYes (dCallR d__law_take 0 (dCons (dVar 4) dNil)))))) (sSeq (sOwn 6 (dComp [8] (.nm 8) (dRng (dVar 3)) dYes (dFrz (dComp [9] (.nm 9) (dRng (dVar 2)) dYes (dOp2 opEq (dCallR d__law_take 0 (dCons (dC (.int 3)) dNil)) (dC (.int 0))))))) (sSeq (sSet 7 (dIf (dTst (dOp2 opEq (dCallR d__law_take 0 (dCons (dC (.int 2)) dNil)) (dC (.int 0)))) (dOp2 opLt (dOp2 opMul (dOp2 opMul (dVar 2) (dVar 3)) (dVar 4)) (dVar 1)) (dC (.bl false)))) (sRet (dCall d__law_triples (dCons (dVar 2) (dCons (dVar 3) (dCons (dVar 4) (dCons (dVar 5) (dCons (dVar 6) (dCons (dVar 7) dNil))))))))))))))) [.rf 0 (List.map eI state_here), .sh (eI most), .no, .no, .no, .no, .no, .no, .no, .no] (P__law_blocks state_here most) (Kby (eL (eT eI)) eI) from
  (rs_bindS (fun (r5 : List Int) => [.rf 0 (List.map eI r5), .sh (eI most), .no, .no, .no, .no, .no, .no, .no, .no]) (rt_dOp2 (rt_bindP rv_ret (rt_bindS (rt_dCallR (rt_bindP (rv_owR rfl) (rt_consP rv_ret (rt_nil (rt_callR (S := fun r2 => [.rf 0 (List.map eI r2), .sh (eI most), .no, .no, .no, .no, .no, .no, .no, .no]) rfl (fun _ => rfl) (S__law_take state_here 2)))))) fun c3 => (rt_rv (v := eI) (rv_lift (y := (eI (1 + c3.1))) rfl))))) fun c4 => (rs_put (st1 := [.rf 0 (List.map eI c4.2), .sh (eI most), .sh (eI c4.1), .no, .no, .no, .no, .no, .no, .no]) rfl (rs_bindS (fun (r10 : List Int) => [.rf 0 (List.map eI r10), .sh (eI most), .sh (eI c4.1), .no, .no, .no, .no, .no, .no, .no]) (rt_dOp2 (rt_bindP rv_ret (rt_bindS (rt_dCallR (rt_bindP (rv_owR rfl) (rt_consP rv_ret (rt_nil (rt_callR (S := fun r7 => [.rf 0 (List.map eI r7), .sh (eI most), .sh (eI c4.1), .no, .no, .no, .no, .no, .no, .no]) rfl (fun _ => rfl) (S__law_take c4.2 2)))))) fun c8 => (rt_rv (v := eI) (rv_lift (y := (eI (1 + c8.1))) rfl))))) fun c9 => (rs_put (st1 := [.rf 0 (List.map eI c9.2), .sh (eI most), .sh (eI c4.1), .sh (eI c9.1), .no, .no, .no, .no, .no, .no]) rfl (rs_bindS (fun (r15 : List Int) => [.rf 0 (List.map eI r15), .sh (eI most), .sh (eI c4.1), .sh (eI c9.1), .no, .no, .no, .no, .no, .no]) (rt_dOp2 (rt_bindP rv_ret (rt_bindS (rt_dCallR (rt_bindP (rv_owR rfl) (rt_consP rv_ret (rt_nil (rt_callR (S := fun r12 => [.rf 0 (List.map eI r12), .sh (eI most), .sh (eI c4.1), .sh (eI c9.1), .no, .no, .no, .no, .no, .no]) rfl (fun _ => rfl) (S__law_take c9.2 2)))))) fun c13 => (rt_rv (v := eI) (rv_lift (y := (eI (1 + c13.1))) rfl))))) fun c14 => (rs_put (st1 := [.rf 0 (List.map eI c14.2), .sh (eI most), .sh (eI c4.1), .sh (eI c9.1), .sh (eI c14.1), .no, .no, .no, .no, .no]) rfl (rs_bindG (re_tst (re_dOp2 (re_bindG (re_dOp2 (re_bindG (re_dOp2 (re_bindG (re_dOp2 (re_bindP (rv_var rfl) (re_bindP (rv_var rfl) (re_lift op_mul)))) fun c16 => (re_bindP (rv_var rfl) (re_lift op_mul)))) fun c17 => (re_bindP rv_ret (re_rv (w := eI) (rv_lift (y := (eI (c17 + 1))) rfl))))) fun c18 => (re_bindP (rv_var rfl) (re_rv (w := eB) (rv_lift (y := (eB (decide (c18 > most)))) rfl)))))) fun c19 => (rs_join (I := (fun (a50 : (Int × Int × Int)) (st : DSt) => st = [.rf 0 (List.map eI c14.2), .sh (eI most), .sh (eI a50.1), .sh (eI a50.2.1), .sh (eI a50.2.2), .no, .no, .no, .no, .no])) (rs_iteN (fun _ => (rs_last (rs_bindP (rv_dTup (rv_cons rv_ret (rv_cons rv_ret (rv_cons (rv_dOp2 (rv_bind rv_ret (rv_bind (rv_var rfl) (rv_lift (y := (eI (if most < 2 then most else 2))) rfl)))) (rv_nil (rv_lift (y := ((eP3 eI eI eI) (1, 1, (if most < 2 then most else 2)))) (op_tup (by exact Nat.le_of_ble_eq_true rfl) rfl))))))) (rs_exec (st1 := [.rf 0 (List.map eI c14.2), .sh (eI most), .sh (eI 1), .sh (eI 1), .sh (eI (if most < 2 then most else 2)), .no, .no, .no, .no, .no]) rfl (rs_end ⟨rfl, rfl⟩))))) (fun _ => (rs_end ⟨rfl, rfl⟩))) fun | a20, _, rfl => (rs_bindS (fun (r29 : List Int) => [.rf 0 (List.map eI r29), .sh (eI most), .sh (eI a20.1), .sh (eI a20.2.1), .sh (eI a20.2.2), .no, .no, .no, .no, .no]) (rt_bindG (re_dRng (re_bindP (rv_var rfl) (re_lift op_rng))) fun c21 => (rt_comp (e := eI) (f := fun (x22 : Int) (r23 : List Int) => M.bind (pRng a20.1) fun c24 => pMapS (fun (x25 : Int) (r26 : List Int) => P__law_take r26 a20.2.2) c24 r23) (S := fun (r23 : List Int) => [.rf 0 (List.map eI r23), .sh (eI most), .sh (eI a20.1), .sh (eI a20.2.1), .sh (eI a20.2.2), .no, .no, .no, .no, .no]) (fun (r23 : List Int) => [.rf 0 (List.map eI r23), .sh (eI most), .sh (eI a20.1), .sh (eI a20.2.1), .sh (eI a20.2.2), .no, .no, .no, .no, .no]) (fun (x22 : Int) (r23 : List Int) => [.rf 0 (List.map eI r23), .sh (eI most), .sh (eI a20.1), .sh (eI a20.2.1), .sh (eI a20.2.2), .no, .no, .no, .sh (eI x22), .no]) (fun _ => rfl) rfl (fun _ => rfl) (fun x22 r23 => ⟨rfl, (rt_frzN (rt_bindG (re_dRng (re_bindP (rv_var rfl) (re_lift op_rng))) fun c24 => (rt_comp (e := eI) (f := fun (x25 : Int) (r26 : List Int) => P__law_take r26 a20.2.2) (S := fun (r26 : List Int) => [.rf 0 (List.map eI r26), .sh (eI most), .sh (eI a20.1), .sh (eI a20.2.1), .sh (eI a20.2.2), .no, .no, .no, .sh (eI x22), .no]) (fun (r26 : List Int) => [.rf 0 (List.map eI r26), .sh (eI most), .sh (eI a20.1), .sh (eI a20.2.1), .sh (eI a20.2.2), .no, .no, .no, .sh (eI x22), .no]) (fun (x25 : Int) (r26 : List Int) => [.rf 0 (List.map eI r26), .sh (eI most), .sh (eI a20.1), .sh (eI a20.2.1), .sh (eI a20.2.2), .no, .no, .no, .sh (eI x22), .sh (eI x25)]) (fun _ => rfl) rfl (fun _ => rfl) (fun x25 r26 => ⟨rfl, (rt_dCallR (rt_bindP (rv_owR rfl) (rt_consP (rv_var rfl) (rt_nil (rt_callR (S := fun r27 => [.rf 0 (List.map eI r27), .sh (eI most), .sh (eI a20.1), .sh (eI a20.2.1), .sh (eI a20.2.2), .no, .no, .no, .sh (eI x22), .sh (eI x25)]) rfl (fun _ => rfl) (S__law_take r26 a20.2.2)))))), rfl⟩)))), rfl⟩))) fun c28 => (rs_put (st1 := [.rf 0 (List.map eI c28.2), .sh (eI most), .sh (eI a20.1), .sh (eI a20.2.1), .sh (eI a20.2.2), .ow (List.map (eL eI) c28.1), .no, .no, .no, .no]) rfl (rs_bindS (fun (r39 : List Int) => [.rf 0 (List.map eI r39), .sh (eI most), .sh (eI a20.1), .sh (eI a20.2.1), .sh (eI a20.2.2), .ow (List.map (eL eI) c28.1), .no, .no, .no, .no]) (rt_bindG (re_dRng (re_bindP (rv_var rfl) (re_lift op_rng))) fun c30 => (rt_comp (e := eI) (f := fun (x31 : Int) (r32 : List Int) => M.bind (pRng a20.1) fun c33 => pMapS (fun (x34 : Int) (r35 : List Int) => M.bind (P__law_take r35 3) fun c37 => .ok ((decide (c37.1 = 0)), c37.2)) c33 r32) (S := fun (r32 : List Int) => [.rf 0 (List.map eI r32), .sh (eI most), .sh (eI a20.1), .sh (eI a20.2.1), .sh (eI a20.2.2), .ow (List.map (eL eI) c28.1), .no, .no, .no, .no]) (fun (r32 : List Int) => [.rf 0 (List.map eI r32), .sh (eI most), .sh (eI a20.1), .sh (eI a20.2.1), .sh (eI a20.2.2), .ow (List.map (eL eI) c28.1), .no, .no, .no, .no]) (fun (x31 : Int) (r32 : List Int) => [.rf 0 (List.map eI r32), .sh (eI most), .sh (eI a20.1), .sh (eI a20.2.1), .sh (eI a20.2.2), .ow (List.map (eL eI) c28.1), .no, .no, .sh (eI x31), .no]) (fun _ => rfl) rfl (fun _ => rfl) (fun x31 r32 => ⟨rfl, (rt_frzN (rt_bindG (re_dRng (re_bindP (rv_var rfl) (re_lift op_rng))) fun c33 => (rt_comp (e := eI) (f := fun (x34 : Int) (r35 : List Int) => M.bind (P__law_take r35 3) fun c37 => .ok ((decide (c37.1 = 0)), c37.2)) (S := fun (r35 : List Int) => [.rf 0 (List.map eI r35), .sh (eI most), .sh (eI a20.1), .sh (eI a20.2.1), .sh (eI a20.2.2), .ow (List.map (eL eI) c28.1), .no, .no, .sh (eI x31), .no]) (fun (r35 : List Int) => [.rf 0 (List.map eI r35), .sh (eI most), .sh (eI a20.1), .sh (eI a20.2.1), .sh (eI a20.2.2), .ow (List.map (eL eI) c28.1), .no, .no, .sh (eI x31), .no]) (fun (x34 : Int) (r35 : List Int) => [.rf 0 (List.map eI r35), .sh (eI most), .sh (eI a20.1), .sh (eI a20.2.1), .sh (eI a20.2.2), .ow (List.map (eL eI) c28.1), .no, .no, .sh (eI x31), .sh (eI x34)]) (fun _ => rfl) rfl (fun _ => rfl) (fun x34 r35 => ⟨rfl, (rt_dOp2 (rt_bindS (rt_dCallR (rt_bindP (rv_owR rfl) (rt_consP rv_ret (rt_nil (rt_callR (S := fun r36 => [.rf 0 (List.map eI r36), .sh (eI most), .sh (eI a20.1), .sh (eI a20.2.1), .sh (eI a20.2.2), .ow (List.map (eL eI) c28.1), .no, .no, .sh (eI x31), .sh (eI x34)]) rfl (fun _ => rfl) (S__law_take r35 3)))))) fun c37 => (rt_bindP rv_ret (rt_rv (v := eB) (rv_lift (eq_py pyI (x := c37.1) (y := 0))))))), rfl⟩)))), rfl⟩))) fun c38 => (rs_put (st1 := [.rf 0 (List.map eI c38.2), .sh (eI most), .sh (eI a20.1), .sh (eI a20.2.1), .sh (eI a20.2.2), .ow (List.map (eL eI) c28.1), .ow (List.map (eL eB) c38.1), .no, .no, .no]) rfl (rs_bindS (fun (r48 : List Int) => [.rf 0 (List.map eI r48), .sh (eI most), .sh (eI a20.1), .sh (eI a20.2.1), .sh (eI a20.2.2), .ow (List.map (eL eI) c28.1), .ow (List.map (eL eB) c38.1), .no, .no, .no]) (rt_dIf (rt_bindS (rt_tst (rt_dOp2 (rt_bindS (rt_dCallR (rt_bindP (rv_owR rfl) (rt_consP rv_ret (rt_nil (rt_callR (S := fun r40 => [.rf 0 (List.map eI r40), .sh (eI most), .sh (eI a20.1), .sh (eI a20.2.1), .sh (eI a20.2.2), .ow (List.map (eL eI) c28.1), .ow (List.map (eL eB) c38.1), .no, .no, .no]) rfl (fun _ => rfl) (S__law_take c38.2 2)))))) fun c41 => (rt_bindP rv_ret (rt_rv (v := eB) (rv_lift (eq_py pyI (x := c41.1) (y := 0)))))))) fun c42 => (rt_ite (fun _ => (rt_re (re_dOp2 (re_bindG (re_dOp2 (re_bindG (re_dOp2 (re_bindP (rv_var rfl) (re_bindP (rv_var rfl) (re_lift op_mul)))) fun c45 => (re_bindP (rv_var rfl) (re_lift op_mul)))) fun c46 => (re_bindP (rv_var rfl) (re_rv (w := eB) (rv_lift (y := (eB (decide (c46 < most)))) rfl))))))) (fun _ => (rt_rv rv_ret))))) fun c47 => (rs_put (st1 := [.rf 0 (List.map eI c47.2), .sh (eI most), .sh (eI a20.1), .sh (eI a20.2.1), .sh (eI a20.2.2), .ow (List.map (eL eI) c28.1), .ow (List.map (eL eB) c38.1), .sh (eB c47.1), .no, .no]) rfl (rs_last (rs_bindG (re_dCall (re_consP (rv_var rfl) (re_consP (rv_var rfl) (re_consP (rv_var rfl) (re_consP (rv_frz rfl) (re_consP (rv_frz rfl) (re_consP (rv_var rfl) (re_nil (re_liftM (S__law_triples a20.1 a20.2.1 a20.2.2 c28.1 c38.1 c47.1)))))))))) fun c49 => (rs_ret ⟨.inl rfl, _, rfl⟩))))))))))))))))))
def P__law_plain (state_here : (List Int)) (most : Int) : M ((List (List Int)) × (List Int)) := M.bind (P__law_take state_here 8) fun c2 => M.bind (M.bind (P__law_take c2.2 most) fun c6 => .ok ((1 + c6.1), c6.2)) fun c7 => if (decide (c2.1 = 0)) = true then M.bind (M.bind (pRng c7.1) fun c9 => pMap (fun (x10 : Int) => M.bind (pRng c7.1) fun c11 => pMap (fun (x12 : Int) => .ok x10) c11) c9) fun c14 => .ok (c14, c7.2) else if (decide (c2.1 = 1)) = true then M.bind (M.bind (pRng c7.1) fun c15 => pMap (fun (x16 : Int) => M.bind (pRng c7.1) fun c17 => pMap (fun (x18 : Int) => .ok 0) c17) c15) fun c20 => .ok (c20, c7.2) else if (decide (c2.1 = 2)) = true then M.bind (P__law_monogenic c7.2 most) fun c22 => .ok (c22.1, c22.2) else if (decide (c2.1 = 3)) = true then M.bind (M.bind (pRng c7.1) fun c24 => pMap (fun (x25 : Int) => M.bind (pRng c7.1) fun c26 => pMap (fun (x27 : Int) => .ok (if x27 < x25 then x27 else x25)) c26) c24) fun c29 => .ok (c29, c7.2) else if (decide (c2.1 < 6)) = true then M.bind (P__law_of_maps c7.2 most) fun c31 => .ok (c31.1, c31.2) else M.bind (P__law_blocks c7.2 most) fun c34 => .ok (c34.1, c34.2)
theorem S__law_plain (state_here : (List Int)) (most : Int) : DR (d__law_plain (List.map eI state_here) [eI most]) (P__law_plain state_here most) (eL (eT eI)) eI := fn_R rfl (show RS false (sSeq (sSet 2 (dCallR d__law_take 0 (dCons (dC (.int 8)) dNil))) (sSeq (sSet 3 (dOp2 opAdd (dC (.int 1)) (dCallR d__law_take 0 (dCons (dVar 1) dNil)))) (sSeq (sIf (dTst (dOp2 opEq (dVar 2) (dC (.int 0)))) (sRet (dFrz (dComp [4] (.nm 4) (dRng (dVar 3)) dYes (dOp1 opTuple (dFrz (dComp [5] (.nm 5) (dRng (dVar 3)) dYes (dVar 4))))))) sPass) (sSeq (sIf (dTst (dOp2 opEq (dVar 2) (dC (.int 1)))) (sRet (dFrz (dComp [4] (.nm 4) (dRng (dVar 3)) dYes (dOp1 opTuple (dFrz (dComp [5] (.nm 5) (dRng (dVar 3)) dYes (dC (.int 0)))))))) sPass) (sSeq (sIf (dTst (dOp2 opEq (dVar 2) (dC (.int 2)))) (sRet (dCallR d__law_monogenic 0 (dCons (dVar 1) dNil))) sPass) (sSeq (sIf (dTst (dOp2 opEq (dVar 2) (dC (.int 3)))) (sRet (dFrz (dComp [4] (.nm 4) (dRng (dVar 3)) dYes (dOp1 opTuple (dFrz (dComp [5] (.nm 5) (dRng (dVar 3)) dYes (dOp2 opMin2 (dVar 4) (dVar 5)))))))) sPass) (sSeq (sIf (dTst (dOp2 opLt (dVar 2) (dC (.int 6)))) (sRet (dCallR d__law_of_maps 0 (dCons (dVar 1) dNil))) sPass) (sRet (dCallR d__law_blocks 0 (dCons (dVar 1) dNil)))))))))) [.rf 0 (List.map eI state_here), .sh (eI most), .no, .no, .no, .no] (P__law_plain state_here most) (Kby (eL (eT eI)) eI) from
  (rs_bindS (fun (r3 : List Int) => [.rf 0 (List.map eI r3), .sh (eI most), .no, .no, .no, .no]) (rt_dCallR (rt_bindP (rv_owR rfl) (rt_consP rv_ret (rt_nil (rt_callR (S := fun r1 => [.rf 0 (List.map eI r1), .sh (eI most), .no, .no, .no, .no]) rfl (fun _ => rfl) (S__law_take state_here 8)))))) fun c2 => (rs_put (st1 := [.rf 0 (List.map eI c2.2), .sh (eI most), .sh (eI c2.1), .no, .no, .no]) rfl (rs_bindS (fun (r8 : List Int) => [.rf 0 (List.map eI r8), .sh (eI most), .sh (eI c2.1), .no, .no, .no]) (rt_dOp2 (rt_bindP rv_ret (rt_bindS (rt_dCallR (rt_bindP (rv_owR rfl) (rt_consP (rv_var rfl) (rt_nil (rt_callR (S := fun r5 => [.rf 0 (List.map eI r5), .sh (eI most), .sh (eI c2.1), .no, .no, .no]) rfl (fun _ => rfl) (S__law_take c2.2 most)))))) fun c6 => (rt_rv (v := eI) (rv_lift (y := (eI (1 + c6.1))) rfl))))) fun c7 => (rs_put (st1 := [.rf 0 (List.map eI c7.2), .sh (eI most), .sh (eI c2.1), .sh (eI c7.1), .no, .no]) rfl (rs_bindP (rv_tst (rv_dOp2 (rv_bind (rv_var rfl) (rv_bind rv_ret (rv_lift (eq_py pyI (x := c2.1) (y := 0))))))) (rs_ite (fun _ => (rs_bindG (re_frzN (re_bindG (re_dRng (re_bindP (rv_var rfl) (re_lift op_rng))) fun c9 => (re_compM (e := eI) (f := fun (x10 : Int) => M.bind (pRng c7.1) fun c11 => pMap (fun (x12 : Int) => .ok x10) c11) ([.rf 0 (List.map eI c7.2), .sh (eI most), .sh (eI c2.1), .sh (eI c7.1), .no, .no]) rfl rfl rfl (fun x10 => ⟨[.rf 0 (List.map eI c7.2), .sh (eI most), .sh (eI c2.1), .sh (eI c7.1), .sh (eI x10), .no], [.rf 0 (List.map eI c7.2), .sh (eI most), .sh (eI c2.1), .sh (eI c7.1), .sh (eI x10), .no], rfl, (re_dOp1 (re_tail (w := (eT eI)) (re_frzN (re_bindG (re_dRng (re_bindP (rv_var rfl) (re_lift op_rng))) fun c11 => (re_compM (e := eI) (f := fun (x12 : Int) => .ok x10) ([.rf 0 (List.map eI c7.2), .sh (eI most), .sh (eI c2.1), .sh (eI c7.1), .sh (eI x10), .no]) rfl rfl rfl (fun x12 => ⟨[.rf 0 (List.map eI c7.2), .sh (eI most), .sh (eI c2.1), .sh (eI c7.1), .sh (eI x10), .sh (eI x12)], [.rf 0 (List.map eI c7.2), .sh (eI most), .sh (eI c2.1), .sh (eI c7.1), .sh (eI x10), .sh (eI x12)], rfl, (re_rv (w := eI) (rv_var rfl)), rfl, rfl⟩)))) fun c13 => (rv_lift (y := ((eT eI) c13)) rfl))), rfl, rfl⟩)))) fun c14 => (rs_ret ⟨.inl rfl, _, rfl⟩))) (fun _ => (rs_nx (rs_bindP (rv_tst (rv_dOp2 (rv_bind (rv_var rfl) (rv_bind rv_ret (rv_lift (eq_py pyI (x := c2.1) (y := 1))))))) (rs_ite (fun _ => (rs_bindG (re_frzN (re_bindG (re_dRng (re_bindP (rv_var rfl) (re_lift op_rng))) fun c15 => (re_compM (e := eI) (f := fun (x16 : Int) => M.bind (pRng c7.1) fun c17 => pMap (fun (x18 : Int) => .ok 0) c17) ([.rf 0 (List.map eI c7.2), .sh (eI most), .sh (eI c2.1), .sh (eI c7.1), .no, .no]) rfl rfl rfl (fun x16 => ⟨[.rf 0 (List.map eI c7.2), .sh (eI most), .sh (eI c2.1), .sh (eI c7.1), .sh (eI x16), .no], [.rf 0 (List.map eI c7.2), .sh (eI most), .sh (eI c2.1), .sh (eI c7.1), .sh (eI x16), .no], rfl, (re_dOp1 (re_tail (w := (eT eI)) (re_frzN (re_bindG (re_dRng (re_bindP (rv_var rfl) (re_lift op_rng))) fun c17 => (re_compM (e := eI) (f := fun (x18 : Int) => .ok 0) ([.rf 0 (List.map eI c7.2), .sh (eI most), .sh (eI c2.1), .sh (eI c7.1), .sh (eI x16), .no]) rfl rfl rfl (fun x18 => ⟨[.rf 0 (List.map eI c7.2), .sh (eI most), .sh (eI c2.1), .sh (eI c7.1), .sh (eI x16), .sh (eI x18)], [.rf 0 (List.map eI c7.2), .sh (eI most), .sh (eI c2.1), .sh (eI c7.1), .sh (eI x16), .sh (eI x18)], rfl, (re_rv (w := eI) rv_ret), rfl, rfl⟩)))) fun c19 => (rv_lift (y := ((eT eI) c19)) rfl))), rfl, rfl⟩)))) fun c20 => (rs_ret ⟨.inl rfl, _, rfl⟩))) (fun _ => (rs_nx (rs_bindP (rv_tst (rv_dOp2 (rv_bind (rv_var rfl) (rv_bind rv_ret (rv_lift (eq_py pyI (x := c2.1) (y := 2))))))) (rs_ite (fun _ => (rs_bindS (fun (r23 : List Int) => [.rf 0 (List.map eI r23), .sh (eI most), .sh (eI c2.1), .sh (eI c7.1), .no, .no]) (rt_dCallR (rt_bindP (rv_owR rfl) (rt_consP (rv_var rfl) (rt_nil (rt_callR (S := fun r21 => [.rf 0 (List.map eI r21), .sh (eI most), .sh (eI c2.1), .sh (eI c7.1), .no, .no]) rfl (fun _ => rfl) (S__law_monogenic c7.2 most)))))) fun c22 => (rs_ret ⟨.inl rfl, _, rfl⟩))) (fun _ => (rs_nx (rs_bindP (rv_tst (rv_dOp2 (rv_bind (rv_var rfl) (rv_bind rv_ret (rv_lift (eq_py pyI (x := c2.1) (y := 3))))))) (rs_ite (fun _ => (rs_bindG (re_frzN (re_bindG (re_dRng (re_bindP (rv_var rfl) (re_lift op_rng))) fun c24 => (re_compM (e := eI) (f := fun (x25 : Int) => M.bind (pRng c7.1) fun c26 => pMap (fun (x27 : Int) => .ok (if x27 < x25 then x27 else x25)) c26) ([.rf 0 (List.map eI c7.2), .sh (eI most), .sh (eI c2.1), .sh (eI c7.1), .no, .no]) rfl rfl rfl (fun x25 => ⟨[.rf 0 (List.map eI c7.2), .sh (eI most), .sh (eI c2.1), .sh (eI c7.1), .sh (eI x25), .no], [.rf 0 (List.map eI c7.2), .sh (eI most), .sh (eI c2.1), .sh (eI c7.1), .sh (eI x25), .no], rfl, (re_dOp1 (re_tail (w := (eT eI)) (re_frzN (re_bindG (re_dRng (re_bindP (rv_var rfl) (re_lift op_rng))) fun c26 => (re_compM (e := eI) (f := fun (x27 : Int) => .ok (if x27 < x25 then x27 else x25)) ([.rf 0 (List.map eI c7.2), .sh (eI most), .sh (eI c2.1), .sh (eI c7.1), .sh (eI x25), .no]) rfl rfl rfl (fun x27 => ⟨[.rf 0 (List.map eI c7.2), .sh (eI most), .sh (eI c2.1), .sh (eI c7.1), .sh (eI x25), .sh (eI x27)], [.rf 0 (List.map eI c7.2), .sh (eI most), .sh (eI c2.1), .sh (eI c7.1), .sh (eI x25), .sh (eI x27)], rfl, (re_rv (w := eI) (rv_dOp2 (rv_bind (rv_var rfl) (rv_bind (rv_var rfl) (rv_lift (y := (eI (if x27 < x25 then x27 else x25))) rfl))))), rfl, rfl⟩)))) fun c28 => (rv_lift (y := ((eT eI) c28)) rfl))), rfl, rfl⟩)))) fun c29 => (rs_ret ⟨.inl rfl, _, rfl⟩))) (fun _ => (rs_nx (rs_bindP (rv_tst (rv_dOp2 (rv_bind (rv_var rfl) (rv_bind rv_ret (rv_lift (y := (eB (decide (c2.1 < 6)))) rfl))))) (rs_ite (fun _ => (rs_bindS (fun (r32 : List Int) => [.rf 0 (List.map eI r32), .sh (eI most), .sh (eI c2.1), .sh (eI c7.1), .no, .no]) (rt_dCallR (rt_bindP (rv_owR rfl) (rt_consP (rv_var rfl) (rt_nil (rt_callR (S := fun r30 => [.rf 0 (List.map eI r30), .sh (eI most), .sh (eI c2.1), .sh (eI c7.1), .no, .no]) rfl (fun _ => rfl) (S__law_of_maps c7.2 most)))))) fun c31 => (rs_ret ⟨.inl rfl, _, rfl⟩))) (fun _ => (rs_nx (rs_last (rs_bindS (fun (r35 : List Int) => [.rf 0 (List.map eI r35), .sh (eI most), .sh (eI c2.1), .sh (eI c7.1), .no, .no]) (rt_dCallR (rt_bindP (rv_owR rfl) (rt_consP (rv_var rfl) (rt_nil (rt_callR (S := fun r33 => [.rf 0 (List.map eI r33), .sh (eI most), .sh (eI c2.1), .sh (eI c7.1), .no, .no]) rfl (fun _ => rfl) (S__law_blocks c7.2 most)))))) fun c34 => (rs_ret ⟨.inl rfl, _, rfl⟩))))))))))))))))))))))))))))
def P__law_extended (state_here : (List Int)) (table : (List (List Int))) (most : Int) : M ((List (List Int)) × (List Int)) := M.bind (P__law_take state_here 6) fun c2 => if (decide (c2.1 = 0)) = true then M.bind (M.bind (pRng (table.length : Int)) fun c4 => pMap (fun (x5 : Int) => M.bind (pRng (table.length : Int)) fun c6 => pMap (fun (x7 : Int) => M.bind (pAt table x7) fun c8 => pAt c8 x5) c6) c4) fun c10 => .ok (c10, c2.2) else if ((decide (c2.1 = 1)) && (decide ((table.length : Int) < most))) = true then M.bind (M.bind (pMap (fun (x11 : (List Int)) => pCat x11 [(table.length : Int)]) table) fun c12 => M.bind (M.bind (M.bind (pRng ((table.length : Int) + 1)) fun c13 => pMap (fun (x14 : Int) => .ok (table.length : Int)) c13) fun c16 => .ok [c16]) fun c17 => pCat c12 c17) fun c18 => .ok (c18, c2.2) else if ((decide (c2.1 = 2)) && (decide ((table.length : Int) < most))) = true then M.bind (M.bind (M.bind (pRng (table.length : Int)) fun c19 => pMap (fun (x20 : Int) => M.bind (pAt table x20) fun c21 => pCat c21 [x20]) c19) fun c22 => M.bind (M.bind (pRng ((table.length : Int) + 1)) fun c23 => .ok [c23]) fun c24 => pCat c22 c24) fun c25 => .ok (c25, c2.2) else M.bind (if (decide (c2.1 = 3)) = true then M.bind (pMul 2 (table.length : Int)) fun c26 => .ok (decide (c26 ≤ most)) else .ok false) fun c27 => if c27 = true then M.bind (M.bind (P__law_take c2.2 2) fun c29 => .ok ((decide (c29.1 = 0)), c29.2)) fun c30 => M.bind (if c30.1 = true then .ok [(0, 1), (1, 0)] else .ok [(0, 0), (0, 1)] : M (List (Int × Int))) fun (a32 : (List (Int × Int))) => M.bind (M.bind (M.bind (pMul 2 (table.length : Int)) fun c33 => pRng c33) fun c34 => pMap (fun (x35 : Int) => M.bind (M.bind (pMul 2 (table.length : Int)) fun c36 => pRng c36) fun c37 => pMap (fun (x38 : Int) => M.bind (M.bind (M.bind (M.bind (pDiv x35 2) fun c42 => pAt table c42) fun c43 => M.bind (pDiv x38 2) fun c44 => pAt c43 c44) fun c45 => pMul 2 c45) fun c49 => M.bind (M.bind (M.bind (pMod x35 2) fun c50 => pAt a32 c50) fun c51 => M.bind (pMod x38 2) fun c52 => pAt [c51.1, c51.2] c52) fun c53 => .ok (c49 + c53)) c37) c34) fun c55 => .ok (c55, c30.2) else .ok (table, c2.2)
theorem S__law_extended (state_here : (List Int)) (table : (List (List Int))) (most : Int) : DR (d__law_extended (List.map eI state_here) [(eL (eT eI)) table, eI most]) (P__law_extended state_here table most) (eL (eT eI)) eI := fn_R rfl (show RS false (sSeq (sSet 3 (dOp1n opLen 1)) (sSeq (sSet 4 (dCallR d__law_take 0 (dCons (dC (.int 6)) dNil))) (sSeq (sIf (dTst (dOp2 opEq (dVar 4) (dC (.int 0)))) (sRet (dFrz (dComp [6] (.nm 6) (dRng (dVar 3)) dYes (dOp1 opTuple (dFrz (dComp [7] (.nm 7) (dRng (dVar 3)) dYes (dOp2 opIx (dOp2n opIx 1 (dVar 7)) (dVar 6)))))))) sPass) (sSeq (sIf (dAnd (dTst (dOp2 opEq (dVar 4) (dC (.int 1)))) (dTst (dOp2 opLt (dVar 3) (dVar 2)))) (sRet (dFrz (dN2 nAdd (dFrz (dComp [8] (.nm 8) (dItems (dVar 1)) dYes (dOp2 opAdd (dVar 8) (dTup (dCons (dVar 3) dNil))))) (dFrz (dLst (dCons (dOp1 opTuple (dFrz (dComp [7] (.nm 7) (dRng (dOp2 opAdd (dVar 3) (dC (.int 1)))) dYes (dVar 3)))) dNil)))))) sPass) (sSeq (sIf (dAnd (dTst (dOp2 opEq (dVar 4) (dC (.int 2)))) (dTst (dOp2 opLt (dVar 3) (dVar 2)))) (sRet (dFrz (dN2 nAdd (dFrz (dComp [6] (.nm 6) (dRng (dVar 3)) dYes (dOp2 opAdd (dOp2n opIx 1 (dVar 6)) (dTup (dCons (dVar 6) dNil))))) (dFrz (dLst (dCons (dTupRg (dRg1 (dOp2 opAdd (dVar 3) (dC (.int 1))))) dNil)))))) sPass) (sSeq (sIf (dAnd (dTst (dOp2 opEq (dVar 4) (dC (.int 3)))) (dTst (dOp2 opLe (dOp2 opMul (dC (.int 2)) (dVar 3)) (dVar 2)))) (sSeq (sOwn 5 (dLst (dCons (dTup (dCons (dC (.int 0)) (dCons (dC (.int 0)) dNil))) (dCons (dTup (dCons (dC (.int 0)) (dCons (dC (.int 1)) dNil))) dNil)))) (sSeq (sIf (dTst (dOp2 opEq (dCallR d__law_take 0 (dCons (dC (.int 2)) dNil)) (dC (.int 0)))) (sOwn 5 (dLst (dCons (dTup (dCons (dC (.int 0)) (dCons (dC (.int 1)) dNil))) (dCons (dTup (dCons (dC (.int 1)) (dCons (dC (.int 0)) dNil))) dNil)))) sPass) (sRet (dFrz (dComp [6] (.nm 6) (dRng (dOp2 opMul (dC (.int 2)) (dVar 3))) dYes (dOp1 opTuple (dFrz (dComp [7] (.nm 7) (dRng (dOp2 opMul (dC (.int 2)) (dVar 3))) dYes (dOp2 opAdd (dOp2 opMul (dC (.int 2)) (dOp2 opIx (dOp2n opIx 1 (dOp2 opDiv (dVar 6) (dC (.int 2)))) (dOp2 opDiv (dVar 7) (dC (.int 2))))) (dOp2 opIx (dOp2n opIx 5 (dOp2 opMod (dOp1n opInt 6) (dC (.int 2)))) (dOp2 opMod (dOp1n opInt 7) (dC (.int 2))))))))))))) sPass) (sRet (dVar 1)))))))) [.rf 0 (List.map eI state_here), .sh ((eL (eT eI)) table), .sh (eI most), .no, .no, .no, .no, .no, .no] (P__law_extended state_here table most) (Kby (eL (eT eI)) eI) from
  (rs_bindP (rv_dOp1n (rv_bind (rv_rd rfl) (rv_lift op_lenL))) (rs_put (st1 := [.rf 0 (List.map eI state_here), .sh ((eL (eT eI)) table), .sh (eI most), .sh (eI (table.length : Int)), .no, .no, .no, .no, .no]) rfl (rs_bindS (fun (r3 : List Int) => [.rf 0 (List.map eI r3), .sh ((eL (eT eI)) table), .sh (eI most), .sh (eI (table.length : Int)), .no, .no, .no, .no, .no]) (rt_dCallR (rt_bindP (rv_owR rfl) (rt_consP rv_ret (rt_nil (rt_callR (S := fun r1 => [.rf 0 (List.map eI r1), .sh ((eL (eT eI)) table), .sh (eI most), .sh (eI (table.length : Int)), .no, .no, .no, .no, .no]) rfl (fun _ => rfl) (S__law_take state_here 6)))))) fun c2 => (rs_put (st1 := [.rf 0 (List.map eI c2.2), .sh ((eL (eT eI)) table), .sh (eI most), .sh (eI (table.length : Int)), .sh (eI c2.1), .no, .no, .no, .no]) rfl (rs_bindP (rv_tst (rv_dOp2 (rv_bind (rv_var rfl) (rv_bind rv_ret (rv_lift (eq_py pyI (x := c2.1) (y := 0))))))) (rs_ite (fun _ => (rs_bindG (re_frzN (re_bindG (re_dRng (re_bindP (rv_var rfl) (re_lift op_rng))) fun c4 => (re_compM (e := eI) (f := fun (x5 : Int) => M.bind (pRng (table.length : Int)) fun c6 => pMap (fun (x7 : Int) => M.bind (pAt table x7) fun c8 => pAt c8 x5) c6) ([.rf 0 (List.map eI c2.2), .sh ((eL (eT eI)) table), .sh (eI most), .sh (eI (table.length : Int)), .sh (eI c2.1), .no, .no, .no, .no]) rfl rfl rfl (fun x5 => ⟨[.rf 0 (List.map eI c2.2), .sh ((eL (eT eI)) table), .sh (eI most), .sh (eI (table.length : Int)), .sh (eI c2.1), .no, .sh (eI x5), .no, .no], [.rf 0 (List.map eI c2.2), .sh ((eL (eT eI)) table), .sh (eI most), .sh (eI (table.length : Int)), .sh (eI c2.1), .no, .sh (eI x5), .no, .no], rfl, (re_dOp1 (re_tail (w := (eT eI)) (re_frzN (re_bindG (re_dRng (re_bindP (rv_var rfl) (re_lift op_rng))) fun c6 => (re_compM (e := eI) (f := fun (x7 : Int) => M.bind (pAt table x7) fun c8 => pAt c8 x5) ([.rf 0 (List.map eI c2.2), .sh ((eL (eT eI)) table), .sh (eI most), .sh (eI (table.length : Int)), .sh (eI c2.1), .no, .sh (eI x5), .no, .no]) rfl rfl rfl (fun x7 => ⟨[.rf 0 (List.map eI c2.2), .sh ((eL (eT eI)) table), .sh (eI most), .sh (eI (table.length : Int)), .sh (eI c2.1), .no, .sh (eI x5), .sh (eI x7), .no], [.rf 0 (List.map eI c2.2), .sh ((eL (eT eI)) table), .sh (eI most), .sh (eI (table.length : Int)), .sh (eI c2.1), .no, .sh (eI x5), .sh (eI x7), .no], rfl, (re_dOp2 (re_bindG (re_dOp2n (re_bindP (rv_rd rfl) (re_bindP (rv_var rfl) (re_bindP (rv_rd rfl) (re_lift op_atL))))) fun c8 => (re_bindP (rv_var rfl) (re_lift op_atT)))), rfl, rfl⟩)))) fun c9 => (rv_lift (y := ((eT eI) c9)) rfl))), rfl, rfl⟩)))) fun c10 => (rs_ret ⟨.inl rfl, _, rfl⟩))) (fun _ => (rs_nx (rs_bindP (rv_dAnd (rv_bind (rv_tst (rv_dOp2 (rv_bind (rv_var rfl) (rv_bind rv_ret (rv_lift (eq_py pyI (x := c2.1) (y := 1))))))) (rv_and fun _ => (rv_tst (rv_dOp2 (rv_bind (rv_var rfl) (rv_bind (rv_var rfl) (rv_lift (y := (eB (decide ((table.length : Int) < most)))) rfl)))))))) (rs_ite (fun _ => (rs_bindG (re_frzN (re_dN2 (re_bindG (re_frzN (re_bindP (rv_dItems (rv_bind (rv_var rfl) (rv_lift (y := ((List.map (eT eI)) table)) rfl))) (re_compM (e := (eT eI)) (f := fun (x11 : (List Int)) => pCat x11 [(table.length : Int)]) ([.rf 0 (List.map eI c2.2), .sh ((eL (eT eI)) table), .sh (eI most), .sh (eI (table.length : Int)), .sh (eI c2.1), .no, .no, .no, .no]) rfl rfl rfl (fun x11 => ⟨[.rf 0 (List.map eI c2.2), .sh ((eL (eT eI)) table), .sh (eI most), .sh (eI (table.length : Int)), .sh (eI c2.1), .no, .no, .no, .sh ((eT eI) x11)], [.rf 0 (List.map eI c2.2), .sh ((eL (eT eI)) table), .sh (eI most), .sh (eI (table.length : Int)), .sh (eI c2.1), .no, .no, .no, .sh ((eT eI) x11)], rfl, (re_dOp2 (re_bindP (rv_var rfl) (re_bindP (rv_dTup (rv_cons (rv_var rfl) (rv_nil (rv_lift (y := ((eT eI) [(table.length : Int)])) (op_tup (by exact Nat.le_of_ble_eq_true rfl) rfl))))) (re_lift (op_catT (e := eI) (xs := x11) (ys := [(table.length : Int)])))))), rfl, rfl⟩)))) fun c12 => (re_bindG (re_frzN (re_dLst (re_consG (re_dOp1 (re_tail (w := (eT eI)) (re_frzN (re_bindG (re_dRng (re_bindP (rv_dOp2 (rv_bind (rv_var rfl) (rv_bind rv_ret (rv_lift (y := (eI ((table.length : Int) + 1))) rfl)))) (re_lift op_rng))) fun c13 => (re_compM (e := eI) (f := fun (x14 : Int) => .ok (table.length : Int)) ([.rf 0 (List.map eI c2.2), .sh ((eL (eT eI)) table), .sh (eI most), .sh (eI (table.length : Int)), .sh (eI c2.1), .no, .no, .no, .no]) rfl rfl rfl (fun x14 => ⟨[.rf 0 (List.map eI c2.2), .sh ((eL (eT eI)) table), .sh (eI most), .sh (eI (table.length : Int)), .sh (eI c2.1), .no, .no, .sh (eI x14), .no], [.rf 0 (List.map eI c2.2), .sh ((eL (eT eI)) table), .sh (eI most), .sh (eI (table.length : Int)), .sh (eI c2.1), .no, .no, .sh (eI x14), .no], rfl, (re_rv (w := eI) (rv_var rfl)), rfl, rfl⟩)))) fun c15 => (rv_lift (y := ((eT eI) c15)) rfl))) fun c16 => (re_nil (re_rv (w := (List.map (eT eI))) (rv_lift (y := ((List.map (eT eI)) [c16])) (op_lst (by exact Nat.le_of_ble_eq_true rfl) rfl))))))) fun c17 => (re_lift (op_nCat (e := (eT eI)) (xs := c12) (ys := c17))))))) fun c18 => (rs_ret ⟨.inl rfl, _, rfl⟩))) (fun _ => (rs_nx (rs_bindP (rv_dAnd (rv_bind (rv_tst (rv_dOp2 (rv_bind (rv_var rfl) (rv_bind rv_ret (rv_lift (eq_py pyI (x := c2.1) (y := 2))))))) (rv_and fun _ => (rv_tst (rv_dOp2 (rv_bind (rv_var rfl) (rv_bind (rv_var rfl) (rv_lift (y := (eB (decide ((table.length : Int) < most)))) rfl)))))))) (rs_ite (fun _ => (rs_bindG (re_frzN (re_dN2 (re_bindG (re_frzN (re_bindG (re_dRng (re_bindP (rv_var rfl) (re_lift op_rng))) fun c19 => (re_compM (e := eI) (f := fun (x20 : Int) => M.bind (pAt table x20) fun c21 => pCat c21 [x20]) ([.rf 0 (List.map eI c2.2), .sh ((eL (eT eI)) table), .sh (eI most), .sh (eI (table.length : Int)), .sh (eI c2.1), .no, .no, .no, .no]) rfl rfl rfl (fun x20 => ⟨[.rf 0 (List.map eI c2.2), .sh ((eL (eT eI)) table), .sh (eI most), .sh (eI (table.length : Int)), .sh (eI c2.1), .no, .sh (eI x20), .no, .no], [.rf 0 (List.map eI c2.2), .sh ((eL (eT eI)) table), .sh (eI most), .sh (eI (table.length : Int)), .sh (eI c2.1), .no, .sh (eI x20), .no, .no], rfl, (re_dOp2 (re_bindG (re_dOp2n (re_bindP (rv_rd rfl) (re_bindP (rv_var rfl) (re_bindP (rv_rd rfl) (re_lift op_atL))))) fun c21 => (re_bindP (rv_dTup (rv_cons (rv_var rfl) (rv_nil (rv_lift (y := ((eT eI) [x20])) (op_tup (by exact Nat.le_of_ble_eq_true rfl) rfl))))) (re_lift (op_catT (e := eI) (xs := c21) (ys := [x20])))))), rfl, rfl⟩)))) fun c22 => (re_bindG (re_frzN (re_dLst (re_consG (re_trgP (rv_dOp2 (rv_bind (rv_var rfl) (rv_bind rv_ret (rv_lift (y := (eI ((table.length : Int) + 1))) rfl))))) fun c23 => (re_nil (re_rv (w := (List.map (eT eI))) (rv_lift (y := ((List.map (eT eI)) [c23])) (op_lst (by exact Nat.le_of_ble_eq_true rfl) rfl))))))) fun c24 => (re_lift (op_nCat (e := (eT eI)) (xs := c22) (ys := c24))))))) fun c25 => (rs_ret ⟨.inl rfl, _, rfl⟩))) (fun _ => (rs_nx (rs_bindG (re_dAnd (re_bindP (rv_tst (rv_dOp2 (rv_bind (rv_var rfl) (rv_bind rv_ret (rv_lift (eq_py pyI (x := c2.1) (y := 3))))))) (re_ite (fun _ => (re_tst (re_dOp2 (re_bindG (re_dOp2 (re_bindP rv_ret (re_bindP (rv_var rfl) (re_lift op_mul)))) fun c26 => (re_bindP (rv_var rfl) (re_rv (w := eB) (rv_lift (y := (eB (decide (c26 ≤ most)))) rfl))))))) (fun _ => re_rv rv_ret)))) fun c27 => (rs_ite (fun _ => (rs_seq (rs_bindP (rv_dLst (rv_cons (rv_dTup (rv_cons rv_ret (rv_cons rv_ret (rv_nil (rv_lift (y := ((eP2 eI eI) (0, 0))) (op_tup (by exact Nat.le_of_ble_eq_true rfl) rfl)))))) (rv_cons (rv_dTup (rv_cons rv_ret (rv_cons rv_ret (rv_nil (rv_lift (y := ((eP2 eI eI) (0, 1))) (op_tup (by exact Nat.le_of_ble_eq_true rfl) rfl)))))) (rv_nil (rv_lift (y := ((List.map (eP2 eI eI)) [(0, 0), (0, 1)])) (op_lst (by exact Nat.le_of_ble_eq_true rfl) rfl)))))) (rs_put (st1 := [.rf 0 (List.map eI c2.2), .sh ((eL (eT eI)) table), .sh (eI most), .sh (eI (table.length : Int)), .sh (eI c2.1), .ow (List.map (eP2 eI eI) [(0, 0), (0, 1)]), .no, .no, .no]) rfl (rs_seq (rs_bindS (fun (r31 : List Int) => [.rf 0 (List.map eI r31), .sh ((eL (eT eI)) table), .sh (eI most), .sh (eI (table.length : Int)), .sh (eI c2.1), .ow (List.map (eP2 eI eI) [(0, 0), (0, 1)]), .no, .no, .no]) (rt_tst (rt_dOp2 (rt_bindS (rt_dCallR (rt_bindP (rv_owR rfl) (rt_consP rv_ret (rt_nil (rt_callR (S := fun r28 => [.rf 0 (List.map eI r28), .sh ((eL (eT eI)) table), .sh (eI most), .sh (eI (table.length : Int)), .sh (eI c2.1), .ow (List.map (eP2 eI eI) [(0, 0), (0, 1)]), .no, .no, .no]) rfl (fun _ => rfl) (S__law_take c2.2 2)))))) fun c29 => (rt_bindP rv_ret (rt_rv (v := eB) (rv_lift (eq_py pyI (x := c29.1) (y := 0)))))))) fun c30 => (rs_join (I := (fun (a56 : (List (Int × Int))) (st : DSt) => st = [.rf 0 (List.map eI c30.2), .sh ((eL (eT eI)) table), .sh (eI most), .sh (eI (table.length : Int)), .sh (eI c2.1), .ow (List.map (eP2 eI eI) a56), .no, .no, .no])) (rs_iteN (fun _ => (rs_last (rs_bindP (rv_dLst (rv_cons (rv_dTup (rv_cons rv_ret (rv_cons rv_ret (rv_nil (rv_lift (y := ((eP2 eI eI) (0, 1))) (op_tup (by exact Nat.le_of_ble_eq_true rfl) rfl)))))) (rv_cons (rv_dTup (rv_cons rv_ret (rv_cons rv_ret (rv_nil (rv_lift (y := ((eP2 eI eI) (1, 0))) (op_tup (by exact Nat.le_of_ble_eq_true rfl) rfl)))))) (rv_nil (rv_lift (y := ((List.map (eP2 eI eI)) [(0, 1), (1, 0)])) (op_lst (by exact Nat.le_of_ble_eq_true rfl) rfl)))))) (rs_put (st1 := [.rf 0 (List.map eI c30.2), .sh ((eL (eT eI)) table), .sh (eI most), .sh (eI (table.length : Int)), .sh (eI c2.1), .ow (List.map (eP2 eI eI) [(0, 1), (1, 0)]), .no, .no, .no]) rfl (rs_end ⟨rfl, rfl⟩))))) (fun _ => (rs_end ⟨rfl, rfl⟩))) fun | a32, _, rfl => (rs_bindG (re_frzN (re_bindG (re_dRng (re_bindG (re_dOp2 (re_bindP rv_ret (re_bindP (rv_var rfl) (re_lift op_mul)))) fun c33 => (re_lift op_rng))) fun c34 => (re_compM (e := eI) (f := fun (x35 : Int) => M.bind (M.bind (pMul 2 (table.length : Int)) fun c36 => pRng c36) fun c37 => pMap (fun (x38 : Int) => M.bind (M.bind (M.bind (M.bind (pDiv x35 2) fun c42 => pAt table c42) fun c43 => M.bind (pDiv x38 2) fun c44 => pAt c43 c44) fun c45 => pMul 2 c45) fun c49 => M.bind (M.bind (M.bind (pMod x35 2) fun c50 => pAt a32 c50) fun c51 => M.bind (pMod x38 2) fun c52 => pAt [c51.1, c51.2] c52) fun c53 => .ok (c49 + c53)) c37) ([.rf 0 (List.map eI c30.2), .sh ((eL (eT eI)) table), .sh (eI most), .sh (eI (table.length : Int)), .sh (eI c2.1), .ow (List.map (eP2 eI eI) a32), .no, .no, .no]) rfl rfl rfl (fun x35 => ⟨[.rf 0 (List.map eI c30.2), .sh ((eL (eT eI)) table), .sh (eI most), .sh (eI (table.length : Int)), .sh (eI c2.1), .ow (List.map (eP2 eI eI) a32), .sh (eI x35), .no, .no], [.rf 0 (List.map eI c30.2), .sh ((eL (eT eI)) table), .sh (eI most), .sh (eI (table.length : Int)), .sh (eI c2.1), .ow (List.map (eP2 eI eI) a32), .sh (eI x35), .no, .no], rfl, (re_dOp1 (re_tail (w := (eT eI)) (re_frzN (re_bindG (re_dRng (re_bindG (re_dOp2 (re_bindP rv_ret (re_bindP (rv_var rfl) (re_lift op_mul)))) fun c36 => (re_lift op_rng))) fun c37 => (re_compM (e := eI) (f := fun (x38 : Int) => M.bind (M.bind (M.bind (M.bind (pDiv x35 2) fun c42 => pAt table c42) fun c43 => M.bind (pDiv x38 2) fun c44 => pAt c43 c44) fun c45 => pMul 2 c45) fun c49 => M.bind (M.bind (M.bind (pMod x35 2) fun c50 => pAt a32 c50) fun c51 => M.bind (pMod x38 2) fun c52 => pAt [c51.1, c51.2] c52) fun c53 => .ok (c49 + c53)) ([.rf 0 (List.map eI c30.2), .sh ((eL (eT eI)) table), .sh (eI most), .sh (eI (table.length : Int)), .sh (eI c2.1), .ow (List.map (eP2 eI eI) a32), .sh (eI x35), .no, .no]) rfl rfl rfl (fun x38 => ⟨[.rf 0 (List.map eI c30.2), .sh ((eL (eT eI)) table), .sh (eI most), .sh (eI (table.length : Int)), .sh (eI c2.1), .ow (List.map (eP2 eI eI) a32), .sh (eI x35), .sh (eI x38), .no], [.rf 0 (List.map eI c30.2), .sh ((eL (eT eI)) table), .sh (eI most), .sh (eI (table.length : Int)), .sh (eI c2.1), .ow (List.map (eP2 eI eI) a32), .sh (eI x35), .sh (eI x38), .no], rfl, (re_dOp2 (re_bindG (re_dOp2 (re_bindP rv_ret (re_bindG (re_dOp2 (re_bindG (re_dOp2n (re_bindP (rv_rd rfl) (re_bindG (re_dOp2 (re_bindP (rv_var rfl) (re_bindP rv_ret (re_lift op_div)))) fun c42 => (re_bindP (rv_rd rfl) (re_lift op_atL))))) fun c43 => (re_bindG (re_dOp2 (re_bindP (rv_var rfl) (re_bindP rv_ret (re_lift op_div)))) fun c44 => (re_lift op_atT)))) fun c45 => (re_lift op_mul)))) fun c49 => (re_bindG (re_dOp2 (re_bindG (re_dOp2n (re_bindP (rv_rdO rfl) (re_bindG (re_dOp2 (re_bindP (rv_dOp1n (rv_bind (rv_rd rfl) (rv_lift (y := (eI x35)) rfl))) (re_bindP rv_ret (re_lift op_mod)))) fun c50 => (re_bindP (rv_rdO rfl) (re_lift op_atL))))) fun c51 => (re_bindG (re_dOp2 (re_bindP (rv_dOp1n (rv_bind (rv_rd rfl) (rv_lift (y := (eI x38)) rfl))) (re_bindP rv_ret (re_lift op_mod)))) fun c52 => (re_lift (op_atT (e := eI) (xs := [c51.1, c51.2])))))) fun c53 => (re_rv (w := eI) (rv_lift (y := (eI (c49 + c53))) rfl))))), rfl, rfl⟩)))) fun c54 => (rv_lift (y := ((eT eI) c54)) rfl))), rfl, rfl⟩)))) fun c55 => (rs_ret ⟨.inl rfl, _, rfl⟩))))))))) (fun _ => (rs_nx (rs_last (rs_bindP (rv_var rfl) (rs_ret ⟨.inl rfl, _, rfl⟩))))))))))))))))))))))))
def P__law_order_of (state_here : (List Int)) (n : Int) : M ((List Int) × (List Int)) := M.bind (pRng n) fun c1 => M.bind (pRng n) fun c2 => M.bind (pfold (fun (x19 : Int) (a20 : ((List Int) × (List Int) × (List Int))) => M.bind (P__law_take a20.1 (a20.2.1.length : Int)) fun c23 => M.bind (pPopAt a20.2.1 c23.1) fun c24 => M.bind (pApp a20.2.2 c24.1) fun c25 => .ok (c23.2, c24.2, c25)) c2 (state_here, c1, [])) fun (a27 : ((List Int) × (List Int) × (List Int))) => .ok (a27.2.2, a27.1)
theorem S__law_order_of (state_here : (List Int)) (n : Int) : DR (d__law_order_of (List.map eI state_here) [eI n]) (P__law_order_of state_here n) (eL eI) eI := fn_R rfl (show RS false (sSeq (sOwn 2 (dLstRg (dRg1 (dVar 1)))) (sSeq (sOwn 3 (dLst dNil)) (sSeq (sFor (.nm 4) (dRng (dVar 1)) (sExpr (dAppend 3 (dPopAt 2 (dCallR d__law_take 0 (dCons (dOp1n opLen 2) dNil)))))) (sRet (dVar 3))))) [.rf 0 (List.map eI state_here), .sh (eI n), .no, .no, .no] (P__law_order_of state_here n) (Kby (eL eI) eI) from
  (rs_bindG (re_lrgP (rv_var rfl)) fun c1 => (rs_put (st1 := [.rf 0 (List.map eI state_here), .sh (eI n), .ow (List.map eI c1), .no, .no]) rfl (rs_bindP (rv_dLst (rv_nil (rv_lift (y := ((List.map eI) [])) (op_lst (by exact Nat.le_of_ble_eq_true rfl) rfl)))) (rs_put (st1 := [.rf 0 (List.map eI state_here), .sh (eI n), .ow (List.map eI c1), .ow (List.map eI []), .no]) rfl (rs_bindG (re_dRng (re_bindP (rv_var rfl) (re_lift op_rng))) fun c2 => (rs_for0 (e := eI) (xs := c2) (a := (state_here, c1, [])) (f := fun (x19 : Int) (a20 : ((List Int) × (List Int) × (List Int))) => M.bind (P__law_take a20.1 (a20.2.1.length : Int)) fun c23 => M.bind (pPopAt a20.2.1 c23.1) fun c24 => M.bind (pApp a20.2.2 c24.1) fun c25 => .ok (c23.2, c24.2, c25)) (fun (a29 : ((List Int) × (List Int) × (List Int))) (st : DSt) => ∃ (j30 : (Option D)), st = [.rf 0 (List.map eI a29.1), .sh (eI n), .ow (List.map eI a29.2.1), .ow (List.map eI a29.2.2), jk j30]) ⟨none, rfl⟩ (fun | x19, a20, _, ⟨j21, rfl⟩ => ⟨[.rf 0 (List.map eI a20.1), .sh (eI n), .ow (List.map eI a20.2.1), .ow (List.map eI a20.2.2), .sh (eI x19)], rfl, (rs_last (rs_appPop (e := eI) (xs := a20.2.1) (ys := a20.2.2) (fun (r26 : List Int) => [.rf 0 (List.map eI r26), .sh (eI n), .ow (List.map eI a20.2.1), .ow (List.map eI a20.2.2), .sh (eI x19)]) rfl rfl (rt_dCallR (rt_bindP (rv_owR rfl) (rt_consP (rv_dOp1n (rv_bind (rv_rdO rfl) (rv_lift op_lenL))) (rt_nil (rt_callR (S := fun r22 => [.rf 0 (List.map eI r22), .sh (eI n), .ow (List.map eI a20.2.1), .ow (List.map eI a20.2.2), .sh (eI x19)]) rfl (fun _ => rfl) (S__law_take a20.1 (a20.2.1.length : Int))))))) (fun _ => rfl) (fun _ => rfl) (by decide) fun c23 c24 c25 => rs_st ([.rf 0 (List.map eI c23.2), .sh (eI n), .ow (List.map eI c24.2), .ow (List.map eI c25), .sh (eI x19)]) rfl (rs_end ⟨rfl, (some (eI x19)), rfl⟩)))⟩) (fun | a27, _, ⟨j28, rfl⟩ => (rs_last (rs_bindP (rv_frz rfl) (rs_ret ⟨.inl rfl, _, rfl⟩)))))))))))
def P__law_renamed (table : (List (List Int))) (order : (List Int)) : M (List (List Int)) := M.bind (M.bind (pRng (table.length : Int)) fun c1 => pMap (fun (x2 : Int) => M.bind (pRng (table.length : Int)) fun c3 => pMap (fun (x4 : Int) => .ok 0) c3) c1) fun c5 => M.bind (pRng (table.length : Int)) fun c6 => M.bind (pfold (fun (x34 : Int) (a35 : (List (List Int))) => M.bind (pRng (table.length : Int)) fun c38 => M.bind (pfold (fun (x48 : Int) (a49 : (List (List Int))) => M.bind (pNX (M.bind (M.bind (M.bind (pAt table x34) fun c51 => pAt c51 x48) fun c52 => pAt order c52) fun c54 => M.bind (pAt order x34) fun c55 => M.bind (pAt order x48) fun c56 => pSet2 a49 c55 c56 c54)) fun c53 => .ok c53) c38 a35) fun (a57 : (List (List Int))) => .ok a57) c6 c5) fun (a61 : (List (List Int))) => M.bind (pMap (fun (x64 : (List Int)) => .ok x64) a61) fun c65 => .ok c65
theorem S__law_renamed (table : (List (List Int))) (order : (List Int)) : DM (d__law_renamed [(eL (eT eI)) table, (eL eI) order]) (P__law_renamed table order) (eL (eT eI)) := fn_F rfl (show RS true (sSeq (sSet 2 (dOp1n opLen 0)) (sSeq (sOwn2 3 (dComp2 [4] (.nm 4) (dRng (dVar 2)) (dComp [5] (.nm 5) (dRng (dVar 2)) dYes (dC (.int 0))))) (sSeq (sFor (.nm 4) (dRng (dVar 2)) (sFor (.nm 5) (dRng (dVar 2)) (sStore2 3 (dOp2n opIx 1 (dVar 4)) (dOp2n opIx 1 (dVar 5)) (dOp2n opIx 1 (dOp2 opIx (dOp2n opIx 0 (dVar 4)) (dVar 5)))))) (sRet (dFrz (dComp [6] (.nm 6) (dItems (dVar 3)) dYes (dOp1n opTuple 6))))))) [.sh ((eL (eT eI)) table), .sh ((eL eI) order), .no, .no, .no, .no, .no] (P__law_renamed table order) (Kfn (eL (eT eI))) from
  (rs_bindP (rv_dOp1n (rv_bind (rv_rd rfl) (rv_lift op_lenL))) (rs_put (st1 := [.sh ((eL (eT eI)) table), .sh ((eL eI) order), .sh (eI (table.length : Int)), .no, .no, .no, .no]) rfl (rs_bindG (re_bindG (re_dRng (re_bindP (rv_var rfl) (re_lift op_rng))) fun c1 => (re_comp2 (e := eI) (f := fun (x2 : Int) => M.bind (pRng (table.length : Int)) fun c3 => pMap (fun (x4 : Int) => .ok 0) c3) ([.sh ((eL (eT eI)) table), .sh ((eL eI) order), .sh (eI (table.length : Int)), .no, .no, .no, .no]) rfl rfl rfl (fun x2 => ⟨[.sh ((eL (eT eI)) table), .sh ((eL eI) order), .sh (eI (table.length : Int)), .no, .sh (eI x2), .no, .no], [.sh ((eL (eT eI)) table), .sh ((eL eI) order), .sh (eI (table.length : Int)), .no, .sh (eI x2), .no, .no], rfl, (re_bindG (re_dRng (re_bindP (rv_var rfl) (re_lift op_rng))) fun c3 => (re_compM (e := eI) (f := fun (x4 : Int) => .ok 0) ([.sh ((eL (eT eI)) table), .sh ((eL eI) order), .sh (eI (table.length : Int)), .no, .sh (eI x2), .no, .no]) rfl rfl rfl (fun x4 => ⟨[.sh ((eL (eT eI)) table), .sh ((eL eI) order), .sh (eI (table.length : Int)), .no, .sh (eI x2), .sh (eI x4), .no], [.sh ((eL (eT eI)) table), .sh ((eL eI) order), .sh (eI (table.length : Int)), .no, .sh (eI x2), .sh (eI x4), .no], rfl, (re_rv (w := eI) rv_ret), rfl, rfl⟩))), rfl, rfl⟩))) fun c5 => (rs_put2 (st1 := [.sh ((eL (eT eI)) table), .sh ((eL eI) order), .sh (eI (table.length : Int)), .o2 (List.map (List.map eI) c5), .no, .no, .no]) rfl (rs_bindG (re_dRng (re_bindP (rv_var rfl) (re_lift op_rng))) fun c6 => (rs_for0 (e := eI) (xs := c6) (a := c5) (f := fun (x34 : Int) (a35 : (List (List Int))) => M.bind (pRng (table.length : Int)) fun c38 => M.bind (pfold (fun (x48 : Int) (a49 : (List (List Int))) => M.bind (pNX (M.bind (M.bind (M.bind (pAt table x34) fun c51 => pAt c51 x48) fun c52 => pAt order c52) fun c54 => M.bind (pAt order x34) fun c55 => M.bind (pAt order x48) fun c56 => pSet2 a49 c55 c56 c54)) fun c53 => .ok c53) c38 a35) fun (a57 : (List (List Int))) => .ok a57) (fun (a66 : (List (List Int))) (st : DSt) => ∃ (j67 : (Option D)), ∃ (j68 : (Option D)), st = [.sh ((eL (eT eI)) table), .sh ((eL eI) order), .sh (eI (table.length : Int)), .o2 (List.map (List.map eI) a66), jk j67, jk j68, .no]) ⟨none, none, rfl⟩ (fun | x34, a35, _, ⟨j36, j37, rfl⟩ => ⟨[.sh ((eL (eT eI)) table), .sh ((eL eI) order), .sh (eI (table.length : Int)), .o2 (List.map (List.map eI) a35), .sh (eI x34), jk j37, .no], rfl, (rs_last (rs_bindG (re_dRng (re_bindP (rv_var rfl) (re_lift op_rng))) fun c38 => (rs_for0 (e := eI) (xs := c38) (a := a35) (f := fun (x48 : Int) (a49 : (List (List Int))) => M.bind (pNX (M.bind (M.bind (M.bind (pAt table x34) fun c51 => pAt c51 x48) fun c52 => pAt order c52) fun c54 => M.bind (pAt order x34) fun c55 => M.bind (pAt order x48) fun c56 => pSet2 a49 c55 c56 c54)) fun c53 => .ok c53) (fun (a59 : (List (List Int))) (st : DSt) => ∃ (j60 : (Option D)), st = [.sh ((eL (eT eI)) table), .sh ((eL eI) order), .sh (eI (table.length : Int)), .o2 (List.map (List.map eI) a59), .sh (eI x34), jk j60, .no]) ⟨j37, rfl⟩ (fun | x48, a49, _, ⟨j50, rfl⟩ => ⟨[.sh ((eL (eT eI)) table), .sh ((eL eI) order), .sh (eI (table.length : Int)), .o2 (List.map (List.map eI) a49), .sh (eI x34), .sh (eI x48), .no], rfl, (rs_last (rs_x (x_set2G (e := eI) rfl (re_dOp2n (re_bindP (rv_rd rfl) (re_bindG (re_dOp2 (re_bindG (re_dOp2n (re_bindP (rv_rd rfl) (re_bindP (rv_var rfl) (re_bindP (rv_rd rfl) (re_lift op_atL))))) fun c51 => (re_bindP (rv_var rfl) (re_lift op_atT)))) fun c52 => (re_bindP (rv_rd rfl) (re_lift op_atL))))) (re_dOp2n (re_bindP (rv_rd rfl) (re_bindP (rv_var rfl) (re_bindP (rv_rd rfl) (re_lift op_atL))))) (re_dOp2n (re_bindP (rv_rd rfl) (re_bindP (rv_var rfl) (re_bindP (rv_rd rfl) (re_lift op_atL)))))) fun c53 => rs_st ([.sh ((eL (eT eI)) table), .sh ((eL eI) order), .sh (eI (table.length : Int)), .o2 (List.map (List.map eI) c53), .sh (eI x34), .sh (eI x48), .no]) rfl (rs_end ⟨rfl, (some (eI x48)), rfl⟩)))⟩) (fun | a57, _, ⟨j58, rfl⟩ => (rs_end ⟨rfl, (some (eI x34)), j58, rfl⟩)))))⟩) (fun | a61, _, ⟨j62, j63, rfl⟩ => (rs_last (rs_bindG (re_frzN (re_bindP (rv_dItems (rv_bind (rv_frzL (e := eI) (xss := a61) rfl) (rv_lift (y := ((List.map (eL eI)) a61)) rfl))) (re_compM (e := (eL eI)) (f := fun (x64 : (List Int)) => .ok x64) ([.sh ((eL (eT eI)) table), .sh ((eL eI) order), .sh (eI (table.length : Int)), .sh ((eL (eL eI)) a61), jk j62, jk j63, .no]) rfl rfl rfl (fun x64 => ⟨[.sh ((eL (eT eI)) table), .sh ((eL eI) order), .sh (eI (table.length : Int)), .sh ((eL (eL eI)) a61), jk j62, jk j63, .sh ((eL eI) x64)], [.sh ((eL (eT eI)) table), .sh ((eL eI) order), .sh (eI (table.length : Int)), .sh ((eL (eL eI)) a61), jk j62, jk j63, .sh ((eL eI) x64)], rfl, (re_rv (w := (eT eI)) (rv_dOp1n (rv_bind (rv_rd rfl) (rv_lift (y := ((eT eI) x64)) rfl)))), rfl, rfl⟩)))) fun c65 => (rs_ret (.inl rfl))))))))))))
def P__law_semigroup (state_here : (List Int)) (most : Int) : M ((List (List Int)) × (List Int)) := M.bind (M.bind (P__law_plain state_here most) fun c2 => P__law_extended c2.2 c2.1 most) fun c4 => M.bind (M.bind (P__law_order_of c4.2 (c4.1.length : Int)) fun c7 => M.bind (P__law_renamed c4.1 c7.1) fun c8 => .ok (c8, c7.2)) fun c9 => .ok (c9.1, c9.2)
theorem S__law_semigroup (state_here : (List Int)) (most : Int) : DR (d__law_semigroup (List.map eI state_here) [eI most]) (P__law_semigroup state_here most) (eL (eT eI)) eI := fn_R rfl (show RS false (sSeq (sSet 2 (dCallR d__law_extended 0 (dCons (dCallR d__law_plain 0 (dCons (dVar 1) dNil)) (dCons (dVar 1) dNil)))) (sRet (dCall d__law_renamed (dCons (dVar 2) (dCons (dCallR d__law_order_of 0 (dCons (dOp1n opLen 2) dNil)) dNil))))) [.rf 0 (List.map eI state_here), .sh (eI most), .no] (P__law_semigroup state_here most) (Kby (eL (eT eI)) eI) from
  (rs_bindS (fun (r5 : List Int) => [.rf 0 (List.map eI r5), .sh (eI most), .no]) (rt_dCallR (rt_bindP (rv_owR rfl) (rt_consS (rt_dCallR (rt_bindP (rv_owR rfl) (rt_consP (rv_var rfl) (rt_nil (rt_callR (S := fun r1 => [.rf 0 (List.map eI r1), .sh (eI most), .no]) rfl (fun _ => rfl) (S__law_plain state_here most)))))) fun c2 => (rt_consP (rv_var rfl) (rt_nil (rt_callR (S := fun r3 => [.rf 0 (List.map eI r3), .sh (eI most), .no]) rfl (fun _ => rfl) (S__law_extended c2.2 c2.1 most))))))) fun c4 => (rs_put (st1 := [.rf 0 (List.map eI c4.2), .sh (eI most), .sh ((eL (eT eI)) c4.1)]) rfl (rs_last (rs_bindS (fun (r10 : List Int) => [.rf 0 (List.map eI r10), .sh (eI most), .sh ((eL (eT eI)) c4.1)]) (rt_dCall (rt_consP (rv_var rfl) (rt_consS (rt_dCallR (rt_bindP (rv_owR rfl) (rt_consP (rv_dOp1n (rv_bind (rv_rd rfl) (rv_lift op_lenL))) (rt_nil (rt_callR (S := fun r6 => [.rf 0 (List.map eI r6), .sh (eI most), .sh ((eL (eT eI)) c4.1)]) rfl (fun _ => rfl) (S__law_order_of c4.2 (c4.1.length : Int))))))) fun c7 => (rt_nil (rt_re (re_liftM (S__law_renamed c4.1 c7.1))))))) fun c9 => (rs_ret ⟨.inl rfl, _, rfl⟩))))))
def P_is_integer (value : Int) : M Bool := .ok (true && (!false))
theorem S_is_integer (value : Int) : DM (d_is_integer [eI value]) (P_is_integer value) eB := fn_F rfl (show RS true (sRet (dIf (dTst (dOp1 (opIsi "int") (dVar 0))) (dVal (dNot (dTst (dOp1 (opIsi "bool") (dVar 0))))) (dC (.bl false)))) [.sh (eI value)] (P_is_integer value) (Kfn eB) from
  (rs_last (rs_bindP (rv_dIf (rv_bind (rv_tst (rv_dOp1 (rv_bind (rv_var rfl) (rv_lift (y := (eB true)) rfl)))) (rv_andE fun _ => (rv_dVal (rv_bind (rv_dNot (rv_bind (rv_tst (rv_dOp1 (rv_bind (rv_var rfl) (rv_lift (y := (eB false)) rfl)))) rv_ret)) rv_ret))))) (rs_ret (.inl rfl)))))
def P_is_item (value : Int) (n : Int) : M Bool := M.bind (M.bind (P_is_integer value) fun c1 => .ok (c1 && ((decide (0 ≤ value)) && (decide (value < n))))) fun c2 => .ok c2
theorem S_is_item (value : Int) (n : Int) : DM (d_is_item [eI value, eI n]) (P_is_item value n) eB := fn_F rfl (show RS true (sRet (dIf (dTst (dCall d_is_integer (dCons (dVar 0) dNil))) (dChain opLe opLt (dC (.int 0)) (dVar 0) (dVar 1)) (dC (.bl false)))) [.sh (eI value), .sh (eI n)] (P_is_item value n) (Kfn eB) from
  (rs_last (rs_bindG (re_dIf (re_bindG (re_tst (re_dCall (re_consP (rv_var rfl) (re_nil (re_liftM (S_is_integer value)))))) fun c1 => (re_rv (w := eB) (rv_andE fun _ => (rv_dChain (rv_bind rv_ret (rv_bind (rv_var rfl) (rv_chain rfl (rv_var rfl) rfl)))))))) fun c2 => (rs_ret (.inl rfl)))))
def P_taken_table (table : (List (List Int))) : M (List (List Int)) := if ((!true) || (decide ((table.length : Int) = 0))) = true then .exn "Malformed" [] else M.bind (pfold (fun (x39 : (List Int)) (a40 : (List (List Int))) => if ((!true) || (!decide ((x39.length : Int) = (table.length : Int)))) = true then .exn "Malformed" [] else M.bind (pfold (fun (x48 : Int) (a49 : Unit) => M.bind (M.bind (P_is_item x48 (table.length : Int)) fun c51 => .ok (!c51)) fun c52 => if c52 = true then .exn "Malformed" [] else .ok ()) x39 ()) fun (a53 : Unit) => M.bind (pApp a40 x39) fun c55 => .ok c55) table []) fun (a58 : (List (List Int))) => .ok a58
theorem S_taken_table (table : (List (List Int))) : DM (d_taken_table [(eL (eT eI)) table]) (P_taken_table table) (eT (eT eI)) := fn_F rfl (show RS true (sSeq (sIf (dOr (dNot (dTst (dOp1 (opIsi2 "list" "tuple") (dVar 0)))) (dTst (dOp2 opEq (dOp1n opLen 0) (dC (.int 0))))) (sRaise0 "Malformed") sPass) (sSeq (sOwn 1 (dLst dNil)) (sSeq (sFor (.nm 2) (dItems (dVar 0)) (sSeq (sIf (dOr (dNot (dTst (dOp1 (opIsi2 "list" "tuple") (dVar 2)))) (dTst (dOp2 opNe (dOp1n opLen 2) (dOp1n opLen 0)))) (sRaise0 "Malformed") sPass) (sSeq (sFor (.nm 3) (dItems (dVar 2)) (sIf (dNot (dTst (dCall d_is_item (dCons (dVar 3) (dCons (dOp1n opLen 0) dNil))))) (sRaise0 "Malformed") sPass)) (sExpr (dAppend 1 (dOp1n opTuple 2)))))) (sRet (dOp1n opTuple 1))))) [.sh ((eL (eT eI)) table), .no, .no, .no] (P_taken_table table) (Kfn (eT (eT eI))) from
  (rs_bindP (rv_dOr (rv_bind (rv_dNot (rv_bind (rv_tst (rv_dOp1 (rv_bind (rv_var rfl) (rv_lift (y := (eB true)) rfl)))) rv_ret)) (rv_or fun _ => (rv_tst (rv_dOp2 (rv_bind (rv_dOp1n (rv_bind (rv_rd rfl) (rv_lift op_lenL))) (rv_bind rv_ret (rv_lift (eq_py pyI (x := (table.length : Int)) (y := 0)))))))))) (rs_ite (fun _ => rs_raise0) (fun _ => (rs_nx (rs_bindP (rv_dLst (rv_nil (rv_lift (y := ((List.map eI) [])) (op_lst (by exact Nat.le_of_ble_eq_true rfl) rfl)))) (rs_put (st1 := [.sh ((eL (eT eI)) table), .ow (List.map eI []), .no, .no]) rfl (rs_bindP (rv_dItems (rv_bind (rv_var rfl) (rv_lift (y := ((List.map (eT eI)) table)) rfl))) (rs_for0 (e := (eT eI)) (xs := table) (a := []) (f := fun (x39 : (List Int)) (a40 : (List (List Int))) => if ((!true) || (!decide ((x39.length : Int) = (table.length : Int)))) = true then .exn "Malformed" [] else M.bind (pfold (fun (x48 : Int) (a49 : Unit) => M.bind (M.bind (P_is_item x48 (table.length : Int)) fun c51 => .ok (!c51)) fun c52 => if c52 = true then .exn "Malformed" [] else .ok ()) x39 ()) fun (a53 : Unit) => M.bind (pApp a40 x39) fun c55 => .ok c55) (fun (a61 : (List (List Int))) (st : DSt) => ∃ (j62 : (Option D)), ∃ (j63 : (Option D)), st = [.sh ((eL (eT eI)) table), .ow (List.map (eT eI) a61), jk j62, jk j63]) ⟨none, none, rfl⟩ (fun | x39, a40, _, ⟨j41, j42, rfl⟩ => ⟨[.sh ((eL (eT eI)) table), .ow (List.map (eT eI) a40), .sh ((eT eI) x39), jk j42], rfl, (rs_bindP (rv_dOr (rv_bind (rv_dNot (rv_bind (rv_tst (rv_dOp1 (rv_bind (rv_var rfl) (rv_lift (y := (eB true)) rfl)))) rv_ret)) (rv_or fun _ => (rv_tst (rv_dOp2 (rv_bind (rv_dOp1n (rv_bind (rv_rd rfl) (rv_lift op_lenT))) (rv_bind (rv_dOp1n (rv_bind (rv_rd rfl) (rv_lift op_lenL))) (rv_lift (ne_py pyI (x := (x39.length : Int)) (y := (table.length : Int))))))))))) (rs_ite (fun _ => rs_raise0) (fun _ => (rs_nx (rs_bindP (rv_dItems (rv_bind (rv_var rfl) (rv_lift (y := ((List.map eI) x39)) rfl))) (rs_for0 (e := eI) (xs := x39) (a := ()) (f := fun (x48 : Int) (a49 : Unit) => M.bind (M.bind (P_is_item x48 (table.length : Int)) fun c51 => .ok (!c51)) fun c52 => if c52 = true then .exn "Malformed" [] else .ok ()) (fun (a56 : Unit) (st : DSt) => ∃ (j57 : (Option D)), st = [.sh ((eL (eT eI)) table), .ow (List.map (eT eI) a40), .sh ((eT eI) x39), jk j57]) ⟨j42, rfl⟩ (fun | x48, a49, _, ⟨j50, rfl⟩ => ⟨[.sh ((eL (eT eI)) table), .ow (List.map (eT eI) a40), .sh ((eT eI) x39), .sh (eI x48)], rfl, (rs_last (rs_bindG (re_dNot (re_bindG (re_tst (re_dCall (re_consP (rv_var rfl) (re_consP (rv_dOp1n (rv_bind (rv_rd rfl) (rv_lift op_lenL))) (re_nil (re_liftM (S_is_item x48 (table.length : Int)))))))) fun c51 => (re_rv (w := (fun b : Bool => b)) rv_ret))) fun c52 => (rs_ite (fun _ => rs_raise0) (fun _ => (rs_nx (rs_end ⟨rfl, (some (eI x48)), rfl⟩))))))⟩) (fun | a53, _, ⟨j54, rfl⟩ => (rs_last (rs_x (x_appP (e := (eT eI)) (xs := a40) rfl (rv_dOp1n (rv_bind (rv_rd rfl) (rv_lift (y := ((eT eI) x39)) rfl))) rfl) fun c55 => rs_st ([.sh ((eL (eT eI)) table), .ow (List.map (eT eI) c55), .sh ((eT eI) x39), jk j54]) rfl (rs_end ⟨rfl, (some ((eT eI) x39)), j54, rfl⟩))))))))))⟩) (fun | a58, _, ⟨j59, j60, rfl⟩ => (rs_last (rs_bindP (rv_dOp1n (rv_bind (rv_rdO rfl) (rv_lift (y := ((eT (eT eI)) a58)) rfl))) (rs_ret (.inl rfl))))))))))))))
def P_is_associative (table : (List (List Int))) : M Bool := M.bind (pfor (fun (x42 : (List Int)) (a43 : Unit) => M.bind (pRng (table.length : Int)) fun c46 => M.bind (pfor (fun (x63 : Int) (a64 : Unit) => M.bind (M.bind (M.bind (pRng (table.length : Int)) fun c66 => pMap (fun (x67 : Int) => M.bind (M.bind (pAt x42 x63) fun c68 => pAt table c68) fun c69 => pAt c69 x67) c66) fun c73 => M.bind (M.bind (pAt table x63) fun c75 => pMap (fun (x76 : Int) => pAt x42 x76) c75) fun c77 => .ok (!decide (c73 = c77))) fun c78 => if c78 = true then .ok (.ret false) else .ok (.nx ())) c46 ()) fun r => pK r (fun (a79 : Unit) => .ok (.nx ())) F.ret) table ()) fun r => pK r (fun (a83 : Unit) => .ok true) (fun q => q)
theorem S_is_associative (table : (List (List Int))) : DM (d_is_associative [(eT (eT eI)) table]) (P_is_associative table) eB := fn_F rfl (show RS true (sSeq (sFor (.nm 1) (dItems (dVar 0)) (sFor (.nm 2) (dRng (dOp1n opLen 0)) (sIf (dTst (dOp2 opNe (dFrz (dComp [3] (.nm 3) (dRng (dOp1n opLen 0)) dYes (dOp2 opIx (dOp2n opIx 0 (dOp2n opIx 1 (dVar 2))) (dVar 3)))) (dFrz (dComp [4] (.nm 4) (dItems (dOp2n opIx 0 (dVar 2))) dYes (dOp2n opIx 1 (dVar 4)))))) (sRet (dC (.bl false))) sPass))) (sRet (dC (.bl true)))) [.sh ((eT (eT eI)) table), .no, .no, .no, .no] (P_is_associative table) (Kfn eB) from
  (rs_bindP (rv_dItems (rv_bind (rv_var rfl) (rv_lift (y := ((List.map (eT eI)) table)) rfl))) (rs_for1 (e := (eT eI)) (xs := table) (a := ()) (f := fun (x42 : (List Int)) (a43 : Unit) => M.bind (pRng (table.length : Int)) fun c46 => M.bind (pfor (fun (x63 : Int) (a64 : Unit) => M.bind (M.bind (M.bind (pRng (table.length : Int)) fun c66 => pMap (fun (x67 : Int) => M.bind (M.bind (pAt x42 x63) fun c68 => pAt table c68) fun c69 => pAt c69 x67) c66) fun c73 => M.bind (M.bind (pAt table x63) fun c75 => pMap (fun (x76 : Int) => pAt x42 x76) c75) fun c77 => .ok (!decide (c73 = c77))) fun c78 => if c78 = true then .ok (.ret false) else .ok (.nx ())) c46 ()) fun r => pK r (fun (a79 : Unit) => .ok (.nx ())) F.ret) (h := (fun q => q)) (fun (a86 : Unit) (st : DSt) => ∃ (j87 : (Option D)), ∃ (j88 : (Option D)), st = [.sh ((eT (eT eI)) table), jk j87, jk j88, .no, .no]) ⟨none, none, rfl⟩ (fun | x42, a43, _, ⟨j44, j45, rfl⟩ => ⟨[.sh ((eT (eT eI)) table), .sh ((eT eI) x42), jk j45, .no, .no], rfl, (rs_last (rs_bindG (re_dRng (re_bindP (rv_dOp1n (rv_bind (rv_rd rfl) (rv_lift op_lenT))) (re_lift op_rng))) fun c46 => (rs_for1 (e := eI) (xs := c46) (a := ()) (f := fun (x63 : Int) (a64 : Unit) => M.bind (M.bind (M.bind (pRng (table.length : Int)) fun c66 => pMap (fun (x67 : Int) => M.bind (M.bind (pAt x42 x63) fun c68 => pAt table c68) fun c69 => pAt c69 x67) c66) fun c73 => M.bind (M.bind (pAt table x63) fun c75 => pMap (fun (x76 : Int) => pAt x42 x76) c75) fun c77 => .ok (!decide (c73 = c77))) fun c78 => if c78 = true then .ok (.ret false) else .ok (.nx ())) (h := F.ret) (fun (a81 : Unit) (st : DSt) => ∃ (j82 : (Option D)), st = [.sh ((eT (eT eI)) table), .sh ((eT eI) x42), jk j82, .no, .no]) ⟨j45, rfl⟩ (fun | x63, a64, _, ⟨j65, rfl⟩ => ⟨[.sh ((eT (eT eI)) table), .sh ((eT eI) x42), .sh (eI x63), .no, .no], rfl, (rs_last (rs_bindG (re_tst (re_dOp2 (re_bindG (re_frzN (re_bindG (re_dRng (re_bindP (rv_dOp1n (rv_bind (rv_rd rfl) (rv_lift op_lenT))) (re_lift op_rng))) fun c66 => (re_compM (e := eI) (f := fun (x67 : Int) => M.bind (M.bind (pAt x42 x63) fun c68 => pAt table c68) fun c69 => pAt c69 x67) ([.sh ((eT (eT eI)) table), .sh ((eT eI) x42), .sh (eI x63), .no, .no]) rfl rfl rfl (fun x67 => ⟨[.sh ((eT (eT eI)) table), .sh ((eT eI) x42), .sh (eI x63), .sh (eI x67), .no], [.sh ((eT (eT eI)) table), .sh ((eT eI) x42), .sh (eI x63), .sh (eI x67), .no], rfl, (re_dOp2 (re_bindG (re_dOp2n (re_bindP (rv_rd rfl) (re_bindG (re_dOp2n (re_bindP (rv_rd rfl) (re_bindP (rv_var rfl) (re_bindP (rv_rd rfl) (re_lift op_atT))))) fun c68 => (re_bindP (rv_rd rfl) (re_lift op_atT))))) fun c69 => (re_bindP (rv_var rfl) (re_lift op_atT)))), rfl, rfl⟩)))) fun c73 => (re_bindG (re_frzN (re_bindG (re_dItems (re_tail (w := (List.map eI)) (re_dOp2n (re_bindP (rv_rd rfl) (re_bindP (rv_var rfl) (re_bindP (rv_rd rfl) (re_lift op_atT))))) fun c74 => (rv_lift (y := ((List.map eI) c74)) rfl))) fun c75 => (re_compM (e := eI) (f := fun (x76 : Int) => pAt x42 x76) ([.sh ((eT (eT eI)) table), .sh ((eT eI) x42), .sh (eI x63), .no, .no]) rfl rfl rfl (fun x76 => ⟨[.sh ((eT (eT eI)) table), .sh ((eT eI) x42), .sh (eI x63), .no, .sh (eI x76)], [.sh ((eT (eT eI)) table), .sh ((eT eI) x42), .sh (eI x63), .no, .sh (eI x76)], rfl, (re_dOp2n (re_bindP (rv_rd rfl) (re_bindP (rv_var rfl) (re_bindP (rv_rd rfl) (re_lift op_atT))))), rfl, rfl⟩)))) fun c77 => (re_rv (w := eB) (rv_lift (ne_py (pyL pyI) (x := c73) (y := c77)))))))) fun c78 => (rs_ite (fun _ => (rs_bindP rv_ret (rs_ret ⟨⟨_, rfl⟩, ⟨⟨_, rfl⟩, (.inl rfl)⟩⟩))) (fun _ => (rs_nx (rs_end ⟨rfl, (some (eI x63)), rfl⟩))))))⟩) (fun | a79, _, ⟨j80, rfl⟩ => (rs_end ⟨rfl, (some ((eT eI) x42)), j80, rfl⟩)))))⟩) (fun | a83, _, ⟨j84, j85, rfl⟩ => (rs_last (rs_bindP rv_ret (rs_ret (.inl rfl))))))))
def P_Semigroup___init__ (table : (List (List Int))) : M (Int × (List (List Int))) := M.bind (P_taken_table table) fun c1 => if (decide ((c1.length : Int) > 24)) = true then .exn "Refused" [("reason", eS ("large" : Str))] else M.bind (M.bind (P_is_associative c1) fun c2 => .ok (!c2)) fun c3 => if c3 = true then .exn "Refused" [("reason", eS ("associative" : Str))] else .ok ((c1.length : Int), c1)
theorem S_Semigroup___init__ (table : (List (List Int))) : DM (makeM "Semigroup" d_Semigroup___init__ [(eL (eT eI)) table]) (P_Semigroup___init__ table) (eC2 "Semigroup" "n" "table" eI (eT (eT eI))) := fn_I (nd := (fun (r : (Int × (List (List Int)))) => (["n", "table"], [eI r.1, (eT (eT eI)) r.2]))) rfl (show RS true (sSeq (sSet 2 (dCall d_taken_table (dCons (dVar 1) dNil))) (sSeq (sIf (dTst (dOp2 opGt (dOp1n opLen 2) (dC (.int 24)))) (sRaise1 "Refused" "reason" (dC (.str "large"))) sPass) (sSeq (sIf (dNot (dTst (dCall d_is_associative (dCons (dVar 2) dNil)))) (sRaise1 "Refused" "reason" (dC (.str "associative"))) sPass) (sSeq (sSelf 0 "Semigroup" "n" (dOp1n opLen 2)) (sSelf 0 "Semigroup" "table" (dVar 2)))))) [.oi 0 "Semigroup" [] [], .sh ((eL (eT eI)) table), .no] (P_Semigroup___init__ table) (Kini (fun (r : (Int × (List (List Int)))) => (["n", "table"], [eI r.1, (eT (eT eI)) r.2])) "Semigroup") from
  (rs_bindG (re_dCall (re_consP (rv_var rfl) (re_nil (re_liftM (S_taken_table table))))) fun c1 => (rs_put (st1 := [.oi 0 "Semigroup" [] [], .sh ((eL (eT eI)) table), .sh ((eT (eT eI)) c1)]) rfl (rs_bindP (rv_tst (rv_dOp2 (rv_bind (rv_dOp1n (rv_bind (rv_rd rfl) (rv_lift op_lenT))) (rv_bind rv_ret (rv_lift (y := (eB (decide ((c1.length : Int) > 24)))) rfl))))) (rs_ite (fun _ => (rs_bindP rv_ret rs_raise1)) (fun _ => (rs_nx (rs_bindG (re_dNot (re_bindG (re_tst (re_dCall (re_consP (rv_var rfl) (re_nil (re_liftM (S_is_associative c1)))))) fun c2 => (re_rv (w := (fun b : Bool => b)) rv_ret))) fun c3 => (rs_ite (fun _ => (rs_bindP rv_ret rs_raise1)) (fun _ => (rs_nx (rs_bindP (rv_dOp1n (rv_bind (rv_rd rfl) (rv_lift op_lenT))) (rs_exec (st1 := [.oi 0 "Semigroup" ["n"] [eI (c1.length : Int)], .sh ((eL (eT eI)) table), .sh ((eT (eT eI)) c1)]) (by first | rfl | decide | simp) (rs_last (rs_bindP (rv_var rfl) (rs_exec (st1 := [.oi 0 "Semigroup" ["n", "table"] [eI (c1.length : Int), (eT (eT eI)) c1], .sh ((eL (eT eI)) table), .sh ((eT (eT eI)) c1)]) (by first | rfl | decide | simp) (rs_end ⟨rfl, _, rfl⟩)))))))))))))))))
def P__law_arrangements (n : Int) : M (List (List Int)) := M.bind (pRng n) fun c1 => M.bind (pfold (fun (x62 : Int) (a63 : (List (List Int))) => M.bind (pfold (fun (x81 : (List Int)) (a82 : (List (List Int))) => M.bind (M.bind (M.bind (pRng n) fun c84 => pFil (fun (x85 : Int) => .ok (!has x85 x81)) (fun (x85 : Int) => pCat x81 [x85]) c84) fun c86 => pCat a82 c86) fun c87 => .ok c87) a63 []) fun (a88 : (List (List Int))) => .ok a88) c1 [[]]) fun (a92 : (List (List Int))) => .ok a92
theorem S__law_arrangements (n : Int) : DM (d__law_arrangements [eI n]) (P__law_arrangements n) (eL (eT eI)) := fn_F rfl (show RS true (sSeq (sOwn 1 (dLst (dCons (dTup dNil) dNil))) (sSeq (sFor (.nm 2) (dRng (dVar 0)) (sSeq (sOwn 3 (dLst dNil)) (sSeq (sFor (.nm 4) (dItems (dVar 1)) (sOwn 3 (dN2 nAdd (dVar 3) (dFrz (dComp [5] (.nm 5) (dRng (dVar 0)) (dTst (dOp2m opNotIn (dVar 5) 4)) (dOp2 opAdd (dVar 4) (dTup (dCons (dVar 5) dNil)))))))) (sOwn 1 (dN1n nList 3))))) (sRet (dVar 1)))) [.sh (eI n), .no, .no, .no, .no, .no] (P__law_arrangements n) (Kfn (eL (eT eI))) from
  (rs_bindP (rv_dLst (rv_cons (rv_dTup (rv_nil (rv_lift (y := ((eT eI) [])) (op_tup (by exact Nat.le_of_ble_eq_true rfl) rfl)))) (rv_nil (rv_lift (y := ((List.map (eT eI)) [[]])) (op_lst (by exact Nat.le_of_ble_eq_true rfl) rfl))))) (rs_put (st1 := [.sh (eI n), .ow (List.map (eT eI) [[]]), .no, .no, .no, .no]) rfl (rs_bindG (re_dRng (re_bindP (rv_var rfl) (re_lift op_rng))) fun c1 => (rs_for0 (e := eI) (xs := c1) (a := [[]]) (f := fun (x62 : Int) (a63 : (List (List Int))) => M.bind (pfold (fun (x81 : (List Int)) (a82 : (List (List Int))) => M.bind (M.bind (M.bind (pRng n) fun c84 => pFil (fun (x85 : Int) => .ok (!has x85 x81)) (fun (x85 : Int) => pCat x81 [x85]) c84) fun c86 => pCat a82 c86) fun c87 => .ok c87) a63 []) fun (a88 : (List (List Int))) => .ok a88) (fun (a96 : (List (List Int))) (st : DSt) => ∃ (j97 : (Option D)), ∃ (j98 : Slot), ∃ (j99 : (Option D)), st = [.sh (eI n), .ow (List.map (eT eI) a96), jk j97, j98, jk j99, .no]) ⟨none, (.no), none, rfl⟩ (fun | x62, a63, _, ⟨j64, j65, j66, rfl⟩ => ⟨[.sh (eI n), .ow (List.map (eT eI) a63), .sh (eI x62), j65, jk j66, .no], rfl, (rs_bindP (rv_dLst (rv_nil (rv_lift (y := ((List.map eI) [])) (op_lst (by exact Nat.le_of_ble_eq_true rfl) rfl)))) (rs_put (st1 := [.sh (eI n), .ow (List.map (eT eI) a63), .sh (eI x62), .ow (List.map eI []), jk j66, .no]) rfl (rs_bindP (rv_dItems (rv_bind (rv_frz rfl) (rv_lift (y := ((List.map (eT eI)) a63)) rfl))) (rs_for0 (e := (eT eI)) (xs := a63) (a := []) (f := fun (x81 : (List Int)) (a82 : (List (List Int))) => M.bind (M.bind (M.bind (pRng n) fun c84 => pFil (fun (x85 : Int) => .ok (!has x85 x81)) (fun (x85 : Int) => pCat x81 [x85]) c84) fun c86 => pCat a82 c86) fun c87 => .ok c87) (fun (a90 : (List (List Int))) (st : DSt) => ∃ (j91 : (Option D)), st = [.sh (eI n), .sh ((eL (eT eI)) a63), .sh (eI x62), .ow (List.map (eT eI) a90), jk j91, .no]) ⟨j66, rfl⟩ (fun | x81, a82, _, ⟨j83, rfl⟩ => ⟨[.sh (eI n), .sh ((eL (eT eI)) a63), .sh (eI x62), .ow (List.map (eT eI) a82), .sh ((eT eI) x81), .no], rfl, (rs_last (rs_bindG (re_dN2 (re_bindP (rv_frz rfl) (re_bindG (re_frzN (re_bindG (re_dRng (re_bindP (rv_var rfl) (re_lift op_rng))) fun c84 => (re_compF (e := eI) (p := fun (x85 : Int) => .ok (!has x85 x81)) (f := fun (x85 : Int) => pCat x81 [x85]) ([.sh (eI n), .sh ((eL (eT eI)) a63), .sh (eI x62), .sh ((eL (eT eI)) a82), .sh ((eT eI) x81), .no]) rfl rfl rfl (fun x85 => ⟨[.sh (eI n), .sh ((eL (eT eI)) a63), .sh (eI x62), .sh ((eL (eT eI)) a82), .sh ((eT eI) x81), .sh (eI x85)], [.sh (eI n), .sh ((eL (eT eI)) a63), .sh (eI x62), .sh ((eL (eT eI)) a82), .sh ((eT eI) x81), .sh (eI x85)], [.sh (eI n), .sh ((eL (eT eI)) a63), .sh (eI x62), .sh ((eL (eT eI)) a82), .sh ((eT eI) x81), .sh (eI x85)], rfl, (re_rv (w := (fun b : Bool => b)) (rv_tst (rv_dOp2m (rv_bind (rv_var rfl) (rv_bind (rv_rd rfl) (rv_lift (ninL_ (in_fl (x := x85) (xs := x81) fl_I).2))))))), (re_dOp2 (re_bindP (rv_var rfl) (re_bindP (rv_dTup (rv_cons (rv_var rfl) (rv_nil (rv_lift (y := ((eT eI) [x85])) (op_tup (by exact Nat.le_of_ble_eq_true rfl) rfl))))) (re_lift (op_catT (e := eI) (xs := x81) (ys := [x85])))))), rfl, rfl⟩)))) fun c86 => (re_lift (op_nCat (e := (eT eI)) (xs := a82) (ys := c86)))))) fun c87 => (rs_put (st1 := [.sh (eI n), .sh ((eL (eT eI)) a63), .sh (eI x62), .ow (List.map (eT eI) c87), .sh ((eT eI) x81), .no]) rfl (rs_end ⟨rfl, (some ((eT eI) x81)), rfl⟩))))⟩) (fun | a88, _, ⟨j89, rfl⟩ => (rs_last (rs_bindP (rv_dN1n (rv_bind (rv_rdO rfl) (rv_lift (y := ((List.map (eT eI)) a88)) rfl))) (rs_put (st1 := [.sh (eI n), .ow (List.map (eT eI) a88), .sh (eI x62), .ow (List.map (eT eI) a88), jk j89, .no]) rfl (rs_end ⟨rfl, (some (eI x62)), (.ow (List.map (eT eI) a88)), j89, rfl⟩)))))))))⟩) (fun | a92, _, ⟨j93, j94, j95, rfl⟩ => (rs_last (rs_bindP (rv_frz rfl) (rs_ret (.inl rfl))))))))))
def P__law_found (one : (List (List Int))) (two : (List (List Int))) : M (List (List Int)) := if (!decide ((two.length : Int) = (one.length : Int))) = true then .ok [] else M.bind (P__law_arrangements (one.length : Int)) fun c2 => M.bind (pfold (fun (x179 : (List Int)) (a180 : (List (List Int))) => M.bind (pRng (one.length : Int)) fun c185 => M.bind (pfold (fun (x223 : Int) (a224 : Bool) => M.bind (pRng (one.length : Int)) fun c227 => M.bind (pfold (fun (x242 : Int) (a243 : Bool) => M.bind (M.bind (M.bind (M.bind (pAt one x223) fun c245 => pAt c245 x242) fun c246 => pAt x179 c246) fun c250 => M.bind (M.bind (M.bind (pAt x179 x223) fun c251 => pAt two c251) fun c252 => M.bind (pAt x179 x242) fun c253 => pAt c252 c253) fun c254 => .ok (!decide (c250 = c254))) fun c255 => if c255 = true then .ok false else .ok a243) c227 a224) fun (a256 : Bool) => .ok a256) c185 true) fun (a260 : Bool) => if a260 = true then M.bind (pApp a180 x179) fun c263 => .ok c263 else .ok a180) c2 []) fun (a267 : (List (List Int))) => M.bind (pSortT a267) fun c272 => .ok c272
theorem S__law_found (one : (List (List Int))) (two : (List (List Int))) : DM (d__law_found [(eL (eT eI)) one, (eL (eT eI)) two]) (P__law_found one two) (eL (eT eI)) := fn_F rfl (show RS true (sSeq (sSet 2 (dOp1n opLen 0)) (sSeq (sOwn 3 (dLst dNil)) (sSeq (sIf (dTst (dOp2 opNe (dOp1n opLen 1) (dVar 2))) (sRet (dVar 3)) sPass) (sSeq (sFor (.nm 4) (dItems (dCall d__law_arrangements (dCons (dVar 2) dNil))) (sSeq (sSet 5 (dC (.bl true))) (sSeq (sFor (.nm 6) (dRng (dVar 2)) (sFor (.nm 7) (dRng (dVar 2)) (sIf (dTst (dOp2 opNe (dOp2n opIx 4 (dOp2 opIx (dOp2n opIx 0 (dVar 6)) (dVar 7))) (dOp2 opIx (dOp2n opIx 1 (dOp2n opIx 4 (dVar 6))) (dOp2n opIx 4 (dVar 7))))) (sSet 5 (dC (.bl false))) sPass))) (sIf (dTst (dVar 5)) (sExpr (dAppend 3 (dVar 4))) sPass)))) (sRet (dFrz (dN1n nSortedA 3))))))) [.sh ((eL (eT eI)) one), .sh ((eL (eT eI)) two), .no, .no, .no, .no, .no, .no] (P__law_found one two) (Kfn (eL (eT eI))) from
  (rs_bindP (rv_dOp1n (rv_bind (rv_rd rfl) (rv_lift op_lenL))) (rs_put (st1 := [.sh ((eL (eT eI)) one), .sh ((eL (eT eI)) two), .sh (eI (one.length : Int)), .no, .no, .no, .no, .no]) rfl (rs_bindP (rv_dLst (rv_nil (rv_lift (y := ((List.map eI) [])) (op_lst (by exact Nat.le_of_ble_eq_true rfl) rfl)))) (rs_put (st1 := [.sh ((eL (eT eI)) one), .sh ((eL (eT eI)) two), .sh (eI (one.length : Int)), .ow (List.map eI []), .no, .no, .no, .no]) rfl (rs_bindP (rv_tst (rv_dOp2 (rv_bind (rv_dOp1n (rv_bind (rv_rd rfl) (rv_lift op_lenL))) (rv_bind (rv_var rfl) (rv_lift (ne_py pyI (x := (two.length : Int)) (y := (one.length : Int)))))))) (rs_ite (fun _ => (rs_bindP (rv_eq (rv_frz rfl) rfl) (rs_ret (.inl rfl)))) (fun _ => (rs_nx (rs_bindG (re_dItems (re_tail (w := (List.map (eT eI))) (re_dCall (re_consP (rv_var rfl) (re_nil (re_liftM (S__law_arrangements (one.length : Int)))))) fun c1 => (rv_lift (y := ((List.map (eT eI)) c1)) rfl))) fun c2 => (rs_for0 (e := (eT eI)) (xs := c2) (a := []) (f := fun (x179 : (List Int)) (a180 : (List (List Int))) => M.bind (pRng (one.length : Int)) fun c185 => M.bind (pfold (fun (x223 : Int) (a224 : Bool) => M.bind (pRng (one.length : Int)) fun c227 => M.bind (pfold (fun (x242 : Int) (a243 : Bool) => M.bind (M.bind (M.bind (M.bind (pAt one x223) fun c245 => pAt c245 x242) fun c246 => pAt x179 c246) fun c250 => M.bind (M.bind (M.bind (pAt x179 x223) fun c251 => pAt two c251) fun c252 => M.bind (pAt x179 x242) fun c253 => pAt c252 c253) fun c254 => .ok (!decide (c250 = c254))) fun c255 => if c255 = true then .ok false else .ok a243) c227 a224) fun (a256 : Bool) => .ok a256) c185 true) fun (a260 : Bool) => if a260 = true then M.bind (pApp a180 x179) fun c263 => .ok c263 else .ok a180) (fun (a273 : (List (List Int))) (st : DSt) => ∃ (j274 : (Option D)), ∃ (j275 : (Option D)), ∃ (j276 : (Option D)), ∃ (j277 : (Option D)), st = [.sh ((eL (eT eI)) one), .sh ((eL (eT eI)) two), .sh (eI (one.length : Int)), .ow (List.map (eT eI) a273), jk j274, jk j275, jk j276, jk j277]) ⟨none, none, none, none, rfl⟩ (fun | x179, a180, _, ⟨j181, j182, j183, j184, rfl⟩ => ⟨[.sh ((eL (eT eI)) one), .sh ((eL (eT eI)) two), .sh (eI (one.length : Int)), .ow (List.map (eT eI) a180), .sh ((eT eI) x179), jk j182, jk j183, jk j184], rfl, (rs_bindP rv_ret (rs_put (st1 := [.sh ((eL (eT eI)) one), .sh ((eL (eT eI)) two), .sh (eI (one.length : Int)), .ow (List.map (eT eI) a180), .sh ((eT eI) x179), .sh (eB true), jk j183, jk j184]) rfl (rs_bindG (re_dRng (re_bindP (rv_var rfl) (re_lift op_rng))) fun c185 => (rs_for0 (e := eI) (xs := c185) (a := true) (f := fun (x223 : Int) (a224 : Bool) => M.bind (pRng (one.length : Int)) fun c227 => M.bind (pfold (fun (x242 : Int) (a243 : Bool) => M.bind (M.bind (M.bind (M.bind (pAt one x223) fun c245 => pAt c245 x242) fun c246 => pAt x179 c246) fun c250 => M.bind (M.bind (M.bind (pAt x179 x223) fun c251 => pAt two c251) fun c252 => M.bind (pAt x179 x242) fun c253 => pAt c252 c253) fun c254 => .ok (!decide (c250 = c254))) fun c255 => if c255 = true then .ok false else .ok a243) c227 a224) fun (a256 : Bool) => .ok a256) (fun (a264 : Bool) (st : DSt) => ∃ (j265 : (Option D)), ∃ (j266 : (Option D)), st = [.sh ((eL (eT eI)) one), .sh ((eL (eT eI)) two), .sh (eI (one.length : Int)), .ow (List.map (eT eI) a180), .sh ((eT eI) x179), .sh (eB a264), jk j265, jk j266]) ⟨j183, j184, rfl⟩ (fun | x223, a224, _, ⟨j225, j226, rfl⟩ => ⟨[.sh ((eL (eT eI)) one), .sh ((eL (eT eI)) two), .sh (eI (one.length : Int)), .ow (List.map (eT eI) a180), .sh ((eT eI) x179), .sh (eB a224), .sh (eI x223), jk j226], rfl, (rs_last (rs_bindG (re_dRng (re_bindP (rv_var rfl) (re_lift op_rng))) fun c227 => (rs_for0 (e := eI) (xs := c227) (a := a224) (f := fun (x242 : Int) (a243 : Bool) => M.bind (M.bind (M.bind (M.bind (pAt one x223) fun c245 => pAt c245 x242) fun c246 => pAt x179 c246) fun c250 => M.bind (M.bind (M.bind (pAt x179 x223) fun c251 => pAt two c251) fun c252 => M.bind (pAt x179 x242) fun c253 => pAt c252 c253) fun c254 => .ok (!decide (c250 = c254))) fun c255 => if c255 = true then .ok false else .ok a243) (fun (a258 : Bool) (st : DSt) => ∃ (j259 : (Option D)), st = [.sh ((eL (eT eI)) one), .sh ((eL (eT eI)) two), .sh (eI (one.length : Int)), .ow (List.map (eT eI) a180), .sh ((eT eI) x179), .sh (eB a258), .sh (eI x223), jk j259]) ⟨j226, rfl⟩ (fun | x242, a243, _, ⟨j244, rfl⟩ => ⟨[.sh ((eL (eT eI)) one), .sh ((eL (eT eI)) two), .sh (eI (one.length : Int)), .ow (List.map (eT eI) a180), .sh ((eT eI) x179), .sh (eB a243), .sh (eI x223), .sh (eI x242)], rfl, (rs_last (rs_bindG (re_tst (re_dOp2 (re_bindG (re_dOp2n (re_bindP (rv_rd rfl) (re_bindG (re_dOp2 (re_bindG (re_dOp2n (re_bindP (rv_rd rfl) (re_bindP (rv_var rfl) (re_bindP (rv_rd rfl) (re_lift op_atL))))) fun c245 => (re_bindP (rv_var rfl) (re_lift op_atT)))) fun c246 => (re_bindP (rv_rd rfl) (re_lift op_atT))))) fun c250 => (re_bindG (re_dOp2 (re_bindG (re_dOp2n (re_bindP (rv_rd rfl) (re_bindG (re_dOp2n (re_bindP (rv_rd rfl) (re_bindP (rv_var rfl) (re_bindP (rv_rd rfl) (re_lift op_atT))))) fun c251 => (re_bindP (rv_rd rfl) (re_lift op_atL))))) fun c252 => (re_bindG (re_dOp2n (re_bindP (rv_rd rfl) (re_bindP (rv_var rfl) (re_bindP (rv_rd rfl) (re_lift op_atT))))) fun c253 => (re_lift op_atT)))) fun c254 => (re_rv (w := eB) (rv_lift (ne_py pyI (x := c250) (y := c254)))))))) fun c255 => (rs_ite (fun _ => (rs_bindP rv_ret (rs_put (st1 := [.sh ((eL (eT eI)) one), .sh ((eL (eT eI)) two), .sh (eI (one.length : Int)), .ow (List.map (eT eI) a180), .sh ((eT eI) x179), .sh (eB false), .sh (eI x223), .sh (eI x242)]) rfl (rs_end ⟨rfl, (some (eI x242)), rfl⟩)))) (fun _ => (rs_nx (rs_end ⟨rfl, (some (eI x242)), rfl⟩))))))⟩) (fun | a256, _, ⟨j257, rfl⟩ => (rs_end ⟨rfl, (some (eI x223)), j257, rfl⟩)))))⟩) (fun | a260, _, ⟨j261, j262, rfl⟩ => (rs_last (rs_bindP (rv_tst (rv_var rfl)) (rs_ite (fun _ => (rs_x (x_appP (e := (eT eI)) (xs := a180) rfl (rv_var rfl) rfl) fun c263 => rs_st ([.sh ((eL (eT eI)) one), .sh ((eL (eT eI)) two), .sh (eI (one.length : Int)), .ow (List.map (eT eI) c263), .sh ((eT eI) x179), .sh (eB a260), jk j261, jk j262]) rfl (rs_end ⟨rfl, (some ((eT eI) x179)), (some (eB a260)), j261, j262, rfl⟩))) (fun _ => (rs_nx (rs_end ⟨rfl, (some ((eT eI) x179)), (some (eB a260)), j261, j262, rfl⟩)))))))))))⟩) (fun | a267, _, ⟨j268, j269, j270, j271, rfl⟩ => (rs_last (rs_bindG (re_frzN (re_dN1n (re_bindP (rv_rdO rfl) (re_lift op_sortT)))) fun c272 => (rs_ret (.inl rfl))))))))))))))))
def P_close (known : (List Int)) (s : (Int × (List (List Int)))) : M ((List (Int × Int × Int)) × (List Int)) := M.bind (pwhile (fun (a235 : ((List Int) × (List (Int × Int × Int)) × Int)) => .ok (decide (a235.2.2 < (a235.1.length : Int)))) (fun (a235 : ((List Int) × (List (Int × Int × Int)) × Int)) => M.bind (pfold (fun (x279 : Int) (a280 : ((List Int) × (List (Int × Int × Int)))) => M.bind (M.bind (M.bind (M.bind (pAt a280.1 a235.2.2) fun c285 => .ok (c285, x279)) fun c286 => M.bind (M.bind (pAt a280.1 a235.2.2) fun c287 => .ok (x279, c287)) fun c288 => .ok (c286, c288)) fun c289 => .ok [c289.1, c289.2]) fun c291 => M.bind (pfold (fun (x301 : (Int × Int)) (a302 : ((List Int) × (List (Int × Int × Int)))) => M.bind (M.bind (pAt s.2 x301.1) fun c306 => pAt c306 x301.2) fun c307 => if (!has c307 a302.1) = true then M.bind (pApp a302.1 c307) fun c308 => M.bind (pApp a302.2 (c307, x301.1, x301.2)) fun c309 => .ok (c308, c309) else .ok (a302.1, a302.2)) c291 (a280.1, a280.2)) fun (a310 : ((List Int) × (List (Int × Int × Int)))) => .ok (a310.1, a310.2)) (cutD a235.1 none (some (a235.2.2 + 1))) (a235.1, a235.2.1)) fun (a318 : ((List Int) × (List (Int × Int × Int)))) => .ok (a318.1, a318.2, (a235.2.2 + 1))) fuel (known, [], 0)) fun (a328 : ((List Int) × (List (Int × Int × Int)) × Int)) => .ok (a328.2.1, a328.1)
theorem S_close (known : (List Int)) (s : (Int × (List (List Int)))) : DR (d_close (List.map eI known) [(eC2 "Semigroup" "n" "table" eI (eT (eT eI))) s]) (P_close known s) (eL (eP3 eI eI eI)) eI := fn_R1 rfl (show RS false (sSeq (sOwn 2 (dLst dNil)) (sSeq (sSet 3 (dC (.int 0))) (sSeq (sWhile (dTst (dOp2 opLt (dVar 3) (dOp1n opLen 1))) (sSeq (sFor (.nm 4) (dItems (dFrz (dN1 nList (dSln 1 dNoP (dPart (dOp2 opAdd (dVar 3) (dC (.int 1)))))))) (sFor (.nms [5, 6]) (dItems (dTup (dCons (dTup (dCons (dOp2n opIx 1 (dVar 3)) (dCons (dVar 4) dNil))) (dCons (dTup (dCons (dVar 4) (dCons (dOp2n opIx 1 (dVar 3)) dNil))) dNil)))) (sSeq (sSet 7 (dOp2 opIx (dOp2 opIx (dOp1 (opFld "Semigroup" "table") (dVar 0)) (dVar 5)) (dVar 6))) (sIf (dTst (dOp2m opNotIn (dVar 7) 1)) (sSeq (sExpr (dAppend 1 (dVar 7))) (sExpr (dAppend 2 (dTup (dCons (dVar 7) (dCons (dVar 5) (dCons (dVar 6) dNil))))))) sPass)))) (sSet 3 (dOp2 opAddI (dInt 3) (dC (.int 1))))) fuel) (sRet (dVar 2))))) [.sh ((eC2 "Semigroup" "n" "table" eI (eT (eT eI))) s), .rf 0 (List.map eI known), .no, .no, .no, .no, .no, .no] (P_close known s) (Kby1 (eL (eP3 eI eI eI)) eI) from
  (rs_bindP (rv_dLst (rv_nil (rv_lift (y := ((List.map eI) [])) (op_lst (by exact Nat.le_of_ble_eq_true rfl) rfl)))) (rs_put (st1 := [.sh ((eC2 "Semigroup" "n" "table" eI (eT (eT eI))) s), .rf 0 (List.map eI known), .ow (List.map eI []), .no, .no, .no, .no, .no]) rfl (rs_bindP rv_ret (rs_put (st1 := [.sh ((eC2 "Semigroup" "n" "table" eI (eT (eT eI))) s), .rf 0 (List.map eI known), .ow (List.map eI []), .sh (eI 0), .no, .no, .no, .no]) rfl (rs_while0 (a := (known, [], 0)) (fun (a333 : ((List Int) × (List (Int × Int × Int)) × Int)) (st : DSt) => ∃ (j334 : (Option D)), ∃ (j335 : (Option D)), ∃ (j336 : (Option D)), ∃ (j337 : (Option D)), st = [.sh ((eC2 "Semigroup" "n" "table" eI (eT (eT eI))) s), .rf 0 (List.map eI a333.1), .ow (List.map (eP3 eI eI eI) a333.2.1), .sh (eI a333.2.2), jk j334, jk j335, jk j336, jk j337]) ⟨none, none, none, none, rfl⟩ (fun | a235, _, ⟨j236, j237, j238, j239, rfl⟩ => (re_rv (w := (fun b : Bool => b)) (rv_tst (rv_dOp2 (rv_bind (rv_var rfl) (rv_bind (rv_dOp1n (rv_bind (rv_rdR rfl) (rv_lift op_lenL))) (rv_lift (y := (eB (decide (a235.2.2 < (a235.1.length : Int))))) rfl))))))) (fun | a235, _, ⟨j236, j237, j238, j239, rfl⟩ => (rs_bindP (rv_dItems (rv_bind (rv_frzN (d := ((eL eI) (cutD a235.1 none (some (a235.2.2 + 1))))) (rv_dN1 (rv_bind (rv_dSln (rv_bind (rv_rdR rfl) (rv_bind rv_ret (rv_bind (rv_dPart (rv_bind (rv_dOp2 (rv_bind (rv_var rfl) (rv_bind rv_ret (rv_lift (y := (eI (a235.2.2 + 1))) rfl)))) (rv_lift (y := (some (a235.2.2 + 1))) rfl))) (rv_bind (rv_rdR rfl) (rv_lift (op_slL (e := eI) (xs := a235.1)))))))) (rv_lift (y := ((List.map eI) (cutD a235.1 none (some (a235.2.2 + 1))))) rfl))) rfl) (rv_lift (y := ((List.map eI) (cutD a235.1 none (some (a235.2.2 + 1))))) rfl))) (rs_for0 (e := eI) (xs := (cutD a235.1 none (some (a235.2.2 + 1)))) (a := (a235.1, a235.2.1)) (f := fun (x279 : Int) (a280 : ((List Int) × (List (Int × Int × Int)))) => M.bind (M.bind (M.bind (M.bind (pAt a280.1 a235.2.2) fun c285 => .ok (c285, x279)) fun c286 => M.bind (M.bind (pAt a280.1 a235.2.2) fun c287 => .ok (x279, c287)) fun c288 => .ok (c286, c288)) fun c289 => .ok [c289.1, c289.2]) fun c291 => M.bind (pfold (fun (x301 : (Int × Int)) (a302 : ((List Int) × (List (Int × Int × Int)))) => M.bind (M.bind (pAt s.2 x301.1) fun c306 => pAt c306 x301.2) fun c307 => if (!has c307 a302.1) = true then M.bind (pApp a302.1 c307) fun c308 => M.bind (pApp a302.2 (c307, x301.1, x301.2)) fun c309 => .ok (c308, c309) else .ok (a302.1, a302.2)) c291 (a280.1, a280.2)) fun (a310 : ((List Int) × (List (Int × Int × Int)))) => .ok (a310.1, a310.2)) (fun (a323 : ((List Int) × (List (Int × Int × Int)))) (st : DSt) => ∃ (j324 : (Option D)), ∃ (j325 : (Option D)), ∃ (j326 : (Option D)), ∃ (j327 : (Option D)), st = [.sh ((eC2 "Semigroup" "n" "table" eI (eT (eT eI))) s), .rf 0 (List.map eI a323.1), .ow (List.map (eP3 eI eI eI) a323.2), .sh (eI a235.2.2), jk j324, jk j325, jk j326, jk j327]) ⟨j236, j237, j238, j239, rfl⟩ (fun | x279, a280, _, ⟨j281, j282, j283, j284, rfl⟩ => ⟨[.sh ((eC2 "Semigroup" "n" "table" eI (eT (eT eI))) s), .rf 0 (List.map eI a280.1), .ow (List.map (eP3 eI eI eI) a280.2), .sh (eI a235.2.2), .sh (eI x279), jk j282, jk j283, jk j284], rfl, (rs_last (rs_bindG (re_dItems (re_tail (w := (List.map (eP2 eI eI))) (re_map (w := (eT (eP2 eI eI))) (re_dTup (re_consG (re_dTup (re_consG (re_dOp2n (re_bindP (rv_rdR rfl) (re_bindP (rv_var rfl) (re_bindP (rv_rdR rfl) (re_lift op_atL))))) fun c285 => (re_consP (rv_var rfl) (re_nil (re_rv (w := (eP2 eI eI)) (rv_lift (y := ((eP2 eI eI) (c285, x279))) (op_tup (by exact Nat.le_of_ble_eq_true rfl) rfl))))))) fun c286 => (re_consG (re_dTup (re_consP (rv_var rfl) (re_consG (re_dOp2n (re_bindP (rv_rdR rfl) (re_bindP (rv_var rfl) (re_bindP (rv_rdR rfl) (re_lift op_atL))))) fun c287 => (re_nil (re_rv (w := (eP2 eI eI)) (rv_lift (y := ((eP2 eI eI) (x279, c287))) (op_tup (by exact Nat.le_of_ble_eq_true rfl) rfl))))))) fun c288 => (re_nil (re_rv (w := (eP2 (eP2 eI eI) (eP2 eI eI))) (rv_lift (y := ((eP2 (eP2 eI eI) (eP2 eI eI)) (c286, c288))) (op_tup (by exact Nat.le_of_ble_eq_true rfl) rfl))))))) (fun _ => rfl)) fun c290 => (rv_lift (y := ((List.map (eP2 eI eI)) c290)) rfl))) fun c291 => (rs_for0 (e := (eP2 eI eI)) (xs := c291) (a := (a280.1, a280.2)) (f := fun (x301 : (Int × Int)) (a302 : ((List Int) × (List (Int × Int × Int)))) => M.bind (M.bind (pAt s.2 x301.1) fun c306 => pAt c306 x301.2) fun c307 => if (!has c307 a302.1) = true then M.bind (pApp a302.1 c307) fun c308 => M.bind (pApp a302.2 (c307, x301.1, x301.2)) fun c309 => .ok (c308, c309) else .ok (a302.1, a302.2)) (fun (a314 : ((List Int) × (List (Int × Int × Int)))) (st : DSt) => ∃ (j315 : (Option D)), ∃ (j316 : (Option D)), ∃ (j317 : (Option D)), st = [.sh ((eC2 "Semigroup" "n" "table" eI (eT (eT eI))) s), .rf 0 (List.map eI a314.1), .ow (List.map (eP3 eI eI eI) a314.2), .sh (eI a235.2.2), .sh (eI x279), jk j315, jk j316, jk j317]) ⟨j282, j283, j284, rfl⟩ (fun | x301, a302, _, ⟨j303, j304, j305, rfl⟩ => ⟨[.sh ((eC2 "Semigroup" "n" "table" eI (eT (eT eI))) s), .rf 0 (List.map eI a302.1), .ow (List.map (eP3 eI eI eI) a302.2), .sh (eI a235.2.2), .sh (eI x279), .sh (eI x301.1), .sh (eI x301.2), jk j305], rfl, (rs_bindG (re_dOp2 (re_bindG (re_dOp2 (re_bindP (rv_dOp1 (rv_bind (rv_var rfl) (rv_lift (by rfl)))) (re_bindP (rv_var rfl) (re_lift op_atT)))) fun c306 => (re_bindP (rv_var rfl) (re_lift op_atT)))) fun c307 => (rs_put (st1 := [.sh ((eC2 "Semigroup" "n" "table" eI (eT (eT eI))) s), .rf 0 (List.map eI a302.1), .ow (List.map (eP3 eI eI eI) a302.2), .sh (eI a235.2.2), .sh (eI x279), .sh (eI x301.1), .sh (eI x301.2), .sh (eI c307)]) rfl (rs_last (rs_bindP (rv_tst (rv_dOp2m (rv_bind (rv_var rfl) (rv_bind (rv_rdR rfl) (rv_lift (ninL_ (in_fl (x := c307) (xs := a302.1) fl_I).1)))))) (rs_ite (fun _ => (rs_seq (rs_x (x_appPr (e := eI) (xs := a302.1) rfl (rv_var rfl) rfl) fun c308 => rs_st ([.sh ((eC2 "Semigroup" "n" "table" eI (eT (eT eI))) s), .rf 0 (List.map eI c308), .ow (List.map (eP3 eI eI eI) a302.2), .sh (eI a235.2.2), .sh (eI x279), .sh (eI x301.1), .sh (eI x301.2), .sh (eI c307)]) rfl (rs_x (x_appP (e := (eP3 eI eI eI)) (xs := a302.2) rfl (rv_dTup (rv_cons (rv_var rfl) (rv_cons (rv_var rfl) (rv_cons (rv_var rfl) (rv_nil (rv_lift (y := ((eP3 eI eI eI) (c307, x301.1, x301.2))) (op_tup (by exact Nat.le_of_ble_eq_true rfl) rfl))))))) rfl) fun c309 => rs_st ([.sh ((eC2 "Semigroup" "n" "table" eI (eT (eT eI))) s), .rf 0 (List.map eI c308), .ow (List.map (eP3 eI eI eI) c309), .sh (eI a235.2.2), .sh (eI x279), .sh (eI x301.1), .sh (eI x301.2), .sh (eI c307)]) rfl (rs_end ⟨rfl, (some (eI x301.1)), (some (eI x301.2)), (some (eI c307)), rfl⟩))))) (fun _ => (rs_nx (rs_end ⟨rfl, (some (eI x301.1)), (some (eI x301.2)), (some (eI c307)), rfl⟩))))))))⟩) (fun | a310, _, ⟨j311, j312, j313, rfl⟩ => (rs_end ⟨rfl, (some (eI x279)), j311, j312, j313, rfl⟩)))))⟩) (fun | a318, _, ⟨j319, j320, j321, j322, rfl⟩ => (rs_last (rs_bindP (rv_dOp2 (rv_bind (rv_int rfl) (rv_bind rv_ret (rv_lift (y := (eI (a235.2.2 + 1))) rfl)))) (rs_put (st1 := [.sh ((eC2 "Semigroup" "n" "table" eI (eT (eT eI))) s), .rf 0 (List.map eI a318.1), .ow (List.map (eP3 eI eI eI) a318.2), .sh (eI (a235.2.2 + 1)), jk j319, jk j320, jk j321, jk j322]) rfl (rs_end ⟨rfl, j319, j320, j321, j322, rfl⟩)))))))) (fun | a328, _, ⟨j329, j330, j331, j332, rfl⟩ => (rs_last (rs_bindP (rv_frz rfl) (rs_ret ⟨.inl rfl, _, _, rfl⟩))))))))))
def P_closing (s : (Int × (List (List Int)))) : M (List (Int × (List Int) × (List (Int × Int × Int)))) := M.bind (pRng s.1) fun c1 => M.bind (pfold (fun (x20 : Int) (a21 : ((List Int) × (List (Int × (List Int) × (List (Int × Int × Int)))))) => if (!has x20 a21.1) = true then M.bind (pApp a21.1 x20) fun c24 => M.bind (P_close c24 s) fun c26 => M.bind (pApp a21.2 (x20, c26.2, c26.1)) fun c28 => .ok (c26.2, c28) else .ok (a21.1, a21.2)) c1 ([], [])) fun (a29 : ((List Int) × (List (Int × (List Int) × (List (Int × Int × Int)))))) => .ok a29.2
theorem S_closing (s : (Int × (List (List Int)))) : D0 (d_closing [(eC2 "Semigroup" "n" "table" eI (eT (eT eI))) s]) (P_closing s) (eL (eP3 eI (eT eI) (eT (eP3 eI eI eI)))) := fn_F0 rfl (show RS false (sSeq (sOwn 1 (dLst dNil)) (sSeq (sOwn 2 (dLst dNil)) (sSeq (sFor (.nm 3) (dRng (dOp1 (opFld "Semigroup" "n") (dVar 0))) (sIf (dTst (dOp2m opNotIn (dVar 3) 1)) (sSeq (sExpr (dAppend 1 (dVar 3))) (sSeq (sSet 4 (dCallR d_close 1 (dCons (dVar 0) dNil))) (sExpr (dAppend 2 (dTup (dCons (dVar 3) (dCons (dOp1n opTuple 1) (dCons (dOp1n opTuple 4) dNil)))))))) sPass)) (sRet (dVar 2))))) [.sh ((eC2 "Semigroup" "n" "table" eI (eT (eT eI))) s), .no, .no, .no, .no] (P_closing s) (Kfn (eL (eP3 eI (eT eI) (eT (eP3 eI eI eI))))) from
  (rs_bindP (rv_dLst (rv_nil (rv_lift (y := ((List.map eI) [])) (op_lst (by exact Nat.le_of_ble_eq_true rfl) rfl)))) (rs_put (st1 := [.sh ((eC2 "Semigroup" "n" "table" eI (eT (eT eI))) s), .ow (List.map eI []), .no, .no, .no]) rfl (rs_bindP (rv_dLst (rv_nil (rv_lift (y := ((List.map eI) [])) (op_lst (by exact Nat.le_of_ble_eq_true rfl) rfl)))) (rs_put (st1 := [.sh ((eC2 "Semigroup" "n" "table" eI (eT (eT eI))) s), .ow (List.map eI []), .ow (List.map eI []), .no, .no]) rfl (rs_bindG (re_dRng (re_bindP (rv_dOp1 (rv_bind (rv_var rfl) (rv_lift (by rfl)))) (re_lift op_rng))) fun c1 => (rs_for0 (e := eI) (xs := c1) (a := ([], [])) (f := fun (x20 : Int) (a21 : ((List Int) × (List (Int × (List Int) × (List (Int × Int × Int)))))) => if (!has x20 a21.1) = true then M.bind (pApp a21.1 x20) fun c24 => M.bind (P_close c24 s) fun c26 => M.bind (pApp a21.2 (x20, c26.2, c26.1)) fun c28 => .ok (c26.2, c28) else .ok (a21.1, a21.2)) (fun (a32 : ((List Int) × (List (Int × (List Int) × (List (Int × Int × Int)))))) (st : DSt) => ∃ (j33 : (Option D)), ∃ (j34 : (Option D)), st = [.sh ((eC2 "Semigroup" "n" "table" eI (eT (eT eI))) s), .ow (List.map eI a32.1), .ow (List.map (eP3 eI (eT eI) (eT (eP3 eI eI eI))) a32.2), jk j33, jk j34]) ⟨none, none, rfl⟩ (fun | x20, a21, _, ⟨j22, j23, rfl⟩ => ⟨[.sh ((eC2 "Semigroup" "n" "table" eI (eT (eT eI))) s), .ow (List.map eI a21.1), .ow (List.map (eP3 eI (eT eI) (eT (eP3 eI eI eI))) a21.2), .sh (eI x20), jk j23], rfl, (rs_last (rs_bindP (rv_tst (rv_dOp2m (rv_bind (rv_var rfl) (rv_bind (rv_rdO rfl) (rv_lift (ninL_ (in_fl (x := x20) (xs := a21.1) fl_I).1)))))) (rs_ite (fun _ => (rs_seq (rs_x (x_appP (e := eI) (xs := a21.1) rfl (rv_var rfl) rfl) fun c24 => rs_st ([.sh ((eC2 "Semigroup" "n" "table" eI (eT (eT eI))) s), .ow (List.map eI c24), .ow (List.map (eP3 eI (eT eI) (eT (eP3 eI eI eI))) a21.2), .sh (eI x20), jk j23]) rfl (rs_seq (rs_bindS (fun (r27 : List Int) => [.sh ((eC2 "Semigroup" "n" "table" eI (eT (eT eI))) s), .ow (List.map eI r27), .ow (List.map (eP3 eI (eT eI) (eT (eP3 eI eI eI))) a21.2), .sh (eI x20), jk j23]) (rt_dCallR (rt_bindP (rv_ow rfl) (rt_consP (rv_var rfl) (rt_nil (rt_callO (S := fun r25 => [.sh ((eC2 "Semigroup" "n" "table" eI (eT (eT eI))) s), .ow (List.map eI r25), .ow (List.map (eP3 eI (eT eI) (eT (eP3 eI eI eI))) a21.2), .sh (eI x20), jk j23]) rfl (fun _ => rfl) (S_close c24 s)))))) fun c26 => (rs_put (st1 := [.sh ((eC2 "Semigroup" "n" "table" eI (eT (eT eI))) s), .ow (List.map eI c26.2), .ow (List.map (eP3 eI (eT eI) (eT (eP3 eI eI eI))) a21.2), .sh (eI x20), .sh ((eL (eP3 eI eI eI)) c26.1)]) rfl (rs_x (x_appP (e := (eP3 eI (eT eI) (eT (eP3 eI eI eI)))) (xs := a21.2) rfl (rv_dTup (rv_cons (rv_var rfl) (rv_cons (rv_dOp1n (rv_bind (rv_rdO rfl) (rv_lift (y := ((eT eI) c26.2)) rfl))) (rv_cons (rv_dOp1n (rv_bind (rv_rd rfl) (rv_lift (y := ((eT (eP3 eI eI eI)) c26.1)) rfl))) (rv_nil (rv_lift (y := ((eP3 eI (eT eI) (eT (eP3 eI eI eI))) (x20, c26.2, c26.1))) (op_tup (by exact Nat.le_of_ble_eq_true rfl) rfl))))))) rfl) fun c28 => rs_st ([.sh ((eC2 "Semigroup" "n" "table" eI (eT (eT eI))) s), .ow (List.map eI c26.2), .ow (List.map (eP3 eI (eT eI) (eT (eP3 eI eI eI))) c28), .sh (eI x20), .sh ((eL (eP3 eI eI eI)) c26.1)]) rfl (rs_end ⟨rfl, (some (eI x20)), (some ((eL (eP3 eI eI eI)) c26.1)), rfl⟩)))))))) (fun _ => (rs_nx (rs_end ⟨rfl, (some (eI x20)), j23, rfl⟩))))))⟩) (fun | a29, _, ⟨j30, j31, rfl⟩ => (rs_last (rs_bindP (rv_frz rfl) (rs_ret (.inl rfl))))))))))))
def P_extended (a : (Int × (List (List Int)))) (b : (Int × (List (List Int)))) (images : (List Int)) (step : (Int × (List Int) × (List (Int × Int × Int)))) (y : Int) (unlike : Bool) : M (Option (List Int)) := M.bind (pSet images step.1 y) fun c1 => M.bind (pfold (fun (x12 : (Int × Int × Int)) (a13 : (List Int)) => M.bind (M.bind (M.bind (pAt a13 x12.2.1) fun c17 => pAt b.2 c17) fun c18 => M.bind (pAt a13 x12.2.2) fun c19 => pAt c18 c19) fun c20 => M.bind (pSet a13 x12.1 c20) fun c21 => .ok c21) step.2.2 c1) fun (a22 : (List Int)) => M.bind (pfor (fun (x62 : Int) (a63 : Unit) => M.bind (pfor (fun (x80 : Int) (a81 : Unit) => M.bind (M.bind (M.bind (M.bind (pAt a.2 x62) fun c83 => pAt c83 x80) fun c84 => pAt a22 c84) fun c88 => M.bind (M.bind (M.bind (pAt a22 x62) fun c89 => pAt b.2 c89) fun c90 => M.bind (pAt a22 x80) fun c91 => pAt c90 c91) fun c92 => .ok (!decide (c88 = c92))) fun c93 => if c93 = true then .ok (.ret none) else .ok (.nx ())) step.2.1 ()) fun r => pK r (fun (a94 : Unit) => .ok (.nx ())) F.ret) step.2.1 ()) fun r => pK r (fun (a98 : Unit) => M.bind (if unlike = true then M.bind (M.bind (pMap (fun (x101 : Int) => pAt a22 x101) step.2.1) fun c102 => pLenSet c102) fun c103 => .ok (!decide (c103 = (step.2.1.length : Int))) else .ok false) fun c104 => if c104 = true then .ok none else .ok (some a22)) (fun q => q)
theorem S_extended (a : (Int × (List (List Int)))) (b : (Int × (List (List Int)))) (images : (List Int)) (step : (Int × (List Int) × (List (Int × Int × Int)))) (y : Int) (unlike : Bool) : DM (d_extended [(eC2 "Semigroup" "n" "table" eI (eT (eT eI))) a, (eC2 "Semigroup" "n" "table" eI (eT (eT eI))) b, (eL eI) images, (eP3 eI (eT eI) (eT (eP3 eI eI eI))) step, eI y, eB unlike]) (P_extended a b images step y unlike) (eO (eL eI)) := fn_F rfl (show RS true (sSeq (sAsg (.nms [6, 7, 8]) (dVar 3)) (sSeq (sOwn 9 (dN1n nList 2)) (sSeq (sStore 9 (dVar 6) (dVar 4)) (sSeq (sFor (.nms [10, 11, 12]) (dItems (dVar 8)) (sStore 9 (dVar 10) (dOp2 opIx (dOp2 opIx (dOp1 (opFld "Semigroup" "table") (dVar 1)) (dOp2n opIx 9 (dVar 11))) (dOp2n opIx 9 (dVar 12))))) (sSeq (sFor (.nm 11) (dItems (dVar 7)) (sFor (.nm 12) (dItems (dVar 7)) (sIf (dTst (dOp2 opNe (dOp2n opIx 9 (dOp2 opIx (dOp2 opIx (dOp1 (opFld "Semigroup" "table") (dVar 0)) (dVar 11)) (dVar 12))) (dOp2 opIx (dOp2 opIx (dOp1 (opFld "Semigroup" "table") (dVar 1)) (dOp2n opIx 9 (dVar 11))) (dOp2n opIx 9 (dVar 12))))) (sRet (dC .non)) sPass))) (sSeq (sIf (dAnd (dTst (dVar 5)) (dTst (dOp2 opNe (dOp1 opLenSet (dFrz (dComp [13] (.nm 13) (dItems (dVar 7)) dYes (dOp2n opIx 9 (dVar 13))))) (dOp1n opLen 7)))) (sRet (dC .non)) sPass) (sRet (dVar 9)))))))) [.sh ((eC2 "Semigroup" "n" "table" eI (eT (eT eI))) a), .sh ((eC2 "Semigroup" "n" "table" eI (eT (eT eI))) b), .sh ((eL eI) images), .sh ((eP3 eI (eT eI) (eT (eP3 eI eI eI))) step), .sh (eI y), .sh (eB unlike), .no, .no, .no, .no, .no, .no, .no, .no] (P_extended a b images step y unlike) (Kfn (eO (eL eI))) from
  (rs_bindP (rv_var rfl) (rs_exec (st1 := [.sh ((eC2 "Semigroup" "n" "table" eI (eT (eT eI))) a), .sh ((eC2 "Semigroup" "n" "table" eI (eT (eT eI))) b), .sh ((eL eI) images), .sh ((eP3 eI (eT eI) (eT (eP3 eI eI eI))) step), .sh (eI y), .sh (eB unlike), .sh (eI step.1), .sh ((eT eI) step.2.1), .sh ((eT (eP3 eI eI eI)) step.2.2), .no, .no, .no, .no, .no]) rfl (rs_bindP (rv_dN1n (rv_bind (rv_rd rfl) (rv_lift (y := ((List.map eI) images)) rfl))) (rs_put (st1 := [.sh ((eC2 "Semigroup" "n" "table" eI (eT (eT eI))) a), .sh ((eC2 "Semigroup" "n" "table" eI (eT (eT eI))) b), .sh ((eL eI) images), .sh ((eP3 eI (eT eI) (eT (eP3 eI eI eI))) step), .sh (eI y), .sh (eB unlike), .sh (eI step.1), .sh ((eT eI) step.2.1), .sh ((eT (eP3 eI eI eI)) step.2.2), .ow (List.map eI images), .no, .no, .no, .no]) rfl (rs_bindP (rv_var rfl) (rs_bindP (rv_rdO rfl) (rs_bindP (rv_var rfl) (rs_x (x_setK (e := eI) (xs := images) (k := step.1) (v := y) rfl) fun c1 => rs_st ([.sh ((eC2 "Semigroup" "n" "table" eI (eT (eT eI))) a), .sh ((eC2 "Semigroup" "n" "table" eI (eT (eT eI))) b), .sh ((eL eI) images), .sh ((eP3 eI (eT eI) (eT (eP3 eI eI eI))) step), .sh (eI y), .sh (eB unlike), .sh (eI step.1), .sh ((eT eI) step.2.1), .sh ((eT (eP3 eI eI eI)) step.2.2), .ow (List.map eI c1), .no, .no, .no, .no]) rfl (rs_bindP (rv_dItems (rv_bind (rv_var rfl) (rv_lift (y := ((List.map (eP3 eI eI eI)) step.2.2)) rfl))) (rs_for0 (e := (eP3 eI eI eI)) (xs := step.2.2) (a := c1) (f := fun (x12 : (Int × Int × Int)) (a13 : (List Int)) => M.bind (M.bind (M.bind (pAt a13 x12.2.1) fun c17 => pAt b.2 c17) fun c18 => M.bind (pAt a13 x12.2.2) fun c19 => pAt c18 c19) fun c20 => M.bind (pSet a13 x12.1 c20) fun c21 => .ok c21) (fun (a108 : (List Int)) (st : DSt) => ∃ (j109 : (Option D)), ∃ (j110 : (Option D)), ∃ (j111 : (Option D)), st = [.sh ((eC2 "Semigroup" "n" "table" eI (eT (eT eI))) a), .sh ((eC2 "Semigroup" "n" "table" eI (eT (eT eI))) b), .sh ((eL eI) images), .sh ((eP3 eI (eT eI) (eT (eP3 eI eI eI))) step), .sh (eI y), .sh (eB unlike), .sh (eI step.1), .sh ((eT eI) step.2.1), .sh ((eT (eP3 eI eI eI)) step.2.2), .ow (List.map eI a108), jk j109, jk j110, jk j111, .no]) ⟨none, none, none, rfl⟩ (fun | x12, a13, _, ⟨j14, j15, j16, rfl⟩ => ⟨[.sh ((eC2 "Semigroup" "n" "table" eI (eT (eT eI))) a), .sh ((eC2 "Semigroup" "n" "table" eI (eT (eT eI))) b), .sh ((eL eI) images), .sh ((eP3 eI (eT eI) (eT (eP3 eI eI eI))) step), .sh (eI y), .sh (eB unlike), .sh (eI step.1), .sh ((eT eI) step.2.1), .sh ((eT (eP3 eI eI eI)) step.2.2), .ow (List.map eI a13), .sh (eI x12.1), .sh (eI x12.2.1), .sh (eI x12.2.2), .no], rfl, (rs_last (rs_bindG (re_dOp2 (re_bindG (re_dOp2 (re_bindP (rv_dOp1 (rv_bind (rv_var rfl) (rv_lift (by rfl)))) (re_bindG (re_dOp2n (re_bindP (rv_rdO rfl) (re_bindP (rv_var rfl) (re_bindP (rv_rdO rfl) (re_lift op_atL))))) fun c17 => (re_lift op_atT)))) fun c18 => (re_bindG (re_dOp2n (re_bindP (rv_rdO rfl) (re_bindP (rv_var rfl) (re_bindP (rv_rdO rfl) (re_lift op_atL))))) fun c19 => (re_lift op_atT)))) fun c20 => (rs_bindP (rv_rdO rfl) (rs_bindP (rv_var rfl) (rs_x (x_setK (e := eI) (xs := a13) (k := x12.1) (v := c20) rfl) fun c21 => rs_st ([.sh ((eC2 "Semigroup" "n" "table" eI (eT (eT eI))) a), .sh ((eC2 "Semigroup" "n" "table" eI (eT (eT eI))) b), .sh ((eL eI) images), .sh ((eP3 eI (eT eI) (eT (eP3 eI eI eI))) step), .sh (eI y), .sh (eB unlike), .sh (eI step.1), .sh ((eT eI) step.2.1), .sh ((eT (eP3 eI eI eI)) step.2.2), .ow (List.map eI c21), .sh (eI x12.1), .sh (eI x12.2.1), .sh (eI x12.2.2), .no]) rfl (rs_end ⟨rfl, (some (eI x12.1)), (some (eI x12.2.1)), (some (eI x12.2.2)), rfl⟩))))))⟩) (fun | a22, _, ⟨j23, j24, j25, rfl⟩ => (rs_bindP (rv_dItems (rv_bind (rv_var rfl) (rv_lift (y := ((List.map eI) step.2.1)) rfl))) (rs_for1 (e := eI) (xs := step.2.1) (a := ()) (f := fun (x62 : Int) (a63 : Unit) => M.bind (pfor (fun (x80 : Int) (a81 : Unit) => M.bind (M.bind (M.bind (M.bind (pAt a.2 x62) fun c83 => pAt c83 x80) fun c84 => pAt a22 c84) fun c88 => M.bind (M.bind (M.bind (pAt a22 x62) fun c89 => pAt b.2 c89) fun c90 => M.bind (pAt a22 x80) fun c91 => pAt c90 c91) fun c92 => .ok (!decide (c88 = c92))) fun c93 => if c93 = true then .ok (.ret none) else .ok (.nx ())) step.2.1 ()) fun r => pK r (fun (a94 : Unit) => .ok (.nx ())) F.ret) (h := (fun q => q)) (fun (a105 : Unit) (st : DSt) => ∃ (j106 : (Option D)), ∃ (j107 : (Option D)), st = [.sh ((eC2 "Semigroup" "n" "table" eI (eT (eT eI))) a), .sh ((eC2 "Semigroup" "n" "table" eI (eT (eT eI))) b), .sh ((eL eI) images), .sh ((eP3 eI (eT eI) (eT (eP3 eI eI eI))) step), .sh (eI y), .sh (eB unlike), .sh (eI step.1), .sh ((eT eI) step.2.1), .sh ((eT (eP3 eI eI eI)) step.2.2), .ow (List.map eI a22), jk j23, jk j106, jk j107, .no]) ⟨j24, j25, rfl⟩ (fun | x62, a63, _, ⟨j64, j65, rfl⟩ => ⟨[.sh ((eC2 "Semigroup" "n" "table" eI (eT (eT eI))) a), .sh ((eC2 "Semigroup" "n" "table" eI (eT (eT eI))) b), .sh ((eL eI) images), .sh ((eP3 eI (eT eI) (eT (eP3 eI eI eI))) step), .sh (eI y), .sh (eB unlike), .sh (eI step.1), .sh ((eT eI) step.2.1), .sh ((eT (eP3 eI eI eI)) step.2.2), .ow (List.map eI a22), jk j23, .sh (eI x62), jk j65, .no], rfl, (rs_last (rs_bindP (rv_dItems (rv_bind (rv_var rfl) (rv_lift (y := ((List.map eI) step.2.1)) rfl))) (rs_for1 (e := eI) (xs := step.2.1) (a := ()) (f := fun (x80 : Int) (a81 : Unit) => M.bind (M.bind (M.bind (M.bind (pAt a.2 x62) fun c83 => pAt c83 x80) fun c84 => pAt a22 c84) fun c88 => M.bind (M.bind (M.bind (pAt a22 x62) fun c89 => pAt b.2 c89) fun c90 => M.bind (pAt a22 x80) fun c91 => pAt c90 c91) fun c92 => .ok (!decide (c88 = c92))) fun c93 => if c93 = true then .ok (.ret none) else .ok (.nx ())) (h := F.ret) (fun (a96 : Unit) (st : DSt) => ∃ (j97 : (Option D)), st = [.sh ((eC2 "Semigroup" "n" "table" eI (eT (eT eI))) a), .sh ((eC2 "Semigroup" "n" "table" eI (eT (eT eI))) b), .sh ((eL eI) images), .sh ((eP3 eI (eT eI) (eT (eP3 eI eI eI))) step), .sh (eI y), .sh (eB unlike), .sh (eI step.1), .sh ((eT eI) step.2.1), .sh ((eT (eP3 eI eI eI)) step.2.2), .ow (List.map eI a22), jk j23, .sh (eI x62), jk j97, .no]) ⟨j65, rfl⟩ (fun | x80, a81, _, ⟨j82, rfl⟩ => ⟨[.sh ((eC2 "Semigroup" "n" "table" eI (eT (eT eI))) a), .sh ((eC2 "Semigroup" "n" "table" eI (eT (eT eI))) b), .sh ((eL eI) images), .sh ((eP3 eI (eT eI) (eT (eP3 eI eI eI))) step), .sh (eI y), .sh (eB unlike), .sh (eI step.1), .sh ((eT eI) step.2.1), .sh ((eT (eP3 eI eI eI)) step.2.2), .ow (List.map eI a22), jk j23, .sh (eI x62), .sh (eI x80), .no], rfl, (rs_last (rs_bindG (re_tst (re_dOp2 (re_bindG (re_dOp2n (re_bindP (rv_rdO rfl) (re_bindG (re_dOp2 (re_bindG (re_dOp2 (re_bindP (rv_dOp1 (rv_bind (rv_var rfl) (rv_lift (by rfl)))) (re_bindP (rv_var rfl) (re_lift op_atT)))) fun c83 => (re_bindP (rv_var rfl) (re_lift op_atT)))) fun c84 => (re_bindP (rv_rdO rfl) (re_lift op_atL))))) fun c88 => (re_bindG (re_dOp2 (re_bindG (re_dOp2 (re_bindP (rv_dOp1 (rv_bind (rv_var rfl) (rv_lift (by rfl)))) (re_bindG (re_dOp2n (re_bindP (rv_rdO rfl) (re_bindP (rv_var rfl) (re_bindP (rv_rdO rfl) (re_lift op_atL))))) fun c89 => (re_lift op_atT)))) fun c90 => (re_bindG (re_dOp2n (re_bindP (rv_rdO rfl) (re_bindP (rv_var rfl) (re_bindP (rv_rdO rfl) (re_lift op_atL))))) fun c91 => (re_lift op_atT)))) fun c92 => (re_rv (w := eB) (rv_lift (ne_py pyI (x := c88) (y := c92)))))))) fun c93 => (rs_ite (fun _ => (rs_bindP (rv_eq rv_ret rfl) (rs_ret ⟨⟨_, rfl⟩, ⟨⟨_, rfl⟩, (.inl rfl)⟩⟩))) (fun _ => (rs_nx (rs_end ⟨rfl, (some (eI x80)), rfl⟩))))))⟩) (fun | a94, _, ⟨j95, rfl⟩ => (rs_end ⟨rfl, (some (eI x62)), j95, rfl⟩)))))⟩) (fun | a98, _, ⟨j99, j100, rfl⟩ => (rs_bindG (re_dAnd (re_bindP (rv_tst (rv_var rfl)) (re_ite (fun _ => (re_tst (re_dOp2 (re_bindG (re_dOp1 (re_bindG (re_frzN (re_bindP (rv_dItems (rv_bind (rv_var rfl) (rv_lift (y := ((List.map eI) step.2.1)) rfl))) (re_compM (e := eI) (f := fun (x101 : Int) => pAt a22 x101) ([.sh ((eC2 "Semigroup" "n" "table" eI (eT (eT eI))) a), .sh ((eC2 "Semigroup" "n" "table" eI (eT (eT eI))) b), .sh ((eL eI) images), .sh ((eP3 eI (eT eI) (eT (eP3 eI eI eI))) step), .sh (eI y), .sh (eB unlike), .sh (eI step.1), .sh ((eT eI) step.2.1), .sh ((eT (eP3 eI eI eI)) step.2.2), .ow (List.map eI a22), jk j23, jk j99, jk j100, .no]) rfl rfl rfl (fun x101 => ⟨[.sh ((eC2 "Semigroup" "n" "table" eI (eT (eT eI))) a), .sh ((eC2 "Semigroup" "n" "table" eI (eT (eT eI))) b), .sh ((eL eI) images), .sh ((eP3 eI (eT eI) (eT (eP3 eI eI eI))) step), .sh (eI y), .sh (eB unlike), .sh (eI step.1), .sh ((eT eI) step.2.1), .sh ((eT (eP3 eI eI eI)) step.2.2), .ow (List.map eI a22), jk j23, jk j99, jk j100, .sh (eI x101)], [.sh ((eC2 "Semigroup" "n" "table" eI (eT (eT eI))) a), .sh ((eC2 "Semigroup" "n" "table" eI (eT (eT eI))) b), .sh ((eL eI) images), .sh ((eP3 eI (eT eI) (eT (eP3 eI eI eI))) step), .sh (eI y), .sh (eB unlike), .sh (eI step.1), .sh ((eT eI) step.2.1), .sh ((eT (eP3 eI eI eI)) step.2.2), .ow (List.map eI a22), jk j23, jk j99, jk j100, .sh (eI x101)], rfl, (re_dOp2n (re_bindP (rv_rdO rfl) (re_bindP (rv_var rfl) (re_bindP (rv_rdO rfl) (re_lift op_atL))))), rfl, rfl⟩)))) fun c102 => (re_lift op_lenSetL))) fun c103 => (re_bindP (rv_dOp1n (rv_bind (rv_rd rfl) (rv_lift op_lenT))) (re_rv (w := eB) (rv_lift (ne_py pyI (x := c103) (y := (step.2.1.length : Int)))))))))) (fun _ => re_rv rv_ret)))) fun c104 => (rs_ite (fun _ => (rs_bindP (rv_eq rv_ret rfl) (rs_ret (.inl rfl)))) (fun _ => (rs_nx (rs_last (rs_bindP (rv_eq (rv_frz rfl) rfl) (rs_ret (.inl rfl)))))))))))))))))))))))
def P_walk (a : (Int × (List (List Int)))) (b : (Int × (List (List Int)))) (unlike : Bool) : M (List (List Int)) := M.bind (pNX (P_closing a)) fun c1 => M.bind (M.bind (M.bind (pRep [-1] a.1) fun c2 => .ok (c2, 0)) fun c3 => .ok [c3]) fun c4 => M.bind (pwhile (fun (a67 : ((List ((List Int) × Int)) × (List (List Int)))) => .ok (decide ((a67.1.length : Int) > 0))) (fun (a67 : ((List ((List Int) × Int)) × (List (List Int)))) => M.bind (pPop a67.1) fun c72 => if (decide (c72.1.2 = (c1.length : Int))) = true then .ok (c72.2, (a67.2 ++ [c72.1.1])) else M.bind (pRng3 (b.1 - 1) (-1) (-1)) fun c73 => M.bind (pfold (fun (x83 : Int) (a84 : (List ((List Int) × Int))) => M.bind (M.bind (pAt c1 c72.1.2) fun c87 => P_extended a b c72.1.1 c87 x83 unlike) fun c88 => if c88.isSome = true then M.bind (M.bind (M.bind (oM c88) fun c89 => .ok (c89, (c72.1.2 + 1))) fun c91 => pApp a84 c91) fun c90 => .ok c90 else .ok a84) c73 c72.2) fun (a92 : (List ((List Int) × Int))) => .ok (a92, a67.2)) fuel (c4, [])) fun (a98 : ((List ((List Int) × Int)) × (List (List Int)))) => .ok a98.2
theorem S_walk (a : (Int × (List (List Int)))) (b : (Int × (List (List Int)))) (unlike : Bool) : D0 (d_walk [(eC2 "Semigroup" "n" "table" eI (eT (eT eI))) a, (eC2 "Semigroup" "n" "table" eI (eT (eT eI))) b, eB unlike]) (P_walk a b unlike) (eL (eT eI)) := fn_G rfl (show RS false (sSeq (sSet 3 (dCall d_closing (dCons (dVar 0) dNil))) (sSeq (sOwn 4 (dLst (dCons (dTup (dCons (dFrz (dN2 nMul (dFrz (dLst (dCons (dOp1 opNeg (dC (.int 1))) dNil))) (dOp1 (opFld "Semigroup" "n") (dVar 0)))) (dCons (dC (.int 0)) dNil))) dNil))) (sWhile (dTst (dOp2 opGt (dOp1n opLen 4) (dC (.int 0)))) (sSeq (sAsg (.nms [5, 6]) (dPop 4)) (sIf (dTst (dOp2 opEq (dVar 6) (dOp1n opLen 3))) (sYield 9 (dOp1n opTuple 5)) (sFor (.nm 7) (dRng3 (dOp2 opSub (dOp1 (opFld "Semigroup" "n") (dVar 1)) (dC (.int 1))) (dOp1 opNeg (dC (.int 1))) (dOp1 opNeg (dC (.int 1)))) (sSeq (sSet 8 (dCall d_extended (dCons (dVar 0) (dCons (dVar 1) (dCons (dVar 5) (dCons (dOp2n opIx 3 (dVar 6)) (dCons (dVar 7) (dCons (dVar 2) dNil)))))))) (sIf (dTst (dOp2 opIsNot (dVar 8) (dC .non))) (sExpr (dAppend 4 (dTup (dCons (dVar 8) (dCons (dOp2 opAdd (dVar 6) (dC (.int 1))) dNil))))) sPass))))) fuel))) [.sh ((eC2 "Semigroup" "n" "table" eI (eT (eT eI))) a), .sh ((eC2 "Semigroup" "n" "table" eI (eT (eT eI))) b), .sh (eB unlike), .no, .no, .no, .no, .no, .no, .gy (List.map eI [])] (P_walk a b unlike) (Kgen 9 (eT eI)) from
  (rs_bindG (re_dCall (re_consP (rv_var rfl) (re_nil (re_liftM (dm_nx (S_closing a)))))) fun c1 => (rs_put (st1 := [.sh ((eC2 "Semigroup" "n" "table" eI (eT (eT eI))) a), .sh ((eC2 "Semigroup" "n" "table" eI (eT (eT eI))) b), .sh (eB unlike), .sh ((eL (eP3 eI (eT eI) (eT (eP3 eI eI eI)))) c1), .no, .no, .no, .no, .no, .gy (List.map eI [])]) rfl (rs_bindG (re_dLst (re_consG (re_dTup (re_consG (re_frzN (re_dN2 (re_bindP (rv_frzN (d := ((eL eI) [-1])) (rv_dLst (rv_cons (rv_dOp1 (rv_bind rv_ret (rv_lift (y := (eI (-1))) rfl))) (rv_nil (rv_lift (y := ((List.map eI) [-1])) (op_lst (by exact Nat.le_of_ble_eq_true rfl) rfl))))) rfl) (re_bindP (rv_dOp1 (rv_bind (rv_var rfl) (rv_lift (by rfl)))) (re_lift op_nRep))))) fun c2 => (re_consP rv_ret (re_nil (re_rv (w := (eP2 (eL eI) eI)) (rv_lift (y := ((eP2 (eL eI) eI) (c2, 0))) (op_tup (by exact Nat.le_of_ble_eq_true rfl) rfl))))))) fun c3 => (re_nil (re_rv (w := (List.map (eP2 (eL eI) eI))) (rv_lift (y := ((List.map (eP2 (eL eI) eI)) [c3])) (op_lst (by exact Nat.le_of_ble_eq_true rfl) rfl)))))) fun c4 => (rs_put (st1 := [.sh ((eC2 "Semigroup" "n" "table" eI (eT (eT eI))) a), .sh ((eC2 "Semigroup" "n" "table" eI (eT (eT eI))) b), .sh (eB unlike), .sh ((eL (eP3 eI (eT eI) (eT (eP3 eI eI eI)))) c1), .ow (List.map (eP2 (eL eI) eI) c4), .no, .no, .no, .no, .gy (List.map eI [])]) rfl (rs_last (rs_while0 (a := (c4, [])) (fun (a103 : ((List ((List Int) × Int)) × (List (List Int)))) (st : DSt) => ∃ (j104 : (Option D)), ∃ (j105 : (Option D)), ∃ (j106 : (Option D)), ∃ (j107 : (Option D)), st = [.sh ((eC2 "Semigroup" "n" "table" eI (eT (eT eI))) a), .sh ((eC2 "Semigroup" "n" "table" eI (eT (eT eI))) b), .sh (eB unlike), .sh ((eL (eP3 eI (eT eI) (eT (eP3 eI eI eI)))) c1), .ow (List.map (eP2 (eL eI) eI) a103.1), jk j104, jk j105, jk j106, jk j107, .gy (List.map (eT eI) a103.2)]) ⟨none, none, none, none, rfl⟩ (fun | a67, _, ⟨j68, j69, j70, j71, rfl⟩ => (re_rv (w := (fun b : Bool => b)) (rv_tst (rv_dOp2 (rv_bind (rv_dOp1n (rv_bind (rv_rdO rfl) (rv_lift op_lenL))) (rv_bind rv_ret (rv_lift (y := (eB (decide ((a67.1.length : Int) > 0)))) rfl))))))) (fun | a67, _, ⟨j68, j69, j70, j71, rfl⟩ => (rs_x (x_pop (S := fun c72 => [.sh ((eC2 "Semigroup" "n" "table" eI (eT (eT eI))) a), .sh ((eC2 "Semigroup" "n" "table" eI (eT (eT eI))) b), .sh (eB unlike), .sh ((eL (eP3 eI (eT eI) (eT (eP3 eI eI eI)))) c1), .ow (List.map (eP2 (eL eI) eI) c72.2), .sh ((eL eI) c72.1.1), .sh (eI c72.1.2), jk j70, jk j71, .gy (List.map (eT eI) a67.2)]) rfl (fun _ => rfl)) fun c72 => (rs_last (rs_bindP (rv_tst (rv_dOp2 (rv_bind (rv_var rfl) (rv_bind (rv_dOp1n (rv_bind (rv_rd rfl) (rv_lift op_lenL))) (rv_lift (eq_py pyI (x := c72.1.2) (y := (c1.length : Int)))))))) (rs_ite (fun _ => (rs_yield (e := (eT eI)) (xs := a67.2) (v := c72.1.1) (rv_dOp1n (rv_bind (rv_rd rfl) (rv_lift (y := ((eT eI) c72.1.1)) rfl))) rfl (rs_st ([.sh ((eC2 "Semigroup" "n" "table" eI (eT (eT eI))) a), .sh ((eC2 "Semigroup" "n" "table" eI (eT (eT eI))) b), .sh (eB unlike), .sh ((eL (eP3 eI (eT eI) (eT (eP3 eI eI eI)))) c1), .ow (List.map (eP2 (eL eI) eI) c72.2), .sh ((eL eI) c72.1.1), .sh (eI c72.1.2), jk j70, jk j71, .gy (List.map (eT eI) (a67.2 ++ [c72.1.1]))]) rfl (rs_end ⟨rfl, (some ((eL eI) c72.1.1)), (some (eI c72.1.2)), j70, j71, rfl⟩)))) (fun _ => (rs_bindG (re_dRng3 (re_bindP (rv_dOp2 (rv_bind (rv_dOp1 (rv_bind (rv_var rfl) (rv_lift (by rfl)))) (rv_bind rv_ret (rv_lift (y := (eI (b.1 - 1))) rfl)))) (re_bindP (rv_dOp1 (rv_bind rv_ret (rv_lift (y := (eI (-1))) rfl))) (re_bindP (rv_dOp1 (rv_bind rv_ret (rv_lift (y := (eI (-1))) rfl))) (re_lift op_rng3))))) fun c73 => (rs_for0 (e := eI) (xs := c73) (a := c72.2) (f := fun (x83 : Int) (a84 : (List ((List Int) × Int))) => M.bind (M.bind (pAt c1 c72.1.2) fun c87 => P_extended a b c72.1.1 c87 x83 unlike) fun c88 => if c88.isSome = true then M.bind (M.bind (M.bind (oM c88) fun c89 => .ok (c89, (c72.1.2 + 1))) fun c91 => pApp a84 c91) fun c90 => .ok c90 else .ok a84) (fun (a95 : (List ((List Int) × Int))) (st : DSt) => ∃ (j96 : (Option D)), ∃ (j97 : (Option D)), st = [.sh ((eC2 "Semigroup" "n" "table" eI (eT (eT eI))) a), .sh ((eC2 "Semigroup" "n" "table" eI (eT (eT eI))) b), .sh (eB unlike), .sh ((eL (eP3 eI (eT eI) (eT (eP3 eI eI eI)))) c1), .ow (List.map (eP2 (eL eI) eI) a95), .sh ((eL eI) c72.1.1), .sh (eI c72.1.2), jk j96, jk j97, .gy (List.map (eT eI) a67.2)]) ⟨j70, j71, rfl⟩ (fun | x83, a84, _, ⟨j85, j86, rfl⟩ => ⟨[.sh ((eC2 "Semigroup" "n" "table" eI (eT (eT eI))) a), .sh ((eC2 "Semigroup" "n" "table" eI (eT (eT eI))) b), .sh (eB unlike), .sh ((eL (eP3 eI (eT eI) (eT (eP3 eI eI eI)))) c1), .ow (List.map (eP2 (eL eI) eI) a84), .sh ((eL eI) c72.1.1), .sh (eI c72.1.2), .sh (eI x83), jk j86, .gy (List.map (eT eI) a67.2)], rfl, (rs_bindG (re_dCall (re_consP (rv_var rfl) (re_consP (rv_var rfl) (re_consP (rv_var rfl) (re_consG (re_dOp2n (re_bindP (rv_rd rfl) (re_bindP (rv_var rfl) (re_bindP (rv_rd rfl) (re_lift op_atL))))) fun c87 => (re_consP (rv_var rfl) (re_consP (rv_var rfl) (re_nil (re_liftM (S_extended a b c72.1.1 c87 x83 unlike)))))))))) fun c88 => (rs_put (st1 := [.sh ((eC2 "Semigroup" "n" "table" eI (eT (eT eI))) a), .sh ((eC2 "Semigroup" "n" "table" eI (eT (eT eI))) b), .sh (eB unlike), .sh ((eL (eP3 eI (eT eI) (eT (eP3 eI eI eI)))) c1), .ow (List.map (eP2 (eL eI) eI) a84), .sh ((eL eI) c72.1.1), .sh (eI c72.1.2), .sh (eI x83), .sh ((eO (eL eI)) c88), .gy (List.map (eT eI) a67.2)]) rfl (rs_last (rs_bindP (rv_tst (rv_dOp2 (rv_bind (rv_var rfl) (rv_bind rv_ret (rv_lift (by cases c88 <;> rfl)))))) (rs_ite (fun _ => (rs_x (x_appG (e := (eP2 (eL eI) eI)) (xs := a84) rfl (re_dTup (re_consG (re_get (rv_var rfl)) fun c89 => (re_consP (rv_dOp2 (rv_bind (rv_var rfl) (rv_bind rv_ret (rv_lift (y := (eI (c72.1.2 + 1))) rfl)))) (re_nil (re_rv (w := (eP2 (eL eI) eI)) (rv_lift (y := ((eP2 (eL eI) eI) (c89, (c72.1.2 + 1)))) (op_tup (by exact Nat.le_of_ble_eq_true rfl) rfl))))))) rfl) fun c90 => rs_st ([.sh ((eC2 "Semigroup" "n" "table" eI (eT (eT eI))) a), .sh ((eC2 "Semigroup" "n" "table" eI (eT (eT eI))) b), .sh (eB unlike), .sh ((eL (eP3 eI (eT eI) (eT (eP3 eI eI eI)))) c1), .ow (List.map (eP2 (eL eI) eI) c90), .sh ((eL eI) c72.1.1), .sh (eI c72.1.2), .sh (eI x83), .sh ((eO (eL eI)) c88), .gy (List.map (eT eI) a67.2)]) rfl (rs_end ⟨rfl, (some (eI x83)), (some ((eO (eL eI)) c88)), rfl⟩))) (fun _ => (rs_nx (rs_end ⟨rfl, (some (eI x83)), (some ((eO (eL eI)) c88)), rfl⟩))))))))⟩) (fun | a92, _, ⟨j93, j94, rfl⟩ => (rs_end ⟨rfl, (some ((eL eI) c72.1.1)), (some (eI c72.1.2)), j93, j94, rfl⟩)))))))))) (fun | a98, _, ⟨j99, j100, j101, j102, rfl⟩ => (rs_end ⟨rfl, rfl⟩)))))))))
def P_find_isomorphism (a : (Int × (List (List Int)))) (b : (Int × (List (List Int)))) : M (Option (List Int)) := if (!decide (a.1 = b.1)) = true then .ok none else M.bind (pNX (P_walk a b true)) fun c2 => M.bind (pfor (fun (x6 : (List Int)) (a7 : Unit) => .ok (.ret (some x6))) c2 ()) fun r => pK r (fun (a9 : Unit) => .ok none) (fun q => q)
theorem S_find_isomorphism (a : (Int × (List (List Int)))) (b : (Int × (List (List Int)))) : DM (d_find_isomorphism [(eC2 "Semigroup" "n" "table" eI (eT (eT eI))) a, (eC2 "Semigroup" "n" "table" eI (eT (eT eI))) b]) (P_find_isomorphism a b) (eO (eT eI)) := fn_F rfl (show RS true (sSeq (sIf (dTst (dOp2 opNe (dOp1 (opFld "Semigroup" "n") (dVar 0)) (dOp1 (opFld "Semigroup" "n") (dVar 1)))) (sRet (dC .non)) sPass) (sSeq (sFor (.nm 2) (dItems (dCall d_walk (dCons (dVar 0) (dCons (dVar 1) (dCons (dC (.bl true)) dNil))))) (sRet (dVar 2))) (sRet (dC .non)))) [.sh ((eC2 "Semigroup" "n" "table" eI (eT (eT eI))) a), .sh ((eC2 "Semigroup" "n" "table" eI (eT (eT eI))) b), .no] (P_find_isomorphism a b) (Kfn (eO (eT eI))) from
  (rs_bindP (rv_tst (rv_dOp2 (rv_bind (rv_dOp1 (rv_bind (rv_var rfl) (rv_lift (by rfl)))) (rv_bind (rv_dOp1 (rv_bind (rv_var rfl) (rv_lift (by rfl)))) (rv_lift (ne_py pyI (x := a.1) (y := b.1))))))) (rs_ite (fun _ => (rs_bindP (rv_eq rv_ret rfl) (rs_ret (.inl rfl)))) (fun _ => (rs_nx (rs_bindG (re_dItems (re_tail (w := (List.map (eT eI))) (re_dCall (re_consP (rv_var rfl) (re_consP (rv_var rfl) (re_consP rv_ret (re_nil (re_liftM (dm_nx (S_walk a b true)))))))) fun c1 => (rv_lift (y := ((List.map (eT eI)) c1)) rfl))) fun c2 => (rs_for1 (e := (eT eI)) (xs := c2) (a := ()) (f := fun (x6 : (List Int)) (a7 : Unit) => .ok (.ret (some x6))) (h := (fun q => q)) (fun (a11 : Unit) (st : DSt) => ∃ (j12 : (Option D)), st = [.sh ((eC2 "Semigroup" "n" "table" eI (eT (eT eI))) a), .sh ((eC2 "Semigroup" "n" "table" eI (eT (eT eI))) b), jk j12]) ⟨none, rfl⟩ (fun | x6, a7, _, ⟨j8, rfl⟩ => ⟨[.sh ((eC2 "Semigroup" "n" "table" eI (eT (eT eI))) a), .sh ((eC2 "Semigroup" "n" "table" eI (eT (eT eI))) b), .sh ((eT eI) x6)], rfl, (rs_last (rs_bindP (rv_eq (rv_var rfl) rfl) (rs_ret ⟨⟨_, rfl⟩, (.inl rfl)⟩)))⟩) (fun | a9, _, ⟨j10, rfl⟩ => (rs_last (rs_bindP (rv_eq rv_ret rfl) (rs_ret (.inl rfl))))))))))))
def P_gathered (a : (Int × (List (List Int)))) (b : (Int × (List (List Int)))) (unlike : Bool) : M (List (List Int)) := M.bind (pNX (P_walk a b unlike)) fun c2 => M.bind (pfold (fun (x11 : (List Int)) (a12 : (List (List Int))) => M.bind (pApp a12 x11) fun c14 => if (decide ((c14.length : Int) > 50000)) = true then .exn "Refused" [("reason", eS ("many" : Str))] else .ok c14) c2 []) fun (a15 : (List (List Int))) => .ok a15
theorem S_gathered (a : (Int × (List (List Int)))) (b : (Int × (List (List Int)))) (unlike : Bool) : DM (d_gathered [(eC2 "Semigroup" "n" "table" eI (eT (eT eI))) a, (eC2 "Semigroup" "n" "table" eI (eT (eT eI))) b, eB unlike]) (P_gathered a b unlike) (eL (eT eI)) := fn_F rfl (show RS true (sSeq (sOwn 3 (dLst dNil)) (sSeq (sFor (.nm 4) (dItems (dCall d_walk (dCons (dVar 0) (dCons (dVar 1) (dCons (dVar 2) dNil))))) (sSeq (sExpr (dAppend 3 (dVar 4))) (sIf (dTst (dOp2 opGt (dOp1n opLen 3) (dC (.int 50000)))) (sRaise1 "Refused" "reason" (dC (.str "many"))) sPass))) (sRet (dVar 3)))) [.sh ((eC2 "Semigroup" "n" "table" eI (eT (eT eI))) a), .sh ((eC2 "Semigroup" "n" "table" eI (eT (eT eI))) b), .sh (eB unlike), .no, .no] (P_gathered a b unlike) (Kfn (eL (eT eI))) from
  (rs_bindP (rv_dLst (rv_nil (rv_lift (y := ((List.map eI) [])) (op_lst (by exact Nat.le_of_ble_eq_true rfl) rfl)))) (rs_put (st1 := [.sh ((eC2 "Semigroup" "n" "table" eI (eT (eT eI))) a), .sh ((eC2 "Semigroup" "n" "table" eI (eT (eT eI))) b), .sh (eB unlike), .ow (List.map eI []), .no]) rfl (rs_bindG (re_dItems (re_tail (w := (List.map (eT eI))) (re_dCall (re_consP (rv_var rfl) (re_consP (rv_var rfl) (re_consP (rv_var rfl) (re_nil (re_liftM (dm_nx (S_walk a b unlike)))))))) fun c1 => (rv_lift (y := ((List.map (eT eI)) c1)) rfl))) fun c2 => (rs_for0 (e := (eT eI)) (xs := c2) (a := []) (f := fun (x11 : (List Int)) (a12 : (List (List Int))) => M.bind (pApp a12 x11) fun c14 => if (decide ((c14.length : Int) > 50000)) = true then .exn "Refused" [("reason", eS ("many" : Str))] else .ok c14) (fun (a17 : (List (List Int))) (st : DSt) => ∃ (j18 : (Option D)), st = [.sh ((eC2 "Semigroup" "n" "table" eI (eT (eT eI))) a), .sh ((eC2 "Semigroup" "n" "table" eI (eT (eT eI))) b), .sh (eB unlike), .ow (List.map (eT eI) a17), jk j18]) ⟨none, rfl⟩ (fun | x11, a12, _, ⟨j13, rfl⟩ => ⟨[.sh ((eC2 "Semigroup" "n" "table" eI (eT (eT eI))) a), .sh ((eC2 "Semigroup" "n" "table" eI (eT (eT eI))) b), .sh (eB unlike), .ow (List.map (eT eI) a12), .sh ((eT eI) x11)], rfl, (rs_x (x_appP (e := (eT eI)) (xs := a12) rfl (rv_var rfl) rfl) fun c14 => rs_st ([.sh ((eC2 "Semigroup" "n" "table" eI (eT (eT eI))) a), .sh ((eC2 "Semigroup" "n" "table" eI (eT (eT eI))) b), .sh (eB unlike), .ow (List.map (eT eI) c14), .sh ((eT eI) x11)]) rfl (rs_last (rs_bindP (rv_tst (rv_dOp2 (rv_bind (rv_dOp1n (rv_bind (rv_rdO rfl) (rv_lift op_lenL))) (rv_bind rv_ret (rv_lift (y := (eB (decide ((c14.length : Int) > 50000)))) rfl))))) (rs_ite (fun _ => (rs_bindP rv_ret rs_raise1)) (fun _ => (rs_nx (rs_end ⟨rfl, (some ((eT eI) x11)), rfl⟩)))))))⟩) (fun | a15, _, ⟨j16, rfl⟩ => (rs_last (rs_bindP (rv_frz rfl) (rs_ret (.inl rfl))))))))))
def P_one_to_one (a : (Int × (List (List Int)))) (b : (Int × (List (List Int)))) : M (List (List Int)) := M.bind (P_gathered a b true) fun c2 => .ok c2
theorem S_one_to_one (a : (Int × (List (List Int)))) (b : (Int × (List (List Int)))) : DM (d_one_to_one [(eC2 "Semigroup" "n" "table" eI (eT (eT eI))) a, (eC2 "Semigroup" "n" "table" eI (eT (eT eI))) b]) (P_one_to_one a b) (eT (eT eI)) := fn_F rfl (show RS true (sRet (dOp1 opTuple (dCall d_gathered (dCons (dVar 0) (dCons (dVar 1) (dCons (dC (.bl true)) dNil)))))) [.sh ((eC2 "Semigroup" "n" "table" eI (eT (eT eI))) a), .sh ((eC2 "Semigroup" "n" "table" eI (eT (eT eI))) b)] (P_one_to_one a b) (Kfn (eT (eT eI))) from
  (rs_last (rs_bindG (re_dOp1 (re_tail (w := (eT (eT eI))) (re_dCall (re_consP (rv_var rfl) (re_consP (rv_var rfl) (re_consP rv_ret (re_nil (re_liftM (S_gathered a b true))))))) fun c1 => (rv_lift (y := ((eT (eT eI)) c1)) rfl))) fun c2 => (rs_ret (.inl rfl)))))
def P_automorphisms (s : (Int × (List (List Int)))) : M (List (List Int)) := M.bind (P_one_to_one s s) fun c1 => .ok c1
theorem S_automorphisms (s : (Int × (List (List Int)))) : DM (d_automorphisms [(eC2 "Semigroup" "n" "table" eI (eT (eT eI))) s]) (P_automorphisms s) (eT (eT eI)) := fn_F rfl (show RS true (sRet (dCall d_one_to_one (dCons (dVar 0) (dCons (dVar 0) dNil)))) [.sh ((eC2 "Semigroup" "n" "table" eI (eT (eT eI))) s)] (P_automorphisms s) (Kfn (eT (eT eI))) from
  (rs_last (rs_bindG (re_dCall (re_consP (rv_var rfl) (re_consP (rv_var rfl) (re_nil (re_liftM (S_one_to_one s s)))))) fun c1 => (rs_ret (.inl rfl)))))
def P_law (script : (List Int)) : M Bool := M.bind (pNX (P__law_state script)) fun c1 => M.bind (P__law_semigroup c1 5) fun c3 => M.bind (P__law_semigroup c3.2 5) fun c6 => M.bind (M.bind (P__law_take c6.2 2) fun c9 => .ok ((decide (c9.1 = 0)), c9.2)) fun c10 => M.bind (if c10.1 = true then M.bind (M.bind (P__law_order_of c10.2 (c3.1.length : Int)) fun c18 => M.bind (P__law_renamed c3.1 c18.1) fun c19 => .ok (c19, c18.2)) fun c20 => .ok c20.1 else .ok c6.1 : M (List (List Int))) fun (a22 : (List (List Int))) => M.bind (P_Semigroup___init__ c3.1) fun c24 => M.bind (P_Semigroup___init__ a22) fun c25 => M.bind (P__law_found c3.1 a22) fun c26 => M.bind (P_find_isomorphism c24 c25) fun c27 => M.bind (M.bind (if (decide ((c26.length : Int) > 0)) = true then M.bind (pAt c26 0) fun c29 => .ok (some c29) else .ok none) fun c30 => .ok (!decide (c27 = c30))) fun c31 => if c31 = true then .ok false else M.bind (M.bind (M.bind (P_find_isomorphism c25 c24) fun c32 => .ok c32.isNone) fun c33 => .ok (!decide (c33 = (decide ((c26.length : Int) = 0))))) fun c34 => if c34 = true then .ok false else M.bind (M.bind (P_automorphisms c24) fun c36 => M.bind (P__law_found c3.1 c3.1) fun c38 => .ok (decide (c36 = c38))) fun c39 => .ok c39
theorem S_law (script : (List Int)) : D0 (d_law [D.scr script]) (P_law script) eB := fn_F0 rfl (show RS false (sSeq (sOwn 1 (dCallO d__law_state (dCons (dVar 0) dNil))) (sSeq (sSet 2 (dCallR d__law_semigroup 1 (dCons (dC (.int 5)) dNil))) (sSeq (sSet 3 (dCallR d__law_semigroup 1 (dCons (dC (.int 5)) dNil))) (sSeq (sIf (dTst (dOp2 opEq (dCallR d__law_take 1 (dCons (dC (.int 2)) dNil)) (dC (.int 0)))) (sSet 3 (dCall d__law_renamed (dCons (dVar 2) (dCons (dCallR d__law_order_of 1 (dCons (dOp1n opLen 2) dNil)) dNil)))) sPass) (sSeq (sSet 4 (dCall (makeM "Semigroup" d_Semigroup___init__) (dCons (dVar 2) dNil))) (sSeq (sSet 5 (dCall (makeM "Semigroup" d_Semigroup___init__) (dCons (dVar 3) dNil))) (sSeq (sSet 6 (dCall d__law_found (dCons (dVar 2) (dCons (dVar 3) dNil)))) (sSeq (sSet 7 (dCall d_find_isomorphism (dCons (dVar 4) (dCons (dVar 5) dNil)))) (sSeq (sIf (dTst (dOp2 opNe (dVar 7) (dIf (dTst (dOp2 opGt (dOp1n opLen 6) (dC (.int 0)))) (dOp2n opIx 6 (dC (.int 0))) (dC .non)))) (sRet (dC (.bl false))) sPass) (sSeq (sIf (dTst (dOp2 opNe (dOp2 opIs (dCall d_find_isomorphism (dCons (dVar 5) (dCons (dVar 4) dNil))) (dC .non)) (dOp2 opEq (dOp1n opLen 6) (dC (.int 0))))) (sRet (dC (.bl false))) sPass) (sRet (dOp2 opEq (dCall d_automorphisms (dCons (dVar 4) dNil)) (dOp1 opTuple (dCall d__law_found (dCons (dVar 2) (dCons (dVar 2) dNil)))))))))))))))) [.sh (D.scr script), .no, .no, .no, .no, .no, .no, .no] (P_law script) (Kfn eB) from
  (rs_bindG (re_dCallO (re_consP (rv_var rfl) (re_nil (re_liftO (S__law_state script))))) fun c1 => (rs_put (st1 := [.sh (D.scr script), .ow (List.map eI c1), .no, .no, .no, .no, .no, .no]) rfl (rs_bindS (fun (r4 : List Int) => [.sh (D.scr script), .ow (List.map eI r4), .no, .no, .no, .no, .no, .no]) (rt_dCallR (rt_bindP (rv_ow rfl) (rt_consP rv_ret (rt_nil (rt_callO (S := fun r2 => [.sh (D.scr script), .ow (List.map eI r2), .no, .no, .no, .no, .no, .no]) rfl (fun _ => rfl) (S__law_semigroup c1 5)))))) fun c3 => (rs_put (st1 := [.sh (D.scr script), .ow (List.map eI c3.2), .sh ((eL (eT eI)) c3.1), .no, .no, .no, .no, .no]) rfl (rs_bindS (fun (r7 : List Int) => [.sh (D.scr script), .ow (List.map eI r7), .sh ((eL (eT eI)) c3.1), .no, .no, .no, .no, .no]) (rt_dCallR (rt_bindP (rv_ow rfl) (rt_consP rv_ret (rt_nil (rt_callO (S := fun r5 => [.sh (D.scr script), .ow (List.map eI r5), .sh ((eL (eT eI)) c3.1), .no, .no, .no, .no, .no]) rfl (fun _ => rfl) (S__law_semigroup c3.2 5)))))) fun c6 => (rs_put (st1 := [.sh (D.scr script), .ow (List.map eI c6.2), .sh ((eL (eT eI)) c3.1), .sh ((eL (eT eI)) c6.1), .no, .no, .no, .no]) rfl (rs_bindS (fun (r11 : List Int) => [.sh (D.scr script), .ow (List.map eI r11), .sh ((eL (eT eI)) c3.1), .sh ((eL (eT eI)) c6.1), .no, .no, .no, .no]) (rt_tst (rt_dOp2 (rt_bindS (rt_dCallR (rt_bindP (rv_ow rfl) (rt_consP rv_ret (rt_nil (rt_callO (S := fun r8 => [.sh (D.scr script), .ow (List.map eI r8), .sh ((eL (eT eI)) c3.1), .sh ((eL (eT eI)) c6.1), .no, .no, .no, .no]) rfl (fun _ => rfl) (S__law_take c6.2 2)))))) fun c9 => (rt_bindP rv_ret (rt_rv (v := eB) (rv_lift (eq_py pyI (x := c9.1) (y := 0)))))))) fun c10 => (rs_join (I := (fun (a40 : (List (List Int))) (st : DSt) => ∃ (j41 : Slot), st = [.sh (D.scr script), j41, .sh ((eL (eT eI)) c3.1), .sh ((eL (eT eI)) a40), .no, .no, .no, .no])) (rs_iteN (fun _ => (rs_last (rs_bindS (fun (r21 : List Int) => [.sh (D.scr script), .ow (List.map eI r21), .sh ((eL (eT eI)) c3.1), .sh ((eL (eT eI)) c6.1), .no, .no, .no, .no]) (rt_dCall (rt_consP (rv_var rfl) (rt_consS (rt_dCallR (rt_bindP (rv_ow rfl) (rt_consP (rv_dOp1n (rv_bind (rv_rd rfl) (rv_lift op_lenL))) (rt_nil (rt_callO (S := fun r17 => [.sh (D.scr script), .ow (List.map eI r17), .sh ((eL (eT eI)) c3.1), .sh ((eL (eT eI)) c6.1), .no, .no, .no, .no]) rfl (fun _ => rfl) (S__law_order_of c10.2 (c3.1.length : Int))))))) fun c18 => (rt_nil (rt_re (re_liftM (S__law_renamed c3.1 c18.1))))))) fun c20 => (rs_put (st1 := [.sh (D.scr script), .ow (List.map eI c20.2), .sh ((eL (eT eI)) c3.1), .sh ((eL (eT eI)) c20.1), .no, .no, .no, .no]) rfl (rs_end ⟨rfl, (.ow (List.map eI c20.2)), rfl⟩))))) (fun _ => (rs_end ⟨rfl, (.ow (List.map eI c10.2)), rfl⟩))) fun | a22, _, ⟨j23, rfl⟩ => (rs_bindG (re_dCall (re_consP (rv_var rfl) (re_nil (re_liftM (S_Semigroup___init__ c3.1))))) fun c24 => (rs_put (st1 := [.sh (D.scr script), j23, .sh ((eL (eT eI)) c3.1), .sh ((eL (eT eI)) a22), .sh ((eC2 "Semigroup" "n" "table" eI (eT (eT eI))) c24), .no, .no, .no]) rfl (rs_bindG (re_dCall (re_consP (rv_var rfl) (re_nil (re_liftM (S_Semigroup___init__ a22))))) fun c25 => (rs_put (st1 := [.sh (D.scr script), j23, .sh ((eL (eT eI)) c3.1), .sh ((eL (eT eI)) a22), .sh ((eC2 "Semigroup" "n" "table" eI (eT (eT eI))) c24), .sh ((eC2 "Semigroup" "n" "table" eI (eT (eT eI))) c25), .no, .no]) rfl (rs_bindG (re_dCall (re_consP (rv_var rfl) (re_consP (rv_var rfl) (re_nil (re_liftM (S__law_found c3.1 a22)))))) fun c26 => (rs_put (st1 := [.sh (D.scr script), j23, .sh ((eL (eT eI)) c3.1), .sh ((eL (eT eI)) a22), .sh ((eC2 "Semigroup" "n" "table" eI (eT (eT eI))) c24), .sh ((eC2 "Semigroup" "n" "table" eI (eT (eT eI))) c25), .sh ((eL (eT eI)) c26), .no]) rfl (rs_bindG (re_dCall (re_consP (rv_var rfl) (re_consP (rv_var rfl) (re_nil (re_liftM (S_find_isomorphism c24 c25)))))) fun c27 => (rs_put (st1 := [.sh (D.scr script), j23, .sh ((eL (eT eI)) c3.1), .sh ((eL (eT eI)) a22), .sh ((eC2 "Semigroup" "n" "table" eI (eT (eT eI))) c24), .sh ((eC2 "Semigroup" "n" "table" eI (eT (eT eI))) c25), .sh ((eL (eT eI)) c26), .sh ((eO (eT eI)) c27)]) rfl (rs_bindG (re_tst (re_dOp2 (re_bindP (rv_var rfl) (re_bindG (re_dIf (re_bindP (rv_tst (rv_dOp2 (rv_bind (rv_dOp1n (rv_bind (rv_rd rfl) (rv_lift op_lenL))) (rv_bind rv_ret (rv_lift (y := (eB (decide ((c26.length : Int) > 0)))) rfl))))) (re_ite (fun _ => (re_map (w := (eO (eT eI))) (re_dOp2n (re_bindP (rv_rd rfl) (re_bindP rv_ret (re_bindP (rv_rd rfl) (re_lift op_atL))))) (fun _ => rfl))) (fun _ => (re_rv (w := (eO (eT eI))) (rv_eq rv_ret rfl)))))) fun c30 => (re_rv (w := eB) (rv_lift (ne_py (pyO (pyT pyI) (by intro x; constructor <;> first | rfl | simp [pyI, pyL, pyT, pyP2, pyP3, pyP4, PyData.eqv])) (x := c27) (y := c30)))))))) fun c31 => (rs_ite (fun _ => (rs_bindP rv_ret (rs_ret (.inl rfl)))) (fun _ => (rs_nx (rs_bindG (re_tst (re_dOp2 (re_bindG (re_dOp2 (re_bindG (re_dCall (re_consP (rv_var rfl) (re_consP (rv_var rfl) (re_nil (re_liftM (S_find_isomorphism c25 c24)))))) fun c32 => (re_bindP rv_ret (re_rv (w := eB) (rv_lift (by cases c32 <;> rfl)))))) fun c33 => (re_bindP (rv_dOp2 (rv_bind (rv_dOp1n (rv_bind (rv_rd rfl) (rv_lift op_lenL))) (rv_bind rv_ret (rv_lift (eq_py pyI (x := (c26.length : Int)) (y := 0)))))) (re_rv (w := eB) (rv_lift (ne_py pyB (x := c33) (y := (decide ((c26.length : Int) = 0)))))))))) fun c34 => (rs_ite (fun _ => (rs_bindP rv_ret (rs_ret (.inl rfl)))) (fun _ => (rs_nx (rs_last (rs_bindG (re_dOp2 (re_bindG (re_dCall (re_consP (rv_var rfl) (re_nil (re_liftM (S_automorphisms c24))))) fun c36 => (re_bindG (re_dOp1 (re_tail (w := (eT (eT eI))) (re_dCall (re_consP (rv_var rfl) (re_consP (rv_var rfl) (re_nil (re_liftM (S__law_found c3.1 c3.1)))))) fun c37 => (rv_lift (y := ((eT (eT eI)) c37)) rfl))) fun c38 => (re_rv (w := eB) (rv_lift (eq_py (pyT (pyT pyI)) (x := c36) (y := c38))))))) fun c39 => (rs_ret (.inl rfl)))))))))))))))))))))))))))))
end LAW
namespace LAW
open DL PySem L2
theorem take_d {m : Int} (h0 : 0 < m) (h1 : m < 1073741824) : Draw (fun r => P__law_take r m) (fun v => 0 ≤ v ∧ v < m) := by
  rintro _ ⟨s, t, rfl, g⟩
  have e0 : pAt [s, t] 0 = .ok s := rfl
  have e1 : pAt [s, t] 1 = .ok t := rfl
  have e2 : ∀ v, pSet [s, t] 0 v = .ok [v, t] := fun _ => rfl
  have e3 : ∀ v, pSet [s, t] 1 v = .ok [s, v] := fun _ => rfl
  have e4 : ∀ s v : Int, pAt [s, v] 1 = .ok v := fun _ _ => rfl
  by_cases hs : 0 < s
  · refine ⟨(s % m, [s / m, t]), ?_, ⟨Int.emod_nonneg _ (by omega), Int.emod_lt_of_pos _ h0⟩, s / m, t, rfl, ⟨Int.ediv_nonneg g.s0 (by omega), g.t0, g.t1⟩⟩
    simp [P__law_take, e0, e1, e2, hs, pMod_ok h0, pDiv_ok h0 h1]
  · refine ⟨((((t * 48271 + 11) % 2147483647) / 7) % m, [s, (t * 48271 + 11) % 2147483647]), ?_, ⟨Int.emod_nonneg _ (by omega), Int.emod_lt_of_pos _ h0⟩, s, _, rfl, ⟨g.s0, Int.emod_nonneg _ (by decide), Int.emod_lt_of_pos _ (by decide)⟩⟩
    have q1 : pMul t 48271 = .ok (t * 48271) := pMul_ok2 (by decide)
    have q2 : ∀ x, pMod x 2147483647 = .ok (x % 2147483647) := fun x => pMod_ok (by decide)
    have q3 : ∀ x, pDiv x 7 = .ok (x / 7) := fun x => pDiv_ok (by decide) (by decide)
    simp [P__law_take, e0, e1, e2, e3, e4, hs, q1, q2, q3, pMod_ok h0]
theorem state_d (ns : List Int) : Ok (P__law_state ns) StOk := by
  unfold P__law_state
  refine Ok.bind (P := fun a => Good a.1 a.2) (Ok.fold_all _ ⟨by decide, by decide, by decide⟩ fun x _ a g => ?_) fun a g => ⟨_, rfl, _, _, rfl, g⟩
  rw [pMul_ok2 (by decide), pMul_ok2 (by decide)]
  simp only [bind_ok]
  rw [pMod_ok (by decide)]
  refine Ok.pure ⟨?_, Int.emod_nonneg _ (by decide), Int.emod_lt_of_pos _ (by decide)⟩
  have := g.s0
  show 0 ≤ _ + _
  split <;> omega
theorem seqIx {j : Nat} {n : Nat} (h : j < n) : seqIndex? (j : Int) n = some j := by
  unfold seqIndex?
  simp; omega
theorem popAt_ok {α : Type} [Inhabited α] {xs : List α} {k : Int} (h0 : 0 ≤ k) (h : k < xs.length) (hb : xs.length ≤ 16777216) : pPopAt xs k = .ok (ix xs k, xs.eraseIdx k.toNat) := by
  obtain ⟨j, rfl⟩ := Int.eq_ofNat_of_zero_le h0
  have hj : j < xs.length := by omega
  unfold pPopAt
  rw [seqIx hj]
  have hbig : big = 16777216 := rfl
  simp only [List.getElem?_eq_getElem hj]
  rw [if_pos (by omega)]
  simp [ix, hj]
theorem perm_erase {α : Type} [Inhabited α] : ∀ (l : List α) (j : Nat), j < l.length → (ix l j :: l.eraseIdx j).Perm l
  | [], _, h => absurd h (Nat.not_lt_zero _)
  | x :: l, 0, _ => .refl _
  | x :: l, j + 1, h => by
    have e : ix (x :: l) ((j + 1 : Nat) : Int) = ix l (j : Int) := by rw [ix_cons (by omega)]; congr 1; omega
    rw [e]
    exact (List.Perm.swap _ _ _).trans ((perm_erase l j (by simpa using h)).cons x)
theorem order_d {n : Int} (h0 : 0 ≤ n) (hn : n ≤ 1000) : Draw (fun r => P__law_order_of r n) (fun p => p.Perm (rng n)) := by
  intro r hr
  unfold P__law_order_of
  rw [pRng_ok h0 (by omega)]
  simp only [bind_ok]
  refine Ok.bind (Ok.fold_rng (fun k (a : List Int × List Int × List Int) => StOk a.1 ∧ (a.2.1.length : Int) = n - k ∧ (a.2.2.length : Int) = k ∧ (a.2.1 ++ a.2.2).Perm (rng n)) h0 ⟨hr, by simp; omega, rfl, by simp⟩ (fun k a hk hk' hi => ?_) fun b h => h) fun b hb => ?_
  · obtain ⟨r, left, found⟩ := a
    obtain ⟨hr, hl, hf, hp⟩ := hi
    simp only at hr hl hf hp ⊢
    refine (take_d (m := (left.length : Int)) (by omega) (by omega) r hr).bind fun c hc => ?_
    obtain ⟨⟨h3, h4⟩, hr'⟩ := hc
    rw [popAt_ok h3 h4 (by omega), bind_ok, pApp_ok (by omega), bind_ok]
    refine Ok.pure ⟨hr', ?_, ?_, ?_⟩
    · simp only [List.length_eraseIdx]
      rw [if_pos (by omega)]
      omega
    · simp; omega
    · simp only
      refine List.Perm.trans ?_ hp
      rw [← List.append_assoc]
      refine List.perm_append_comm.trans ?_
      have := perm_erase left c.1.toNat (by omega)
      rw [Int.toNat_of_nonneg h3] at this
      exact this.append_right found
  · obtain ⟨hr, hl, hf, hp⟩ := hb
    refine Ok.pure ⟨?_, hr⟩
    have : b.2.1 = [] := List.length_eq_zero_iff.mp (by omega)
    rw [this] at hp
    simpa using hp
/-- p is one to one on the numbers below n -/
structure Ord (n : Int) (p : List Int) : Prop where
  len : (p.length : Int) = n
  lt : ∀ x ∈ p, 0 ≤ x ∧ x < n
  inj : ∀ a b, 0 ≤ a → a < n → 0 ≤ b → b < n → ix p a = ix p b → a = b
  sur : ∀ y, 0 ≤ y → y < n → ∃ x, 0 ≤ x ∧ x < n ∧ ix p x = y
theorem Ord.at_ {n : Int} {p : List Int} (o : Ord n p) {x : Int} (h0 : 0 ≤ x) (h1 : x < n) : 0 ≤ ix p x ∧ ix p x < n := o.lt _ (ix_mem h0 (by rw [o.len]; exact h1))
theorem ord_of {n : Int} {p : List Int} (hn : 0 ≤ n) (h : p.Perm (rng n)) : Ord n p := by
  have hl : (p.length : Int) = n := by have := h.length_eq; simp at this; omega
  refine ⟨hl, fun x hx => by simpa using h.mem_iff.mp hx, fun a b ha ha' hb hb' e => ?_, fun y h0 h1 => ?_⟩
  · have nd : p.Nodup := h.nodup_iff.mpr rng_nodup
    unfold ix at e
    rw [List.getD_eq_getElem?_getD, List.getD_eq_getElem?_getD, List.getElem?_eq_getElem (by omega), List.getElem?_eq_getElem (by omega)] at e
    simp only [Option.getD_some] at e
    have := (List.getElem_inj nd).mp e
    omega
  · obtain ⟨i, h2, h3, h4⟩ := mem_ix (h.mem_iff.mpr (mem_rng.mpr ⟨h0, h1⟩))
    exact ⟨i, h2, by omega, h4⟩
end LAW
namespace LAW
open DL PySem L2
structure Sq (n : Int) (M : List (List Int)) : Prop where
  len : (M.length : Int) = n
  row : ∀ r ∈ M, (r.length : Int) = n
def set2 (M : List (List Int)) (k l v : Int) : List (List Int) := M.set k.toNat ((ix M k).set l.toNat v)
section
variable {n : Int} {M : List (List Int)} {k l v i j : Int}
theorem Sq.rlen (V : Sq n M) (h0 : 0 ≤ i) (h1 : i < n) : ((ix M i).length : Int) = n := V.row _ (ix_mem h0 (by rw [V.len]; exact h1))
theorem pSet2_ok (V : Sq n M) (h0 : 0 ≤ k) (h1 : k < n) (h2 : 0 ≤ l) (h3 : l < n) : pSet2 M k l v = .ok (set2 M k l v) := by
  unfold pSet2 set2
  rw [pAt_ok h0 (by rw [V.len]; exact h1), bind_ok, pSet_ok h2 (by rw [V.rlen h0 h1]; exact h3), bind_ok, pSet_ok h0 (by rw [V.len]; exact h1)]
theorem Sq.set (V : Sq n M) (h0 : 0 ≤ k) (h1 : k < n) : Sq n (set2 M k l v) := by
  refine ⟨by unfold set2; rw [List.length_set]; exact V.len, fun r hr => ?_⟩
  rcases List.mem_or_eq_of_mem_set hr with hr | rfl
  · exact V.row r hr
  · rw [List.length_set]; exact V.rlen h0 h1
theorem mul_set2 (V : Sq n M) (h0 : 0 ≤ k) (h1 : k < n) (h2 : 0 ≤ l) (h3 : l < n) (hi : 0 ≤ i) (hj : 0 ≤ j) : mul (set2 M k l v) i j = if i = k ∧ j = l then v else mul M i j := by
  unfold mul set2
  rw [ix_set h0 (by rw [V.len]; exact h1) hi]
  by_cases e : i = k
  · subst e
    rw [if_pos rfl, ix_set h2 (by rw [V.rlen h0 h1]; exact h3) hj]
    simp
  · rw [if_neg e, if_neg (fun q => e q.1)]
theorem VT_sq {T : List (List Int)} (V : VT n T) : Sq n T := ⟨V.len, V.row⟩
end
theorem renamed_d {n : Int} {T : List (List Int)} {p : List Int} (hn : n ≤ 1000) (V : VT n T) (o : Ord n p) :
    Ok (P__law_renamed T p) (fun S => VT n S ∧ ∀ x y, 0 ≤ x → x < n → 0 ≤ y → y < n → mul S (ix p x) (ix p y) = ix p (mul T x y)) := by
  have n0 := V.n0
  unfold P__law_renamed
  rw [V.len]
  simp only [pRng_ok n0 (show n ≤ 16777216 by omega), bind_ok, bind_pure]
  rw [pMap_tab (f := fun _ _ => 0) n0 (by omega) (fun _ _ _ _ _ _ => rfl), bind_ok]
  refine Ok.bind (Ok.fold_rng (fun k M => Sq n M ∧ ∀ x y, 0 ≤ x → x < n → 0 ≤ y → y < n → x < k → mul M (ix p x) (ix p y) = ix p (mul T x y)) n0 ⟨VT_sq (VT_tab (f := fun _ _ => 0) n0 (fun _ _ _ _ _ _ => ⟨by omega, by omega⟩)), fun x y _ _ _ _ h => by omega⟩ (fun k M hk hk' hM => ?_) fun _ h => h) fun M hM => ?_
  · obtain ⟨sq, hM⟩ := hM
    refine Ok.fold_rng (fun l M => Sq n M ∧ ∀ x y, 0 ≤ x → x < n → 0 ≤ y → y < n → (x < k ∨ (x = k ∧ y < l)) → mul M (ix p x) (ix p y) = ix p (mul T x y)) n0 ⟨sq, fun x y h1 h2 h3 h4 h5 => hM x y h1 h2 h3 h4 (by omega)⟩ (fun l M hl hl' hM => ?_) fun M hM => ⟨hM.1, fun x y h1 h2 h3 h4 h5 => hM.2 x y h1 h2 h3 h4 (by omega)⟩
    obtain ⟨sq, hM⟩ := hM
    have m1 := V.lt hk hk' hl hl'
    have a1 := o.at_ hk hk'
    have a2 := o.at_ hl hl'
    rw [V.at1 hk hk', bind_ok, V.at2 hk hk' hl hl', bind_ok, pAt_ok m1.1 (by rw [o.len]; exact m1.2), bind_ok, pAt_ok hk (by rw [o.len]; exact hk'), bind_ok, pAt_ok hl (by rw [o.len]; exact hl'), bind_ok,
      pSet2_ok sq a1.1 a1.2 a2.1 a2.2, pNX_ok]
    refine Ok.pure ⟨sq.set a1.1 a1.2, fun x y h1 h2 h3 h4 h5 => ?_⟩
    have b1 := o.at_ h1 h2
    have b2 := o.at_ h3 h4
    rw [mul_set2 sq a1.1 a1.2 a2.1 a2.2 b1.1 b2.1]
    by_cases e : x = k ∧ y = l
    · obtain ⟨rfl, rfl⟩ := e
      rw [if_pos ⟨rfl, rfl⟩]
    · rw [if_neg fun q => e ⟨o.inj x k h1 h2 hk hk' q.1, o.inj y l h3 h4 hl hl' q.2⟩]
      exact hM x y h1 h2 h3 h4 (by omega)
  · obtain ⟨sq, hM⟩ := hM
    have hb : big = 16777216 := rfl
    have hl := sq.len
    rw [pMap_ok (fun r => r) (by omega) (fun _ _ => rfl)]
    refine Ok.pure ?_
    rw [List.map_id']
    refine ⟨⟨sq.len, sq.row, fun r hr v hv => ?_⟩, fun x y h1 h2 h3 h4 => hM x y h1 h2 h3 h4 h2⟩
    obtain ⟨i, i0, i1, rfl⟩ := mem_ix hr
    obtain ⟨j, j0, j1, rfl⟩ := mem_ix hv
    rw [sq.len] at i1
    rw [sq.rlen i0 i1] at j1
    obtain ⟨x, x0, x1, rfl⟩ := o.sur i i0 i1
    obtain ⟨y, y0, y1, rfl⟩ := o.sur j j0 j1
    show 0 ≤ mul M (ix p x) (ix p y) ∧ mul M (ix p x) (ix p y) < n
    rw [hM x y x0 x1 y0 y1 x1]
    have m1 := V.lt x0 x1 y0 y1
    exact o.at_ m1.1 m1.2
/-- .. keeps what the brackets say -/
theorem renamed_asc {n : Int} {S T : List (List Int)} {p : List Int} (V : VT n T) (o : Ord n p) (h : ∀ x y, 0 ≤ x → x < n → 0 ≤ y → y < n → mul S (ix p x) (ix p y) = ix p (mul T x y)) (a : Asc n (mul T)) : Asc n (mul S) := by
  intro x y z h1 h2 h3 h4 h5 h6
  obtain ⟨x, x0, x1, rfl⟩ := o.sur x h1 h2
  obtain ⟨y, y0, y1, rfl⟩ := o.sur y h3 h4
  obtain ⟨z, z0, z1, rfl⟩ := o.sur z h5 h6
  have m1 := V.lt x0 x1 y0 y1
  have m2 := V.lt y0 y1 z0 z1
  rw [h x y x0 x1 y0 y1, h y z y0 y1 z0 z1, h _ z m1.1 m1.2 z0 z1, h x _ x0 x1 m2.1 m2.2, a x y z x0 x1 y0 y1 z0 z1]
end LAW
namespace LAW
open DL PySem L2
/-- a semigroup's table of at most so many elements -/
def SG (most : Int) (T : List (List Int)) : Prop := ∃ n, 1 ≤ n ∧ n ≤ most ∧ VT n T ∧ Asc n (mul T)
theorem SG_tab {n most : Int} {f : Int → Int → Int} (h1 : 1 ≤ n) (h2 : n ≤ most) (hc : ∀ x y, 0 ≤ x → x < n → 0 ≤ y → y < n → 0 ≤ f x y ∧ f x y < n) (h : Asc n f) : SG most (tab n f) :=
  ⟨n, h1, h2, VT_tab (by omega) hc, Asc_tab h hc⟩
def red (n i p k : Int) : Int := if k > n then i + (k - i) % p else k
theorem red_add {n i p a b : Int} (hp : 0 < p) (hn : n = i + p - 1) (hi : 1 ≤ i) (ha : 1 ≤ a) (hb : 1 ≤ b) : red n i p (red n i p a + b) = red n i p (a + b) := by
  unfold red
  by_cases h : a > n
  · rw [if_pos h]
    have m1 := Int.emod_nonneg (a - i) (show p ≠ 0 by omega)
    have m2 := Int.emod_lt_of_pos (a - i) hp
    rw [if_pos (show a + b > n by omega)]
    have e : (a + b - i) % p = ((a - i) % p + b) % p := by rw [Int.emod_add_emod, show a - i + b = a + b - i by omega]
    by_cases h2 : i + (a - i) % p + b > n
    · rw [if_pos h2, e, show i + (a - i) % p + b - i = (a - i) % p + b by omega]
    · rw [if_neg h2, e, Int.emod_eq_of_lt (a := (a - i) % p + b) (b := p) (by omega) (by omega)]
      omega
  · rw [if_neg h]
theorem red_rng {n i p k : Int} (hp : 0 < p) (hn : n = i + p - 1) (hi : 1 ≤ i) (hk : 1 ≤ k) : 1 ≤ red n i p k ∧ red n i p k ≤ n := by
  unfold red
  have m1 := Int.emod_nonneg (k - i) (show p ≠ 0 by omega)
  have m2 := Int.emod_lt_of_pos (k - i) hp
  split <;> omega
theorem monogenic_d {most : Int} (h0 : 1 ≤ most) (h1 : most ≤ 1000) : Draw (fun r => P__law_monogenic r most) (SG most) := by
  intro r hr
  unfold P__law_monogenic
  refine Ok.bind (Ok.bind (take_d (m := most) (by omega) (by omega) r hr) fun c hc => Ok.pure (a := (1 + c.1, c.2)) (Q := fun p => (1 ≤ p.1 ∧ p.1 ≤ most) ∧ StOk p.2) ⟨⟨by omega, by omega⟩, hc.2⟩) fun c hc => ?_
  obtain ⟨n, r⟩ := c
  obtain ⟨⟨n1, n2⟩, hr⟩ := hc
  simp only at n1 n2 hr ⊢
  refine Ok.bind (Ok.bind (take_d (m := n) (by omega) (by omega) r hr) fun c hc => Ok.pure (a := (1 + c.1, c.2)) (Q := fun p => (1 ≤ p.1 ∧ p.1 ≤ n) ∧ StOk p.2) ⟨⟨by omega, by omega⟩, hc.2⟩) fun c hc => ?_
  obtain ⟨p, r⟩ := c
  obtain ⟨⟨p1, p2⟩, hr⟩ := hc
  simp only at p1 p2 hr ⊢
  simp only [pRng_ok (show 0 ≤ n by omega) (show n ≤ 16777216 by omega), bind_ok, bind_pure]
  have hin : ∀ x, 0 ≤ x → pfold (fun (x133 : Int) (a134 : List Int) => (if decide (x + x133 + 2 > n) = true then (pMod (x + x133 + 2 - (n + 1 - p)) p).bind fun c139 => M.ok (n + 1 - p + c139) else M.ok (x + x133 + 2)).bind fun a141 => pApp a134 (a141 - 1)) (rng n) [] = .ok ((rng n).map fun y => red n (n + 1 - p) p (x + y + 2) - 1) := by
    intro x hx
    rw [pfold_app (fun y => red n (n + 1 - p) p (x + y + 2) - 1) (rng n) [] (by simp; omega) fun y hy a ha => ?_]
    · simp
    · rw [mem_rng] at hy
      unfold red
      by_cases h : x + y + 2 > n
      · simp only [h, decide_true, if_true]
        rw [pMod_ok (by omega)]
        simp only [bind_ok]
        rw [pApp_ok ha]
      · simp only [h, decide_false, if_false]
        simp only [Bool.false_eq_true, if_false, bind_ok]
        rw [pApp_ok ha]
  rw [pfold_app (fun x => (rng n).map fun y => red n (n + 1 - p) p (x + y + 2) - 1) (rng n) [] (by simp; omega) fun x hx a ha => by
    rw [mem_rng] at hx
    rw [hin x hx.1, bind_ok, pApp_ok ha]]
  refine Ok.pure ⟨?_, hr⟩
  refine SG_tab (f := fun x y => red n (n + 1 - p) p (x + y + 2) - 1) n1 n2 (fun x y hx hx' hy hy' => ?_) (fun x y z hx hx' hy hy' hz hz' => ?_)
  · have := red_rng (n := n) (i := n + 1 - p) (p := p) (k := x + y + 2) (by omega) (by omega) (by omega) (by omega)
    omega
  · have a1 := red_add (n := n) (i := n + 1 - p) (p := p) (a := x + y + 2) (b := z + 1) (by omega) (by omega) (by omega) (by omega) (by omega)
    have a2 := red_add (n := n) (i := n + 1 - p) (p := p) (a := y + z + 2) (b := x + 1) (by omega) (by omega) (by omega) (by omega) (by omega)
    show red _ _ _ (red _ _ _ (x + y + 2) - 1 + z + 2) - 1 = red _ _ _ (x + (red _ _ _ (y + z + 2) - 1) + 2) - 1
    rw [show red n (n + 1 - p) p (x + y + 2) - 1 + z + 2 = red n (n + 1 - p) p (x + y + 2) + (z + 1) by omega, a1,
      show x + (red n (n + 1 - p) p (y + z + 2) - 1) + 2 = red n (n + 1 - p) p (y + z + 2) + (x + 1) by omega, a2]
    congr 2; omega
def lists {α : Type} (xs : List α) : Nat → List (List α)
  | 0 => [[]]
  | k + 1 => (lists xs k).flatMap fun l => xs.map fun x => x :: l
theorem mem_lists {α : Type} {xs : List α} : ∀ {l : List α}, (∀ x ∈ l, x ∈ xs) → l ∈ lists xs l.length
  | [], _ => by simp [lists]
  | x :: l, h => by
    simp only [List.length_cons, lists, List.mem_flatMap, List.mem_map]
    exact ⟨l, mem_lists fun y hy => h y (List.mem_cons_of_mem _ hy), x, h x List.mem_cons_self, rfl⟩
def sgB (most : Int) (T : List (List Int)) : Bool :=
  let n : Int := T.length
  decide (1 ≤ n) && (decide (n ≤ most) && (T.all (fun r => decide ((r.length : Int) = n) && r.all fun x => decide (0 ≤ x) && decide (x < n)) && (rng n).all fun x => (rng n).all fun y => (rng n).all fun z => decide (mul T (mul T x y) z = mul T x (mul T y z))))
theorem sgB_ok {most : Int} {T : List (List Int)} (h : sgB most T = true) : SG most T := by
  unfold sgB at h
  simp only [Bool.and_eq_true, decide_eq_true_eq, List.all_eq_true] at h
  obtain ⟨h1, h2, h3, h4⟩ := h
  refine ⟨T.length, h1, h2, ⟨rfl, fun r hr => (h3 r hr).1, fun r hr x hx => (h3 r hr).2 x hx⟩, fun x y z hx hx' hy hy' hz hz' => h4 x (mem_rng.mpr ⟨hx, hx'⟩) y (mem_rng.mpr ⟨hy, hy'⟩) z (mem_rng.mpr ⟨hz, hz'⟩)⟩
def okB (most : Int) (o : M (List (List Int))) : Bool := match o with
  | .ok T => sgB most T
  | _ => false
theorem okB_ok {most : Int} {o : M (List (List Int))} (h : okB most o = true) : Ok o (SG most) := by
  unfold okB at h
  split at h
  · exact Ok.pure (sgB_ok h)
  · cases h
def tripB (a b g : Int) (z : Bool) : Bool := (lists (lists (rng g) a.toNat) b.toNat).all fun tw => (lists (lists [false, true] a.toNat) b.toNat).all fun ho => okB (a * b * g + if z = true then 1 else 0) (P__law_triples a b g tw ho z)
theorem trip_all : ([(1, 1, 1), (1, 1, 2), (1, 2, 1), (2, 1, 1), (1, 2, 2), (2, 1, 2), (2, 2, 1)] : List (Int × Int × Int)).all (fun q => tripB q.1 q.2.1 q.2.2 true && tripB q.1 q.2.1 q.2.2 false) = true := by decide +kernel
end LAW
namespace LAW
open DL PySem L2
theorem mem_lists2 {α : Type} {xs : List α} {k : Nat} {l : List α} (hl : l.length = k) (h : ∀ x ∈ l, x ∈ xs) : l ∈ lists xs k := by subst hl; exact mem_lists h
theorem trip_ok {a b g : Int} {tw : List (List Int)} {ho : List (List Bool)} {z : Bool} (hq : (a, b, g) ∈ ([(1, 1, 1), (1, 1, 2), (1, 2, 1), (2, 1, 1), (1, 2, 2), (2, 1, 2), (2, 2, 1)] : List (Int × Int × Int)))
    (h1 : tw.length = b.toNat ∧ ∀ r ∈ tw, r.length = a.toNat ∧ ∀ x ∈ r, 0 ≤ x ∧ x < g) (h2 : ho.length = b.toNat ∧ ∀ r ∈ ho, r.length = a.toNat) : Ok (P__law_triples a b g tw ho z) (SG (a * b * g + if z = true then 1 else 0)) := by
  have h := List.all_eq_true.mp trip_all _ hq
  simp only [Bool.and_eq_true] at h
  have h : tripB a b g z = true := by cases z <;> simp [h]
  unfold tripB at h
  rw [List.all_eq_true] at h
  have h := h tw (mem_lists2 h1.1 fun r hr => mem_lists2 (h1.2 r hr).1 fun x hx => mem_rng.mpr ((h1.2 r hr).2 x hx))
  rw [List.all_eq_true] at h
  exact okB_ok (h ho (mem_lists2 h2.1 fun r hr => mem_lists2 (h2.2 r hr) fun x _ => by cases x <;> simp))
theorem SG.le {m k : Int} {T : List (List Int)} (h : SG m T) (hk : m ≤ k) : SG k T := by obtain ⟨n, h1, h2, h3⟩ := h; exact ⟨n, h1, by omega, h3⟩
theorem blocks_d {most : Int} (h0 : 1 ≤ most) (h1 : most ≤ 7) : Draw (fun r => P__law_blocks r most) (SG most) := by
  intro r hr
  unfold P__law_blocks
  have two : ∀ r, StOk r → Ok ((P__law_take r 2).bind fun c => M.ok (1 + c.1, c.2)) (fun p => (p.1 = 1 ∨ p.1 = 2) ∧ StOk p.2) := fun r hr =>
    Ok.bind (take_d (m := 2) (by decide) (by decide) r hr) fun c hc => Ok.pure ⟨by have := hc.1; simp only; omega, hc.2⟩
  refine (two r hr).bind fun c hc => ?_
  obtain ⟨a, r⟩ := c
  obtain ⟨ha, hr⟩ := hc
  refine (two r hr).bind fun c hc => ?_
  obtain ⟨b, r⟩ := c
  obtain ⟨hb, hr⟩ := hc
  refine (two r hr).bind fun c hc => ?_
  obtain ⟨g, r⟩ := c
  obtain ⟨hg, hr⟩ := hc
  simp only at ha hb hg hr ⊢
  have e1 : pMul a b = .ok (a * b) := pMul_ok (by rcases ha with rfl | rfl <;> decide)
  have e2 : pMul (a * b) g = .ok (a * b * g) := pMul_ok2 (by rcases hg with rfl | rfl <;> decide)
  simp only [e1, e2, bind_ok]
  refine Ok.bind (P := fun q : Int × Int × Int => q ∈ ([(1, 1, 1), (1, 1, 2), (1, 2, 1), (2, 1, 1), (1, 2, 2), (2, 1, 2), (2, 2, 1)] : List (Int × Int × Int)) ∧ q.1 * q.2.1 * q.2.2 ≤ most) ?_ fun q hq => ?_
  · by_cases hm : a * b * g + 1 > most
    · simp only [hm, decide_true, if_true]
      by_cases h2 : most < 2
      · rw [if_pos h2]
        have : most = 1 := by omega
        subst this
        exact Ok.pure (by decide)
      · rw [if_neg h2]
        exact Ok.pure ⟨by decide, by show (1 : Int) * 1 * 2 ≤ most; omega⟩
    · simp only [hm, decide_false]
      refine Ok.pure ?_
      rcases ha with rfl | rfl <;> rcases hb with rfl | rfl <;> rcases hg with rfl | rfl <;> simp at hm ⊢ <;> omega
  · obtain ⟨a, b, g⟩ := q
    obtain ⟨hq, hle⟩ := hq
    simp only at hle ⊢
    clear ha hb hg two
    have hbd : (1 ≤ a ∧ a ≤ 2) ∧ (1 ≤ b ∧ b ≤ 2) ∧ (1 ≤ g ∧ g ≤ 2) ∧ a * b ≤ 4 := by
      simp at hq
      rcases hq with h | h | h | h | h | h | h <;> obtain ⟨rfl, rfl, rfl⟩ := h <;> decide
    have eab : pMul a b = .ok (a * b) := pMul_ok (by omega)
    have eabg : pMul (a * b) g = .ok (a * b * g) := pMul_ok2 (by omega)
    simp only [pRng_ok (show 0 ≤ a by omega) (show a ≤ 16777216 by omega), pRng_ok (show 0 ≤ b by omega) (show b ≤ 16777216 by omega), bind_ok]
    refine Ok.bind (pMapS_draw (Q := fun row : List Int => row.length = (rng a).length ∧ ∀ x ∈ row, 0 ≤ x ∧ x < g) (by simp; omega) (fun _ _ => pMapS_draw (by simp; omega) fun _ _ => take_d (by omega) (by omega)) r hr) fun tw htw => ?_
    refine Ok.bind (pMapS_draw (Q := fun row : List Bool => row.length = (rng a).length ∧ ∀ x ∈ row, True) (by simp; omega) (fun _ _ => pMapS_draw (by simp; omega) fun _ _ => ?_) tw.2 htw.2) fun ho hho => ?_
    · intro r hr
      exact Ok.bind (take_d (m := 3) (by decide) (by decide) r hr) fun c hc => Ok.pure ⟨trivial, hc.2⟩
    refine Ok.bind (P := fun z : Bool × List Int => (z.1 = true → a * b * g < most) ∧ StOk z.2) ?_ fun z hz => ?_
    · refine Ok.bind (Ok.bind (take_d (m := 2) (by decide) (by decide) ho.2 hho.2) fun c hc => Ok.pure (Q := fun p : Bool × List Int => StOk p.2) hc.2) fun c hc => ?_
      rw [eab, bind_ok, eabg]
      simp only [bind_ok]
      refine Ok.ite (fun _ => Ok.pure ⟨fun h => by simpa using h, hc⟩) (fun _ => Ok.pure ⟨(fun h => by cases h), hc⟩)
    · have ht := htw.1
      have hh := hho.1
      simp only [len_rng] at ht hh
      refine Ok.bind (trip_ok (z := z.1) hq ht ⟨hh.1, fun r hr => (hh.2 r hr).1⟩) fun T hT => Ok.pure ⟨?_, hz.2⟩
      refine hT.le ?_
      have := hz.1
      cases hzz : z.1 with
      | true => have := this hzz; simp; omega
      | false => simp; omega
end LAW
namespace LAW
open DL PySem L2
def after (f g : List Int) : List Int := f.map fun x => ix g x
structure Mp (k : Int) (f : List Int) : Prop where
  len : (f.length : Int) = k
  ent : ∀ x ∈ f, 0 ≤ x ∧ x < k
theorem after_mp {k : Int} {f g : List Int} (a : Mp k f) (b : Mp k g) : Mp k (after f g) := by
  refine ⟨by simp [after, a.len], fun x hx => ?_⟩
  obtain ⟨y, hy, rfl⟩ := List.mem_map.mp hx
  have := a.ent y hy
  exact b.ent _ (ix_mem this.1 (by rw [b.len]; exact this.2))
theorem after_assoc {k : Int} {f g h : List Int} (a : Mp k f) (b : Mp k g) : after (after f g) h = after f (after g h) := by
  unfold after
  rw [List.map_map]
  apply List.map_congr_left
  intro x hx
  have := a.ent x hx
  simp only [Function.comp]
  rw [ix_map this.1 (by rw [b.len]; exact this.2)]
theorem after_ok {k : Int} {f g : List Int} (hk : k ≤ 1000) (a : Mp k f) (b : Mp k g) : P__law_after f g = .ok (after f g) := by
  unfold P__law_after
  have := a.len
  have hb : big = 16777216 := rfl
  simp only [bind_pure]
  exact pMap_ok (fun x => ix g x) (by omega) fun x hx => pAt_ok (a.ent x hx).1 (by rw [b.len]; exact (a.ent x hx).2)
inductive Gen (G : List (List Int)) : List Int → Prop
  | one {g : List Int} : g ∈ G → Gen G g
  | step {f g : List Int} : Gen G f → g ∈ G → Gen G (after f g)
structure Cl (k : Int) (G F : List (List Int)) : Prop where
  ne : F ≠ []
  mp : ∀ f ∈ F, Mp k f
  gen : ∀ f ∈ F, Gen G f
def Closed (G F : List (List Int)) : Prop := ∀ f ∈ F, ∀ g ∈ G, after f g ∈ F
theorem gen_mp {k : Int} {G : List (List Int)} (h : ∀ g ∈ G, Mp k g) {f : List Int} (q : Gen G f) : Mp k f := by
  induction q with
  | one hg => exact h _ hg
  | step _ hg ih => exact after_mp ih (h _ hg)
/-- one turn -/
theorem turn_d {k : Int} {G F : List (List Int)} (hk : k ≤ 1000) (hG : ∀ g ∈ G, Mp k g) (hF : Cl k G F) (hl : F.length ≤ 1000) :
    Ok (pfold (fun (x105 : List Int) (a106 : List (List Int)) => pfold (fun (x116 : List Int) (a117 : List (List Int)) => (P__law_after x105 x116).bind fun c120 => if ((!has c120 a117) && decide ((a117.length : Int) < 30)) = true then pApp a117 c120 else .ok a117) G a106) F F)
      (fun F' => Cl k G F' ∧ (∃ E, F' = F ++ E) ∧ (∀ f ∈ F, ∀ g ∈ G, after f g ∈ F' ∨ 30 ≤ F'.length) ∧ (Closed G F → F' = F) ∧ (F'.length ≤ 30 ∨ F'.length = F.length)) := by
  refine Ok.fold (fun p F' => Cl k G F' ∧ (∃ E, F' = F ++ E) ∧ (∀ f ∈ p, ∀ g ∈ G, after f g ∈ F' ∨ 30 ≤ F'.length) ∧ (Closed G F → F' = F) ∧ (F'.length ≤ 30 ∨ F'.length = F.length)) ⟨hF, ⟨[], by simp⟩, (fun _ h => by cases h), fun _ => rfl, .inr rfl⟩ (fun p f q A e hA => ?_) fun b h => h
  have hf : f ∈ F := by rw [e]; simp
  refine Ok.imp (Ok.fold (fun p2 F' => Cl k G F' ∧ (∃ E, F' = F ++ E) ∧ (∀ f ∈ p, ∀ g ∈ G, after f g ∈ F' ∨ 30 ≤ F'.length) ∧ (Closed G F → F' = F) ∧ (F'.length ≤ 30 ∨ F'.length = F.length) ∧ (∀ g ∈ p2, after f g ∈ F' ∨ 30 ≤ F'.length))
    ⟨hA.1, hA.2.1, hA.2.2.1, hA.2.2.2.1, hA.2.2.2.2, fun _ h => by cases h⟩ (fun p2 g q2 B e2 hB => ?_) fun b h => h) fun F' hF' => ?_
  · obtain ⟨b1, ⟨E, b2⟩, b3, b4, b5, b6⟩ := hB
    have hg : g ∈ G := by rw [e2]; simp
    have mf : Mp k f := hF.mp f hf
    rw [after_ok hk mf (hG g hg), bind_ok]
    by_cases hc : ((!has (after f g) B) && decide ((B.length : Int) < 30)) = true
    · rw [if_pos hc]
      simp only [Bool.and_eq_true, Bool.not_eq_true', has_eq, decide_eq_false_iff_not, decide_eq_true_eq] at hc
      rw [pApp_ok (by omega)]
      refine Ok.pure ⟨⟨by simp, fun x hx => ?_, fun x hx => ?_⟩, ⟨E ++ [after f g], by rw [b2]; simp⟩, fun x hx y hy => ?_, fun h => ?_, ?_, fun y hy => ?_⟩
      · rcases List.mem_append.mp hx with hx | hx
        · exact b1.mp x hx
        · rw [List.mem_singleton.mp hx]; exact after_mp mf (hG g hg)
      · rcases List.mem_append.mp hx with hx | hx
        · exact b1.gen x hx
        · rw [List.mem_singleton.mp hx]; exact .step (hF.gen f hf) hg
      · rcases b3 x hx y hy with h | h
        · exact .inl (List.mem_append_left _ h)
        · exact .inr (by simp; omega)
      · have := h f hf g hg
        rw [b4 h] at hc
        exact absurd this hc.1
      · left; simp; omega
      · rcases List.mem_append.mp hy with hy | hy
        · rcases b6 y hy with h | h
          · exact .inl (List.mem_append_left _ h)
          · exact .inr (by simp; omega)
        · rw [List.mem_singleton.mp hy]; exact .inl (by simp)
    · rw [if_neg hc]
      refine Ok.pure ⟨b1, ⟨E, b2⟩, b3, b4, b5, fun y hy => ?_⟩
      rcases List.mem_append.mp hy with hy | hy
      · exact b6 y hy
      · rw [List.mem_singleton.mp hy]
        by_cases hm : after f g ∈ B
        · exact .inl hm
        · right
          simp only [has_eq, hm, decide_false, Bool.not_false, Bool.true_and, decide_eq_true_eq] at hc
          omega
  · obtain ⟨b1, b2, b3, b4, b5, b6⟩ := hF'
    refine ⟨b1, b2, fun x hx y hy => ?_, b4, b5⟩
    rcases List.mem_append.mp hx with hx | hx
    · exact b3 x hx y hy
    · rw [List.mem_singleton.mp hx]; exact b6 y hy
theorem closed_d {k : Int} {G : List (List Int)} (hk : k ≤ 1000) (hG : ∀ g ∈ G, Mp k g) (hne : G ≠ []) (hl : G.length ≤ 20) : Ok (P__law_closed G) (fun F => Cl k G F ∧ (30 ≤ F.length ∨ Closed G F)) := by
  unfold P__law_closed
  simp only [bind_pure]
  refine Ok.bind (Ok.fold (fun p F => (∀ f ∈ F, f ∈ p) ∧ F.length ≤ p.length ∧ (p ≠ [] → F ≠ [])) ⟨(fun _ h => by cases h), Nat.le_refl _, fun h => absurd rfl h⟩ (fun p x q a e ha => ?_) fun b h => h) fun F hF => ?_
  · have hpl : p.length < 20 := by rw [e] at hl; simp at hl; omega
    by_cases hc : (!has x a) = true
    · rw [if_pos hc, pApp_ok (by omega)]
      refine Ok.pure ⟨fun f hf => ?_, by simp; omega, fun _ => by simp⟩
      rcases List.mem_append.mp hf with hf | hf
      · exact List.mem_append_left _ (ha.1 f hf)
      · exact List.mem_append_right _ hf
    · rw [if_neg hc]
      refine Ok.pure ⟨fun f hf => List.mem_append_left _ (ha.1 f hf), by simp; omega, fun _ h => ?_⟩
      subst h
      simp [has_eq] at hc
  · have c0 : Cl k G F := ⟨hF.2.2 hne, fun f hf => hG f (hF.1 f hf), fun f hf => .one (hF.1 f hf)⟩
    rw [pRng_ok (by decide) (by decide), bind_ok]
    have hne' := c0.ne
    refine Ok.imp (Ok.fold_rng (fun r A => Cl k G A ∧ A.length ≤ 1000 ∧ (30 ≤ A.length ∨ Closed G A ∨ r + 1 ≤ (A.length : Int))) (by decide) ⟨c0, by omega, .inr (.inr (by have := List.length_pos_iff.mpr hne'; omega))⟩ (fun r A hr hr' hA => ?_) fun b h => h) fun A hA => ?_
    · refine Ok.imp (turn_d hk hG hA.1 hA.2.1) fun B hB => ?_
      obtain ⟨b1, ⟨E, b2⟩, b3, b4, b5⟩ := hB
      have hlen : B.length = A.length + E.length := by rw [b2]; simp
      refine ⟨b1, by rcases b5 with h | h <;> omega, ?_⟩
      rcases hA.2.2 with h | h | h
      · left; omega
      · right; left; rw [b4 h]; exact h
      · by_cases hE : E = []
        · subst hE
          have : B = A := by rw [b2]; simp
          subst this
          by_cases h30 : 30 ≤ B.length
          · exact .inl h30
          · right; left
            intro f hf g hg
            rcases b3 f hf g hg with q | q
            · exact q
            · exact absurd q h30
        · have := List.length_pos_iff.mpr hE
          right; right; omega
    · refine ⟨hA.1, ?_⟩
      rcases hA.2.2 with h | h | h
      · exact .inl h
      · exact .inr h
      · left; omega
/-- what is closed holds all products -/
theorem closed_all {k : Int} {G F : List (List Int)} (hG : ∀ g ∈ G, Mp k g) (hF : Cl k G F) (hc : Closed G F) : ∀ f ∈ F, ∀ g ∈ F, after f g ∈ F := by
  intro f hf g hg
  have hq := hF.gen g hg
  clear hg
  induction hq generalizing f with
  | one h => exact hc f hf _ h
  | step q h ih =>
    rename_i g1 g2
    rw [← after_assoc (hF.mp f hf) (gen_mp hG q)]
    exact hc _ (ih f hf) _ h
/-- the table of maps that are closed -/
theorem maps_tab {k most : Int} {F : List (List Int)} (hk : k ≤ 1000) (hm : most ≤ 1000) (hne : F ≠ []) (hl : (F.length : Int) ≤ most) (hF : ∀ f ∈ F, Mp k f) (hc : ∀ f ∈ F, ∀ g ∈ F, after f g ∈ F) :
    Ok (pMap (fun (x69 : List Int) => pMap (fun (x70 : List Int) => (P__law_after x69 x70).bind fun c71 => pIndex F c71) F) F) (SG most) := by
  have hb : big = 16777216 := rfl
  have e : pMap (fun (x69 : List Int) => pMap (fun (x70 : List Int) => (P__law_after x69 x70).bind fun c71 => pIndex F c71) F) F = .ok (tab F.length fun i j => idx F (after (ix F i) (ix F j))) := by
    rw [pMap_ok (fun f => F.map fun g => idx F (after f g)) (by omega) fun f hf => ?_]
    · unfold tab
      rw [map_rng]
      congr 1
      apply List.map_congr_left
      intro i hi
      rw [map_rng]
    · refine pMap_ok (fun g => idx F (after f g)) (by omega) fun g hg => ?_
      rw [after_ok hk (hF f hf) (hF g hg), bind_ok, pIndex_ok (hc f hf g hg)]
  refine Ok.of e ?_
  have hpos := List.length_pos_iff.mpr hne
  have at_ : ∀ i : Int, 0 ≤ i → i < F.length → ix F i ∈ F := fun i h0 h1 => ix_mem h0 h1
  refine SG_tab (by omega) hl (fun x y hx hx' hy hy' => ?_) (fun x y z hx hx' hy hy' hz hz' => ?_)
  · exact idx_lt (hc _ (at_ x hx hx') _ (at_ y hy hy'))
  · rw [ix_idx (hc _ (at_ x hx hx') _ (at_ y hy hy')), ix_idx (hc _ (at_ y hy hy') _ (at_ z hz hz')), after_assoc (hF _ (at_ x hx hx')) (hF _ (at_ y hy hy'))]
theorem of_maps_d {most : Int} (h0 : 1 ≤ most) (h1 : most < 30) : Draw (fun r => P__law_of_maps r most) (SG most) := by
  intro r hr
  unfold P__law_of_maps
  simp only [bind_bind, bind_ok, bind_pure]
  refine (take_d (m := 2) (by decide) (by decide) r hr).bind fun c hc => ?_
  obtain ⟨d, r⟩ := c
  obtain ⟨hd, hr⟩ := hc
  simp only at hd hr ⊢
  obtain ⟨k, rfl⟩ : ∃ k, d = k - 2 := ⟨d + 2, by omega⟩
  simp only [show 2 + (k - 2) = k by omega]
  have hk : 2 ≤ k ∧ k ≤ 3 := by omega
  refine (take_d (m := 2) (by decide) (by decide) r hr).bind fun c hc => ?_
  obtain ⟨d, r⟩ := c
  obtain ⟨hd, hr⟩ := hc
  simp only at hd hr ⊢
  simp only [pRng_ok (show 0 ≤ 1 + d by omega) (show 1 + d ≤ 16777216 by omega), pRng_ok (show 0 ≤ k by omega) (show k ≤ 16777216 by omega), bind_ok]
  refine Ok.bind (Ok.fold_rng (fun i (a : List Int × List (List Int)) => StOk a.1 ∧ (a.2.length : Int) = i ∧ ∀ g ∈ a.2, Mp k g) (by omega) ⟨hr, rfl, fun _ h => by cases h⟩ (fun i a hi hi' ha => ?_) fun b h => h) fun a ha => ?_
  · refine (pMapS_draw (Q := fun x => 0 ≤ x ∧ x < k) (by simp; omega) (fun _ _ => take_d (by omega) (by omega)) a.1 ha.1).bind fun m hm => ?_
    rw [pApp_ok (by have := ha.2.1; omega), bind_ok]
    refine Ok.pure ⟨hm.2, by have := ha.2.1; simp; omega, fun g hg => ?_⟩
    rcases List.mem_append.mp hg with hg | hg
    · exact ha.2.2 g hg
    · rw [List.mem_singleton.mp hg]
      exact ⟨by have := hm.1.1; simp at this; omega, hm.1.2⟩
  · obtain ⟨r, G⟩ := a
    obtain ⟨hr, hl, hG⟩ := ha
    simp only at hr hl hG ⊢
    have hne : G ≠ [] := by intro h; subst h; simp at hl; omega
    refine (closed_d (by omega) hG hne (by omega)).bind fun F hF => ?_
    -- either closed, or one map that takes all to one point
    refine Ok.bind (P := fun F : List (List Int) => F ≠ [] ∧ (∀ f ∈ F, Mp k f) ∧ ((F.length : Int) ≤ most → ∀ f ∈ F, ∀ g ∈ F, after f g ∈ F)) ?_ fun F hF => ?_
    · have fin : ∀ {G F}, (∀ g ∈ G, Mp k g) → Cl k G F → (30 ≤ F.length ∨ Closed G F) → F ≠ [] ∧ (∀ f ∈ F, Mp k f) ∧ ((F.length : Int) ≤ most → ∀ f ∈ F, ∀ g ∈ F, after f g ∈ F) := fun {G F} hG c h => ⟨c.ne, c.mp, fun hle => by
        rcases h with h | h
        · omega
        · exact closed_all hG c h⟩
      refine Ok.ite (fun _ => ?_) (fun _ => Ok.pure (fin hG hF.1 hF.2))
      have hsub : ∀ g ∈ cutD G none (some 1), Mp k g := fun g hg => hG g (by unfold cutD at hg; exact List.mem_of_mem_drop (List.mem_of_mem_take hg))
      have hn2 : cutD G none (some 1) ≠ [] ∧ (cutD G none (some 1)).length ≤ 20 := by
        cases G with
        | nil => exact absurd rfl hne
        | cons g G =>
          have : cutD (g :: G) none (some 1) = [g] := by
            unfold cutD HT.sIx
            simp
          rw [this]; simp
      refine Ok.imp (closed_d (by omega) hsub hn2.1 hn2.2) fun F hF => fin hsub hF.1 hF.2
    · refine Ok.bind (P := fun F : List (List Int) => F ≠ [] ∧ (F.length : Int) ≤ most ∧ (∀ f ∈ F, Mp k f) ∧ ∀ f ∈ F, ∀ g ∈ F, after f g ∈ F) ?_ fun F hF => ?_
      · refine Ok.ite (fun _ => ?_) (fun h => Ok.pure ⟨hF.1, by simpa using h, hF.2.1, hF.2.2 (by simpa using h)⟩)
        have g0 : Mp k (ix G 0) := hG _ (ix_mem (by decide) (by omega))
        have hv := g0.ent _ (ix_mem (xs := ix G 0) (i := 0) (by decide) (by rw [g0.len]; omega))
        have hb : big = 16777216 := rfl
        rw [pMap_ok (fun _ => ix (ix G 0) 0) (by simp; omega) (fun x _ => by rw [pAt_ok (by decide) (by omega), bind_ok, pAt_ok (by decide) (by rw [g0.len]; omega)]), bind_ok]
        have mc : Mp k ((rng k).map fun _ => ix (ix G 0) 0) := ⟨by simp; omega, fun x hx => by obtain ⟨_, _, rfl⟩ := List.mem_map.mp hx; exact hv⟩
        refine Ok.pure ⟨by simp, by simp; omega, fun f hf => ?_, fun f hf g hg => ?_⟩
        · rw [List.mem_singleton.mp hf]; exact mc
        · rw [List.mem_singleton.mp hf, List.mem_singleton.mp hg, List.mem_singleton]
          unfold after
          rw [List.map_map]
          apply List.map_congr_left
          intro x _
          simp only [Function.comp]
          rw [ix_map_rng hv.1 hv.2]
      · exact (maps_tab (by omega) (by omega) hF.1 hF.2.1 hF.2.2.1 hF.2.2.2).bind fun T hT => Ok.pure ⟨hT, hr⟩
end LAW
namespace LAW
open DL PySem L2
theorem plain_d {most : Int} (h0 : 1 ≤ most) (h1 : most ≤ 7) : Draw (fun r => P__law_plain r most) (SG most) := by
  intro r hr
  unfold P__law_plain
  simp only [bind_bind, bind_ok]
  refine (take_d (m := 8) (by decide) (by decide) r hr).bind fun c hc => ?_
  obtain ⟨pick, r⟩ := c
  obtain ⟨-, hr⟩ := hc
  simp only at hr ⊢
  refine (take_d (m := most) (by omega) (by omega) r hr).bind fun c hc => ?_
  obtain ⟨d, r⟩ := c
  obtain ⟨hd, hr⟩ := hc
  simp only at hd hr ⊢
  obtain ⟨n, rfl⟩ : ∃ n, d = n - 1 := ⟨d + 1, by omega⟩
  simp only [show 1 + (n - 1) = n by omega, pRng_ok (show 0 ≤ n by omega) (show n ≤ 16777216 by omega), bind_ok]
  refine Ok.ite (fun _ => ?_) fun _ => Ok.ite (fun _ => ?_) fun _ => Ok.ite (fun _ => ?_) fun _ => Ok.ite (fun _ => ?_) fun _ => Ok.ite (fun _ => ?_) fun _ => ?_
  · rw [pMap_tab (f := fun x _ => x) (by omega) (by omega) fun _ _ _ _ _ _ => rfl, bind_ok]
    exact Ok.pure ⟨SG_tab (by omega) (by omega) (fun x y h1 h2 _ _ => ⟨h1, h2⟩) (fun x y z _ _ _ _ _ _ => rfl), hr⟩
  · rw [pMap_tab (f := fun _ _ => 0) (by omega) (by omega) fun _ _ _ _ _ _ => rfl, bind_ok]
    exact Ok.pure ⟨SG_tab (by omega) (by omega) (fun x y h1 h2 _ _ => ⟨by omega, by omega⟩) (fun x y z _ _ _ _ _ _ => rfl), hr⟩
  · exact (monogenic_d h0 (by omega) r hr).bind fun c hc => Ok.pure hc
  · rw [pMap_tab (f := fun x y => if y < x then y else x) (by omega) (by omega) fun _ _ _ _ _ _ => rfl, bind_ok]
    refine Ok.pure ⟨SG_tab (by omega) (by omega) (fun x y h1 h2 h3 h4 => by split <;> omega) (fun x y z _ _ _ _ _ _ => ?_), hr⟩
    repeat' split
    all_goals omega
  · exact (of_maps_d h0 (by omega) r hr).bind fun c hc => Ok.pure hc
  · exact (blocks_d h0 h1 r hr).bind fun c hc => Ok.pure hc
/-- products where one number more stands -/
theorem rng_split1 {n : Int} (h : 0 ≤ n) {β : Type} (f : Int → β) : (rng (n + 1)).map f = (rng n).map f ++ [f n] := by rw [rng_succ h, List.map_append]; rfl
theorem tab_succ {n : Int} (h : 0 ≤ n) (f : Int → Int → Int) : tab (n + 1) f = ((rng n).map fun x => ((rng n).map (f x)) ++ [f x n]) ++ [(rng (n + 1)).map (f n)] := by
  unfold tab
  rw [rng_split1 h]
  congr 1
  apply List.map_congr_left
  intro x _
  exact rng_split1 h _
theorem extended_d {most : Int} {T : List (List Int)} (h1 : most ≤ 1000) (hT : SG most T) : Draw (fun r => P__law_extended r T most) (SG most) := by
  obtain ⟨n, n1, n2, V, A⟩ := hT
  intro r hr
  unfold P__law_extended
  rw [V.len]
  simp only [bind_bind, bind_ok]
  have hb : big = 16777216 := rfl
  have hlen := V.len
  have hl : (rng n).length ≤ big := by rw [len_rng]; omega
  refine (take_d (m := 6) (by decide) (by decide) r hr).bind fun c hc => ?_
  obtain ⟨pick, r⟩ := c
  obtain ⟨-, hr⟩ := hc
  simp only at hr ⊢
  simp only [pRng_ok (show 0 ≤ n by omega) (show n ≤ 16777216 by omega), pRng_ok (show 0 ≤ n + 1 by omega) (show n + 1 ≤ 16777216 by omega), pMul_ok (show (2 : Int).natAbs < 18446744073709551616 by decide), pRng_ok (show 0 ≤ 2 * n by omega) (show 2 * n ≤ 16777216 by omega), bind_ok]
  refine Ok.ite (fun _ => ?_) fun _ => Ok.ite (fun hq => ?_) fun _ => Ok.ite (fun hq => ?_) fun _ => Ok.bind (P := fun b => b = true → 2 * n ≤ most) (Ok.ite (fun _ => Ok.pure fun h => by simpa using h) fun _ => Ok.pure fun h => by cases h) fun b hb2 => Ok.ite (fun hq => ?_) fun _ => ?_
  · -- turned about
    rw [pMap_tab (f := fun x y => mul T y x) (by omega) (by omega) fun x y h1 h2 h3 h4 => by rw [V.at1 h3 h4, bind_ok, V.at2 h3 h4 h1 h2], bind_ok]
    refine Ok.pure ⟨SG_tab n1 n2 (fun x y h1 h2 h3 h4 => V.lt h3 h4 h1 h2) (fun x y z h1 h2 h3 h4 h5 h6 => ?_), hr⟩
    exact (A z y x h5 h6 h3 h4 h1 h2).symm
  · -- a zero more
    simp only [Bool.and_eq_true, decide_eq_true_eq] at hq
    rw [pMap_ok (fun row => row ++ [n]) (by omega) (fun row hrow => pCat_ok (by have := V.row row hrow; simp; omega)), bind_ok, pMap_ok (fun _ => n) (by rw [len_rng]; omega) (fun _ _ => rfl), bind_ok, pCat_ok (by simp; omega), bind_ok]
    have e : List.map (fun row => row ++ [n]) T ++ [List.map (fun _ => n) (rng (n + 1))] = tab (n + 1) (fun x y => if x = n ∨ y = n then n else mul T x y) := by
      rw [tab_succ (by omega)]
      congr 1
      · rw [map_rng, hlen]
        apply List.map_congr_left
        intro x hx
        rw [mem_rng] at hx
        rw [row_rng V hx.1 hx.2]
        congr 1
        · apply List.map_congr_left
          intro y hy
          rw [mem_rng] at hy
          rw [if_neg (by omega)]
        · simp
      · congr 1
        apply List.map_congr_left
        intro y hy
        simp
    rw [e]
    refine Ok.pure ⟨SG_tab (by omega) (by omega) (fun x y h1 h2 h3 h4 => ?_) (fun x y z h1 h2 h3 h4 h5 h6 => ?_), hr⟩
    · split
      · omega
      · have := V.lt (x := x) (y := y) h1 (by omega) h3 (by omega); omega
    · by_cases hx : x = n
      · subst hx; simp
      · by_cases hy : y = n
        · subst hy; simp
        · by_cases hz : z = n
          · subst hz; simp
          · have m1 := V.lt (x := x) (y := y) h1 (by omega) h3 (by omega)
            have m2 := V.lt (x := y) (y := z) h3 (by omega) h5 (by omega)
            have ne1 : ¬ mul T x y = n := by omega
            have ne2 : ¬ mul T y z = n := by omega
            simp only [hx, hy, hz, ne1, ne2, or_self, if_false]
            exact A x y z h1 (by omega) h3 (by omega) h5 (by omega)
  · -- a unit more
    simp only [Bool.and_eq_true, decide_eq_true_eq] at hq
    rw [pMap_ok (fun x => ix T x ++ [x]) hl (fun x hx => by
      rw [mem_rng] at hx
      rw [V.at1 hx.1 hx.2, bind_ok, pCat_ok (by have := V.rlen hx.1 hx.2; simp; omega)]), bind_ok, pCat_ok (by simp; omega), bind_ok]
    have e : List.map (fun x => ix T x ++ [x]) (rng n) ++ [rng (n + 1)] = tab (n + 1) (fun x y => if x = n then y else if y = n then x else mul T x y) := by
      rw [tab_succ (by omega)]
      congr 1
      · apply List.map_congr_left
        intro x hx
        rw [mem_rng] at hx
        rw [row_rng V hx.1 hx.2]
        congr 1
        · apply List.map_congr_left
          intro y hy
          rw [mem_rng] at hy
          rw [if_neg (by omega), if_neg (by omega)]
        · simp
      · simp
    rw [e]
    refine Ok.pure ⟨SG_tab (by omega) (by omega) (fun x y h1 h2 h3 h4 => ?_) (fun x y z h1 h2 h3 h4 h5 h6 => ?_), hr⟩
    · split
      · omega
      · split
        · omega
        · have := V.lt (x := x) (y := y) h1 (by omega) h3 (by omega); omega
    · by_cases hx : x = n
      · subst hx; simp
      · by_cases hy : y = n
        · subst hy; simp [hx]
        · by_cases hz : z = n
          · subst hz
            have m1 := V.lt (x := x) (y := y) h1 (by omega) h3 (by omega)
            simp only [hx, hy, if_false, if_true]
            rw [if_neg (by omega)]
          · have m1 := V.lt (x := x) (y := y) h1 (by omega) h3 (by omega)
            have m2 := V.lt (x := y) (y := z) h3 (by omega) h5 (by omega)
            simp only [hx, hy, hz, if_false]
            rw [if_neg (by omega), if_neg (by omega)]
            exact A x y z h1 (by omega) h3 (by omega) h5 (by omega)
  · -- doubled
    subst hq
    have h2n := hb2 rfl
    refine (take_d (m := 2) (by decide) (by decide) r hr).bind fun c hc => ?_
    refine Ok.bind (P := fun s : List (Int × Int) => s = [(0, 1), (1, 0)] ∨ s = [(0, 0), (0, 1)]) (Ok.ite (fun _ => Ok.pure (.inl rfl)) fun _ => Ok.pure (.inr rfl)) fun s hs => ?_
    have hs2 : ∀ i j : Int, (0 ≤ i ∧ i < 2) → (0 ≤ j ∧ j < 2) → ∃ q : Int × Int, pAt s i = .ok q ∧ pAt [q.1, q.2] j = .ok (if s = [(0, 1), (1, 0)] then (i + j) % 2 else i * j) := by
      intro i j hi hj
      have hi' : i = 0 ∨ i = 1 := by omega
      have hj' : j = 0 ∨ j = 1 := by omega
      rcases hs with rfl | rfl <;> rcases hi' with rfl | rfl <;> rcases hj' with rfl | rfl <;> exact ⟨_, rfl, rfl⟩
    have m2 : ∀ x : Int, 0 ≤ x % 2 ∧ x % 2 < 2 := fun x => ⟨Int.emod_nonneg _ (by decide), Int.emod_lt_of_pos _ (by decide)⟩
    rw [pMap_tab (n := 2 * n) (f := fun x y => 2 * mul T (x / 2) (y / 2) + (if s = [(0, 1), (1, 0)] then (x % 2 + y % 2) % 2 else (x % 2) * (y % 2))) (by omega) (by omega) fun x y h1 h2 h3 h4 => by
      obtain ⟨q, q1, q2⟩ := hs2 (x % 2) (y % 2) (m2 x) (m2 y)
      rw [pDiv_ok (by decide) (by decide), bind_ok, pDiv_ok (by decide) (by decide), V.at1 (by omega) (by omega), bind_ok, bind_ok, V.at2 (by omega) (by omega) (by omega) (by omega), bind_ok, pMod_ok (by decide), bind_ok, q1, bind_ok, pMod_ok (by decide), bind_ok, q2, bind_ok], bind_ok]
    have key : ∀ x y : Int, 0 ≤ x → x < 2 * n → 0 ≤ y → y < 2 * n → ∃ w : Int, (w = 0 ∨ w = 1) ∧ w = (if s = [(0, 1), (1, 0)] then (x % 2 + y % 2) % 2 else (x % 2) * (y % 2)) := fun x y _ _ _ _ => by
      refine ⟨_, ?_, rfl⟩
      have hx := m2 x
      have hy := m2 y
      have hx' : x % 2 = 0 ∨ x % 2 = 1 := by omega
      have hy' : y % 2 = 0 ∨ y % 2 = 1 := by omega
      split <;> rcases hx' with e | e <;> rcases hy' with e2 | e2 <;> rw [e, e2] <;> decide
    have cl : ∀ x y : Int, 0 ≤ x → x < 2 * n → 0 ≤ y → y < 2 * n → 0 ≤ 2 * mul T (x / 2) (y / 2) + (if s = [(0, 1), (1, 0)] then (x % 2 + y % 2) % 2 else (x % 2) * (y % 2)) ∧ 2 * mul T (x / 2) (y / 2) + (if s = [(0, 1), (1, 0)] then (x % 2 + y % 2) % 2 else (x % 2) * (y % 2)) < 2 * n := fun x y h1 h2 h3 h4 => by
      obtain ⟨w, hw, e⟩ := key x y h1 h2 h3 h4
      have := V.lt (x := x / 2) (y := y / 2) (by omega) (by omega) (by omega) (by omega)
      rw [← e]; omega
    refine Ok.pure ⟨SG_tab (by omega) h2n cl (fun x y z h1 h2 h3 h4 h5 h6 => ?_), hc.2⟩
    have d1 : ∀ x y : Int, 0 ≤ x → x < 2 * n → 0 ≤ y → y < 2 * n → (2 * mul T (x / 2) (y / 2) + (if s = [(0, 1), (1, 0)] then (x % 2 + y % 2) % 2 else (x % 2) * (y % 2))) / 2 = mul T (x / 2) (y / 2) ∧ (2 * mul T (x / 2) (y / 2) + (if s = [(0, 1), (1, 0)] then (x % 2 + y % 2) % 2 else (x % 2) * (y % 2))) % 2 = (if s = [(0, 1), (1, 0)] then (x % 2 + y % 2) % 2 else (x % 2) * (y % 2)) := fun x y h1 h2 h3 h4 => by
      obtain ⟨w, hw, e⟩ := key x y h1 h2 h3 h4
      rw [← e]; omega
    rw [(d1 x y h1 h2 h3 h4).1, (d1 x y h1 h2 h3 h4).2, (d1 y z h3 h4 h5 h6).1, (d1 y z h3 h4 h5 h6).2]
    rw [A (x / 2) (y / 2) (z / 2) (by omega) (by omega) (by omega) (by omega) (by omega) (by omega)]
    congr 1
    split
    · omega
    · exact Int.mul_assoc _ _ _
  · exact Ok.pure ⟨⟨n, n1, n2, V, A⟩, hr⟩
/-- a drawn semigroup -/
theorem semigroup_d {most : Int} (h0 : 1 ≤ most) (h1 : most ≤ 7) : Draw (fun r => P__law_semigroup r most) (SG most) := by
  intro r hr
  unfold P__law_semigroup
  simp only [bind_bind, bind_ok]
  refine (plain_d h0 h1 r hr).bind fun c hc => ?_
  refine (extended_d (by omega) hc.1 c.2 hc.2).bind fun c hc => ?_
  obtain ⟨n, n1, n2, V, A⟩ := hc.1
  rw [V.len]
  refine (order_d (by omega) (by omega) c.2 hc.2).bind fun p hp => ?_
  have o := ord_of (by omega) hp.1
  refine (renamed_d (by omega) V o).bind fun S hS => Ok.pure ⟨⟨n, n1, n2, hS.1, renamed_asc V o hS.2 A⟩, hp.2⟩
end LAW
namespace LAW
open DL PySem L2
theorem taken_d {n : Int} {T : List (List Int)} (h1 : 1 ≤ n) (h2 : n ≤ 1000) (V : VT n T) : P_taken_table T = .ok T := by
  have hlen := V.len
  have hne : ¬ ((T.length : Int) = 0) := by omega
  unfold P_taken_table
  simp only [hne, decide_false, Bool.not_true, Bool.or_false, Bool.false_eq_true, if_false, bind_pure]
  rw [pfold_app (fun r => r) T [] (by simp; omega) fun r hr a ha => ?_]
  · simp
  · have hrl := V.row r hr
    have e : ((r.length : Int) = (T.length : Int)) := by omega
    simp only [e, decide_true, Bool.not_true, Bool.or_false, Bool.false_eq_true, if_false]
    rw [pfold_const (a := ()) fun x hx => ?_, bind_ok, pApp_ok ha]
    have := V.ent r hr x hx
    have e1 : decide (0 ≤ x) = true := by simpa using this.1
    have e2 : decide (x < (T.length : Int)) = true := by simp; omega
    simp [P_is_item, P_is_integer, e1, e2]
def ascRow (n : Int) (T : List (List Int)) (r : List Int) (y : Int) : Bool := decide ((rng n).map (fun z => mul T (ix r y) z) = (ix T y).map (fun i => ix r i))
def ascB (n : Int) (T : List (List Int)) : Bool := T.all fun r => (rng n).all fun y => ascRow n T r y
theorem ascB_iff {n : Int} {T : List (List Int)} (V : VT n T) : ascB n T = true ↔ Asc n (mul T) := by
  unfold ascB ascRow
  simp only [List.all_eq_true, decide_eq_true_eq]
  have row : ∀ x y, 0 ≤ x → x < n → 0 ≤ y → y < n → ((rng n).map (fun z => mul T (ix (ix T x) y) z) = (ix T y).map (fun i => ix (ix T x) i) ↔ ∀ z, 0 ≤ z → z < n → mul T (mul T x y) z = mul T x (mul T y z)) := by
    intro x y hx hx' hy hy'
    conv => lhs; rhs; rw [row_rng V hy hy', List.map_map]
    rw [List.map_inj_left]
    constructor
    · intro h z hz hz'
      exact h z (mem_rng.mpr ⟨hz, hz'⟩)
    · intro h z hz
      rw [mem_rng] at hz
      exact h z hz.1 hz.2
  constructor
  · intro h x y z hx hx' hy hy' hz hz'
    exact (row x y hx hx' hy hy').mp (h _ (V.rowAt hx hx') y (mem_rng.mpr ⟨hy, hy'⟩)) z hz hz'
  · intro h r hr y hy
    rw [mem_rng] at hy
    obtain ⟨x, hx, hx', rfl⟩ := mem_ix hr
    rw [V.len] at hx'
    exact (row x y hx hx' hy.1 hy.2).mpr fun z hz hz' => h x y z hx hx' hy.1 hy.2 hz hz'
theorem isasc_d {n : Int} {T : List (List Int)} (h2 : n ≤ 1000) (V : VT n T) : P_is_associative T = .ok (ascB n T) := by
  have n0 := V.n0
  have hb : big = 16777216 := rfl
  unfold P_is_associative
  rw [V.len]
  simp only [pRng_ok n0 (show n ≤ 16777216 by omega), bind_ok]
  rw [pfor_test (p := fun r => (rng n).all fun y => ascRow n T r y) (r := false) fun r hr => ?_, bind_ok]
  · unfold ascB
    cases T.all fun r => (rng n).all fun y => ascRow n T r y <;> rfl
  · have hrl := V.row r hr
    rw [pfor_test (p := fun y => ascRow n T r y) (r := false) fun y hy => ?_, bind_ok]
    · cases (rng n).all fun y => ascRow n T r y <;> rfl
    · rw [mem_rng] at hy
      have hv := V.ent r hr _ (ix_mem (xs := r) hy.1 (by omega))
      rw [pMap_ok (fun z => mul T (ix r y) z) (by simp; omega) (fun z hz => by
        rw [mem_rng] at hz
        rw [pAt_ok hy.1 (by omega), bind_ok, V.at1 hv.1 hv.2, bind_ok, V.at2 hv.1 hv.2 hz.1 hz.2]), bind_ok, V.at1 hy.1 hy.2, bind_ok,
        pMap_ok (fun i => ix r i) (by have := V.rlen hy.1 hy.2; omega) (fun i hi => by
          have := V.ent _ (V.rowAt hy.1 hy.2) i hi
          exact pAt_ok this.1 (by omega)), bind_ok]
      simp only [bind_ok]
      unfold ascRow
      by_cases h : (rng n).map (fun z => mul T (ix r y) z) = (ix T y).map (fun i => ix r i)
      · simp [h]
      · simp [h]
theorem sg_d {n : Int} {T : List (List Int)} (h1 : 1 ≤ n) (h2 : n ≤ 24) (V : VT n T) (A : Asc n (mul T)) : P_Semigroup___init__ T = .ok (n, T) := by
  unfold P_Semigroup___init__
  rw [taken_d h1 (by omega) V, bind_ok, V.len, isasc_d (by omega) V, (ascB_iff V).mpr A]
  have : ¬ (n > 24) := by omega
  simp [this]
end LAW
namespace LAW
open DL PySem L2
def upB (b x : Int) : Int := if x < b then b else x + 1
theorem upB_le (b x : Int) : b ≤ upB b x ∧ x < upB b x := by unfold upB; split <;> omega
theorem top_row : ∀ (r : List Int) (b : Int), (∀ x ∈ r, x < r.foldl upB b) ∧ b ≤ r.foldl upB b
  | [], b => ⟨(fun _ h => absurd h List.not_mem_nil), Int.le_refl _⟩
  | x :: r, b => by
    have h := upB_le b x
    obtain ⟨h1, h2⟩ := top_row r (upB b x)
    refine ⟨fun y hy => ?_, by rw [List.foldl_cons]; omega⟩
    rw [List.foldl_cons]
    rcases List.mem_cons.mp hy with rfl | hy
    · omega
    · exact h1 y hy
theorem top_rows : ∀ (rows : List (List Int)) (b : Int), (∀ r ∈ rows, ∀ x ∈ r, x < rows.foldl (fun b r => r.foldl upB b) b) ∧ b ≤ rows.foldl (fun b r => r.foldl upB b) b
  | [], b => ⟨(fun _ h => absurd h List.not_mem_nil), Int.le_refl _⟩
  | r :: rows, b => by
    obtain ⟨h1, h2⟩ := top_row r b
    obtain ⟨h3, h4⟩ := top_rows rows (r.foldl upB b)
    refine ⟨fun q hq x hx => ?_, by rw [List.foldl_cons]; omega⟩
    rw [List.foldl_cons]
    rcases List.mem_cons.mp hq with rfl | hq
    · have := h1 x hx; omega
    · exact h3 q hq x hx
theorem sort_ok {rows : List (List Int)} {d : Nat} (hd : 1 ≤ d) (hl : ∀ r ∈ rows, r.length = d) (h0 : ∀ r ∈ rows, ∀ x ∈ r, 0 ≤ x) : pSortT rows = .ok (sortT rows) := by
  unfold pSortT
  cases rows with
  | nil => rfl
  | cons r rs =>
    have e : (r :: rs).headD [0] = r := rfl
    rw [if_pos]
    unfold okRows
    rw [e, hl r List.mem_cons_self, decide_eq_true hd, Bool.true_and, List.all_eq_true]
    intro q hq
    rw [Bool.and_eq_true, decide_eq_true_eq, List.all_eq_true]
    refine ⟨hl q hq, fun x hx => ?_⟩
    rw [Bool.and_eq_true, decide_eq_true_eq, decide_eq_true_eq]
    exact ⟨h0 q hq x hx, (top_rows (r :: rs) 1).1 q hq x hx⟩
end LAW
namespace LAW
open DL PySem L2
theorem pwhile_iv {σ : Type} {t : σ → M Bool} {f : σ → M σ} (I : σ → Prop) (μ : σ → Nat) (tb : σ → Bool) (ht : ∀ a, I a → t a = .ok (tb a)) (hs : ∀ a, I a → tb a = true → ∃ b, f a = .ok b ∧ I b ∧ μ b < μ a) : ∀ (n : Nat) (a : σ), I a → μ a < n → ∃ b, pwhile t f n a = .ok b ∧ I b ∧ tb b = false
  | 0, a, _, h => by omega
  | n + 1, a, i, h => by
    unfold pwhile
    rw [ht a i, bind_ok]
    cases e : tb a with
    | false => exact ⟨a, rfl, i, e⟩
    | true =>
      obtain ⟨b, h1, h2, h3⟩ := hs a i e
      simp only [if_true]
      rw [h1, bind_ok]
      exact pwhile_iv I μ tb ht hs n b h2 (by omega)
theorem nodup_card {α : Type} [DecidableEq α] : ∀ {l d : List α}, l.Nodup → (∀ x ∈ l, x ∈ d) → l.length ≤ d.length
  | [], _, _, _ => Nat.zero_le _
  | x :: l, d, hn, hs => by
    obtain ⟨h1, h2⟩ := List.nodup_cons.mp hn
    have hx : x ∈ d := hs x List.mem_cons_self
    have ih := nodup_card (l := l) (d := d.erase x) h2 fun y hy => (List.mem_erase_of_ne (fun e => h1 (by rw [← e]; exact hy))).mpr (hs y (List.mem_cons_of_mem _ hy))
    rw [List.length_erase_of_mem hx] at ih
    have := List.length_pos_of_mem hx
    rw [List.length_cons]
    omega
abbrev Pr3 := Int × Int × Int
/-- each product is of two that are known ahead of it -/
def StepsF (T : List (List Int)) : List Int → List Pr3 → Prop
  | _, [] => True
  | S, (p, l, r) :: ms => l ∈ S ∧ r ∈ S ∧ p = mul T l r ∧ p ∉ S ∧ StepsF T (S ++ [p]) ms
theorem StepsF.snoc {T : List (List Int)} : ∀ {S : List Int} {ms : List Pr3} {l r : Int}, StepsF T S ms → l ∈ S ++ ms.map (·.1) → r ∈ S ++ ms.map (·.1) → mul T l r ∉ S ++ ms.map (·.1) → StepsF T S (ms ++ [(mul T l r, l, r)])
  | S, [], l, r, _, h1, h2, h3 => by
    simp only [List.map_nil, List.append_nil] at h1 h2 h3
    exact ⟨h1, h2, rfl, h3, trivial⟩
  | S, (p, a, b) :: ms, l, r, ⟨k1, k2, k3, k4, k5⟩, h1, h2, h3 => by
    refine ⟨k1, k2, k3, k4, StepsF.snoc k5 ?_ ?_ ?_⟩
    · simpa using h1
    · simpa using h2
    · simpa using h3
structure KI (n : Int) (T : List (List Int)) (k0 : List Int) (s : List Int × List Pr3) : Prop where
  e : s.1 = k0 ++ s.2.map (·.1)
  nd : s.1.Nodup
  rg : ∀ x ∈ s.1, 0 ≤ x ∧ x < n
  st : StepsF T k0 s.2
def Ext (k k' : List Int) : Prop := ∃ e, k' = k ++ e
theorem Ext.refl (k : List Int) : Ext k k := ⟨[], by simp⟩
theorem Ext.trans {a b c : List Int} (h : Ext a b) (g : Ext b c) : Ext a c := by
  obtain ⟨e, rfl⟩ := h
  obtain ⟨f, rfl⟩ := g
  exact ⟨e ++ f, by rw [List.append_assoc]⟩
theorem Ext.mem {a b : List Int} (h : Ext a b) {x : Int} (hx : x ∈ a) : x ∈ b := by
  obtain ⟨e, rfl⟩ := h
  exact List.mem_append_left _ hx
theorem Ext.at {a b : List Int} (h : Ext a b) {i : Int} (h0 : 0 ≤ i) (h1 : i < a.length) : ix b i = ix a i := by
  obtain ⟨e, rfl⟩ := h
  exact ix_app1 h0 h1
section
variable {n : Int} {T : List (List Int)} {k0 : List Int} {s : List Int × List Pr3}
theorem KI.le (K : KI n T k0 s) : (s.1.length : Int) ≤ n ∨ n < 0 := by
  by_cases h : 0 ≤ n
  · left
    have := nodup_card K.nd (d := rng n) fun x hx => mem_rng.mpr (K.rg x hx)
    rw [len_rng] at this
    omega
  · right; omega
theorem KI.len (K : KI n T k0 s) : s.2.length ≤ s.1.length := by
  rw [K.e, List.length_append, List.length_map]; omega
/-- one product -/
def addP (T : List (List Int)) (s : List Int × List Pr3) (l r : Int) : List Int × List Pr3 := if has (mul T l r) s.1 = true then s else (s.1 ++ [mul T l r], s.2 ++ [(mul T l r, l, r)])
theorem KI.add (V : VT n T) (K : KI n T k0 s) {l r : Int} (hl : l ∈ s.1) (hr : r ∈ s.1) : KI n T k0 (addP T s l r) ∧ Ext s.1 (addP T s l r).1 ∧ mul T l r ∈ (addP T s l r).1 := by
  unfold addP
  by_cases h : has (mul T l r) s.1 = true
  · rw [if_pos h]
    exact ⟨K, Ext.refl _, has_iff.mp h⟩
  · rw [if_neg h]
    have hn : mul T l r ∉ s.1 := fun z => h (has_iff.mpr z)
    refine ⟨⟨?_, ?_, ?_, ?_⟩, ⟨[mul T l r], rfl⟩, List.mem_append_right _ (List.mem_singleton.mpr rfl)⟩
    · show s.1 ++ [mul T l r] = _
      rw [List.map_append, ← List.append_assoc, ← K.e]; rfl
    · exact List.nodup_append.mpr ⟨K.nd, by simp, fun a ha b hb => by
        rw [List.mem_singleton.mp hb]; exact fun z => hn (z ▸ ha)⟩
    · intro x hx
      rcases List.mem_append.mp hx with hx | hx
      · exact K.rg x hx
      · rw [List.mem_singleton.mp hx]
        exact V.lt (K.rg l hl).1 (K.rg l hl).2 (K.rg r hr).1 (K.rg r hr).2
    · exact K.st.snoc (by rw [← K.e]; exact hl) (by rw [← K.e]; exact hr) (by rw [← K.e]; exact hn)
end
section
variable {n : Int} {T : List (List Int)} {k0 : List Int}
/-- the list is closed, and each new one is a product of two ahead of it -/
structure ClosP (n : Int) (T : List (List Int)) (k0 : List Int) (s : List Int × List Pr3) : Prop extends KI n T k0 s where
  cl : ∀ x ∈ s.1, ∀ y ∈ s.1, mul T x y ∈ s.1
theorem close_d (V : VT n T) (n0 : 0 ≤ n) (hn : n ≤ 100) (nd : k0.Nodup) (rg : ∀ x ∈ k0, 0 ≤ x ∧ x < n) : ∃ s, P_close k0 (n, T) = .ok (s.2, s.1) ∧ ClosP n T k0 s := by
  unfold P_close
  let I : List Int × List Pr3 × Int → Prop := fun a => KI n T k0 (a.1, a.2.1) ∧ 0 ≤ a.2.2 ∧ a.2.2 ≤ a.1.length ∧ ∀ i j, 0 ≤ i → i < a.2.2 → 0 ≤ j → j < a.2.2 → mul T (ix a.1 i) (ix a.1 j) ∈ a.1
  have key : ∀ F : List Int × List Pr3 × Int → M (List Int × List Pr3 × Int), (∀ a, I a → decide (a.2.2 < (a.1.length : Int)) = true → ∃ b, F a = .ok b ∧ I b ∧ (n - b.2.2).toNat < (n - a.2.2).toNat) →
      ∃ s : List Int × List Pr3, M.bind (pwhile (fun (a : List Int × List Pr3 × Int) => .ok (decide (a.2.2 < (a.1.length : Int)))) F fuel (k0, [], 0)) (fun (a : List Int × List Pr3 × Int) => .ok (a.2.1, a.1)) = .ok (s.2, s.1) ∧ ClosP n T k0 s := by
    intro F hF
    obtain ⟨b, e, ib, hb⟩ := pwhile_iv (t := fun (a : List Int × List Pr3 × Int) => .ok (decide (a.2.2 < (a.1.length : Int)))) I (fun a => (n - a.2.2).toNat) (fun a => decide (a.2.2 < (a.1.length : Int))) (fun a _ => rfl) hF fuel (k0, [], 0)
      ⟨⟨by simp, nd, rg, trivial⟩, Int.le_refl _, by show (0 : Int) ≤ _; omega, fun i j h1 h2 => by have h2 : i < 0 := h2; omega⟩ (by show (n - 0).toNat < fuel; have : fuel = 1000000 := rfl; omega)
    rw [e, bind_ok]
    obtain ⟨K, h0, h1, hc⟩ := ib
    refine ⟨(b.1, b.2.1), rfl, ⟨K, fun x hx y hy => ?_⟩⟩
    have hb : ¬ b.2.2 < (b.1.length : Int) := by simpa using hb
    obtain ⟨i, i0, i1, rfl⟩ := mem_ix hx
    obtain ⟨j, j0, j1, rfl⟩ := mem_ix hy
    have i1 : i < (b.1.length : Int) := i1
    have j1 : j < (b.1.length : Int) := j1
    exact hc i j i0 (by omega) j0 (by omega)
  refine key _ ?_
  · rintro ⟨k, ms, at_⟩ ⟨K, h0, h1, hc⟩ hb
    have hb : at_ < (k.length : Int) := by simpa using hb
    have h0 : 0 ≤ at_ := h0
    have h1 : at_ ≤ (k.length : Int) := h1
    have hc : ∀ i j, 0 ≤ i → i < at_ → 0 ≤ j → j < at_ → mul T (ix k i) (ix k j) ∈ k := hc
    have K : KI n T k0 (k, ms) := K
    have hle : (k.length : Int) ≤ n := K.le.resolve_right (by omega)
    have hzm : ix k at_ ∈ k := ix_mem h0 hb
    -- the inner loops
    let J : List Int → List Int × List Pr3 → Prop := fun p s => KI n T k0 s ∧ Ext k s.1 ∧ ∀ y ∈ p, mul T (ix k at_) y ∈ s.1 ∧ mul T y (ix k at_) ∈ s.1
    simp only []
    rw [cutD_to (by omega)]
    have inner : ∀ p x q a, [] ++ k.take (at_ + 1).toNat = p ++ x :: q → J p a → ∃ b, (fun (x279 : Int) (a280 : List Int × List Pr3) => M.bind (M.bind (M.bind (M.bind (pAt a280.1 at_) fun c285 => .ok (c285, x279)) fun c286 => M.bind (M.bind (pAt a280.1 at_) fun c287 => .ok (x279, c287)) fun c288 => .ok (c286, c288)) fun c289 => .ok [c289.1, c289.2]) fun c291 => M.bind (pfold (fun (x301 : (Int × Int)) (a302 : List Int × List Pr3) => M.bind (M.bind (pAt T x301.1) fun c306 => pAt c306 x301.2) fun c307 => if (!has c307 a302.1) = true then M.bind (pApp a302.1 c307) fun c308 => M.bind (pApp a302.2 (c307, x301.1, x301.2)) fun c309 => .ok (c308, c309) else .ok (a302.1, a302.2)) c291 (a280.1, a280.2)) fun (a310 : List Int × List Pr3) => .ok (a310.1, a310.2)) x a = .ok b ∧ J (p ++ [x]) b := by
      rintro p y q ⟨k1, m1⟩ e ⟨K1, x1, hy⟩
      have hyk : y ∈ k := by
        have : y ∈ [] ++ k.take (at_ + 1).toNat := by rw [e]; simp
        exact List.mem_of_mem_take (by simpa using this)
      have hz : pAt k1 at_ = .ok (ix k at_) := by
        obtain ⟨f, hf⟩ := x1
        have hf : k1 = k ++ f := hf
        have : (k.length : Int) ≤ k1.length := by rw [hf, List.length_append]; omega
        rw [pAt_ok h0 (by omega), hf, ix_app1 h0 hb]
      have one : ∀ (s : List Int × List Pr3), KI n T k0 s → ∀ l r, l ∈ s.1 → r ∈ s.1 → M.bind (M.bind (pAt T l) fun c306 => pAt c306 r) (fun c307 => if (!has c307 s.1) = true then M.bind (pApp s.1 c307) fun c308 => M.bind (pApp s.2 (c307, l, r)) fun c309 => .ok (c308, c309) else .ok (s.1, s.2)) = .ok (addP T s l r) := by
        intro s K l r hl hr
        have h1 := K.rg l hl
        have h2 := K.rg r hr
        rw [V.at1 h1.1 h1.2, bind_ok, V.at2 h1.1 h1.2 h2.1 h2.2, bind_ok]
        unfold addP
        have hsz : (s.1.length : Int) ≤ n := K.le.resolve_right (by omega)
        have hs2 := K.len
        cases hh : has (mul T l r) s.1 with
        | true => rfl
        | false =>
          simp only [Bool.not_false, if_true, Bool.false_eq_true, if_false]
          rw [pApp_ok (by omega), bind_ok, pApp_ok (by omega), bind_ok]
      obtain ⟨K2, x2, p2⟩ := K1.add V (x1.mem hzm) (x1.mem hyk)
      obtain ⟨K3, x3, p3⟩ := K2.add V (l := y) (r := ix k at_) ((x1.trans x2).mem hyk) ((x1.trans x2).mem hzm)
      refine ⟨addP T (addP T (k1, m1) (ix k at_) y) y (ix k at_), ?_, K3, (x1.trans x2).trans x3, fun w hw => ?_⟩
      · simp only []
        rw [hz, bind_ok, bind_ok, bind_ok, bind_ok, bind_ok, bind_ok]
        simp only [pfold]
        rw [one (k1, m1) K1 _ _ (x1.mem hzm) (x1.mem hyk), bind_ok, one _ K2 _ _ ((x1.trans x2).mem hyk) ((x1.trans x2).mem hzm), bind_ok]
        rfl
      · rcases List.mem_append.mp hw with hw | hw
        · exact ⟨(x2.trans x3).mem (hy w hw).1, (x2.trans x3).mem (hy w hw).2⟩
        · rw [List.mem_singleton.mp hw]
          exact ⟨x3.mem p2, p3⟩
    obtain ⟨s, es, K2, x2, hy⟩ := pfold_inv J (k.take (at_ + 1).toNat) [] (k, ms) ⟨K, Ext.refl k, (fun y hy => absurd hy List.not_mem_nil)⟩ inner
    rw [es, bind_ok]
    refine ⟨(s.1, s.2, at_ + 1), rfl, ⟨K2, by show 0 ≤ at_ + 1; omega, ?_, ?_⟩, ?_⟩
    · obtain ⟨f, hf⟩ := x2
      show at_ + 1 ≤ (s.1.length : Int)
      rw [hf, List.length_append]
      omega
    · intro i j i0 i1 j0 j1
      have i1 : i < at_ + 1 := i1
      have j1 : j < at_ + 1 := j1
      show mul T (ix s.1 i) (ix s.1 j) ∈ s.1
      rw [x2.at i0 (by omega), x2.at j0 (by omega)]
      have tk : ∀ i, 0 ≤ i → i < at_ + 1 → ix k i ∈ [] ++ k.take (at_ + 1).toNat := fun i h0 h1 => by
        rw [List.nil_append]
        have := ix_take (xs := k) h0 h1
        rw [← this]
        exact ix_mem h0 (by rw [List.length_take]; omega)
      by_cases hi : i = at_
      · rw [hi]; exact (hy _ (tk j j0 j1)).1
      · by_cases hj : j = at_
        · rw [hj]; exact (hy _ (tk i i0 i1)).2
        · exact x2.mem (hc i j i0 (by omega) j0 (by omega))
    · show (n - (at_ + 1)).toNat < (n - at_).toNat
      omega
end
end LAW
namespace LAW
open DL PySem L2
abbrev Stp := Int × List Int × List Pr3
structure Base (n : Int) (T : List (List Int)) (S : List Int) : Prop where
  nd : S.Nodup
  rg : ∀ x ∈ S, 0 ≤ x ∧ x < n
  cl : ∀ x ∈ S, ∀ y ∈ S, mul T x y ∈ S
def ClosF (n : Int) (T : List (List Int)) : List Int → List Stp → Prop
  | _, [] => True
  | S, (x, K, ms) :: rest => 0 ≤ x ∧ x < n ∧ x ∉ S ∧ (∀ y, 0 ≤ y → y < x → y ∈ S) ∧ ClosP n T (S ++ [x]) (K, ms) ∧ ClosF n T K rest
def lastK : List Int → List Stp → List Int
  | S, [] => S
  | _, (_, K, _) :: rest => lastK K rest
section
variable {n : Int} {T : List (List Int)}
theorem Base.nil : Base n T [] := ⟨List.nodup_nil, (fun _ h => absurd h List.not_mem_nil), fun _ h => absurd h List.not_mem_nil⟩
theorem ClosP.base {k0 : List Int} {s : List Int × List Pr3} (C : ClosP n T k0 s) : Base n T s.1 := ⟨C.nd, C.rg, C.cl⟩
theorem lastK_snoc : ∀ {S : List Int} {sts : List Stp} {x : Int} {K : List Int} {ms : List Pr3}, lastK S (sts ++ [(x, K, ms)]) = K
  | _, [], _, _, _ => rfl
  | _, (_, K', _) :: rest, _, _, _ => lastK_snoc (S := K') (sts := rest)
theorem ClosF.snoc : ∀ {S : List Int} {sts : List Stp} {x : Int} {K : List Int} {ms : List Pr3}, ClosF n T S sts → 0 ≤ x → x < n → x ∉ lastK S sts → (∀ y, 0 ≤ y → y < x → y ∈ lastK S sts) → ClosP n T (lastK S sts ++ [x]) (K, ms) → ClosF n T S (sts ++ [(x, K, ms)])
  | _, [], _, _, _, _, h0, h1, h2, h3, h4 => ⟨h0, h1, h2, h3, h4, trivial⟩
  | _, (_, _, _) :: rest, _, _, _, ⟨k0, k1, k2, k3, k4, k5⟩, h0, h1, h2, h3, h4 => ⟨k0, k1, k2, k3, k4, ClosF.snoc k5 h0 h1 h2 h3 h4⟩
theorem closing_d (V : VT n T) (n0 : 0 ≤ n) (hn : n ≤ 100) : ∃ sts, P_closing (n, T) = .ok sts ∧ ClosF n T [] sts ∧ (∀ y, 0 ≤ y → y < n → y ∈ lastK [] sts) ∧ (sts.length : Int) ≤ n := by
  unfold P_closing
  rw [pRng_ok n0 (by omega), bind_ok]
  let I : Int → List Int × List Stp → Prop := fun x s => ClosF n T [] s.2 ∧ s.1 = lastK [] s.2 ∧ Base n T s.1 ∧ (∀ y, 0 ≤ y → y < x → y ∈ s.1) ∧ (s.2.length : Int) ≤ x
  have step : ∀ (x : Int) (a : List Int × List Stp), 0 ≤ x → x < n → I x a → ∃ b, (if (!has x a.1) = true then M.bind (pApp a.1 x) fun c24 => M.bind (P_close c24 (n, T)) fun c26 => M.bind (pApp a.2 (x, c26.2, c26.1)) fun c28 => .ok (c26.2, c28) else .ok (a.1, a.2)) = .ok b ∧ I (x + 1) b := by
    rintro x ⟨k, f⟩ x0 x1 ⟨h1, h2, h3, h4, h5⟩
    have h2 : k = lastK [] f := h2
    have h3 : Base n T k := h3
    have h4 : ∀ y, 0 ≤ y → y < x → y ∈ k := h4
    have h5 : (f.length : Int) ≤ x := h5
    simp only []
    cases hh : has x k with
    | true =>
      refine ⟨(k, f), rfl, h1, h2, h3, fun y y0 y1 => ?_, by show (f.length : Int) ≤ x + 1; omega⟩
      by_cases hy : y = x
      · rw [hy]; exact has_iff.mp hh
      · exact h4 y y0 (by omega)
    | false =>
      have hx : x ∉ k := fun z => by rw [has_iff.mpr z] at hh; cases hh
      simp only [Bool.not_false, if_true]
      have kl : k.length ≤ n.toNat := by
        have := nodup_card h3.nd (d := rng n) fun y hy => mem_rng.mpr (h3.rg y hy)
        rwa [len_rng] at this
      have nd : (k ++ [x]).Nodup := List.nodup_append.mpr ⟨h3.nd, by simp, fun a ha b hb => by
        rw [List.mem_singleton.mp hb]; exact fun z => hx (z ▸ ha)⟩
      have rg : ∀ y ∈ k ++ [x], 0 ≤ y ∧ y < n := fun y hy => by
        rcases List.mem_append.mp hy with hy | hy
        · exact h3.rg y hy
        · rw [List.mem_singleton.mp hy]; exact ⟨x0, x1⟩
      obtain ⟨s, es, C⟩ := close_d V n0 hn nd rg
      rw [pApp_ok (by omega), bind_ok, es, bind_ok, pApp_ok (by omega), bind_ok]
      refine ⟨_, rfl, ?_, ?_, C.base, fun y y0 y1 => ?_, ?_⟩
      · exact ClosF.snoc h1 x0 x1 (by rw [← h2]; exact hx) (fun y y0 y1 => by rw [← h2]; exact h4 y y0 y1) (by rw [← h2]; exact C)
      · exact (lastK_snoc (S := []) (sts := f) (x := x) (K := s.1) (ms := s.2)).symm
      · show y ∈ s.1
        rw [C.e]
        refine List.mem_append_left _ ?_
        by_cases hy : y = x
        · rw [hy]; exact List.mem_append_right _ (List.mem_singleton.mpr rfl)
        · exact List.mem_append_left _ (h4 y y0 (by omega))
      · show ((f ++ [(x, s.1, s.2)]).length : Int) ≤ x + 1
        rw [List.length_append, List.length_singleton]
        omega
  obtain ⟨b, e, h1, h2, h3, h4, h5⟩ := pfold_rng (F := fun (x20 : Int) (a21 : List Int × List Stp) => if (!has x20 a21.1) = true then M.bind (pApp a21.1 x20) fun c24 => M.bind (P_close c24 (n, T)) fun c26 => M.bind (pApp a21.2 (x20, c26.2, c26.1)) fun c28 => .ok (c26.2, c28) else .ok (a21.1, a21.2)) I n0 (a := ([], [])) ⟨trivial, rfl, Base.nil, fun y h1 h2 => by omega, Int.le_refl _⟩ step
  rw [e, bind_ok]
  exact ⟨b.2, rfl, h1, fun y y0 y1 => by rw [← h2]; exact h4 y y0 y1, h5⟩
structure PH (n m : Int) (T U : List (List Int)) (S : List Int) (f : List Int) : Prop where
  len : (f.length : Int) = n
  rg : ∀ z ∈ S, 0 ≤ ix f z ∧ ix f z < m
  hom : ∀ z ∈ S, ∀ w ∈ S, ix f (mul T z w) = mul U (ix f z) (ix f w)
  out : ∀ z, 0 ≤ z → z < n → z ∉ S → ix f z = -1
def Inj (S : List Int) (f : List Int) : Prop := ∀ z ∈ S, ∀ w ∈ S, ix f z = ix f w → z = w
def PHu (n m : Int) (T U : List (List Int)) (u : Bool) (S : List Int) (f : List Int) : Prop := PH n m T U S f ∧ (u = true → Inj S f)
def Agr (S : List Int) (f g : List Int) : Prop := ∀ z ∈ S, ix g z = ix f z
variable {m : Int} {U : List (List Int)} {S : List Int}
theorem Agr.refl {f : List Int} : Agr S f f := fun _ _ => rfl
/-- what holds at the first ones holds at all that are made of them -/
theorem steps_agree {f g : List Int} : ∀ {ms : List Pr3} {k : List Int}, StepsF T k ms → (∀ z ∈ k, ix g z = ix f z) → (∀ q ∈ ms, ix f q.1 = mul U (ix f q.2.1) (ix f q.2.2)) → (∀ q ∈ ms, ix g q.1 = mul U (ix g q.2.1) (ix g q.2.2)) → ∀ z ∈ k ++ ms.map (·.1), ix g z = ix f z
  | [], k, _, h, _, _, z, hz => h z (by simpa using hz)
  | (p, l, r) :: ms, k, ⟨k1, k2, k3, k4, k5⟩, h, h1, h2, z, hz => by
    have e : ix g p = ix f p := by
      rw [h1 (p, l, r) List.mem_cons_self, h2 (p, l, r) List.mem_cons_self]
      show mul U (ix g l) (ix g r) = mul U (ix f l) (ix f r)
      rw [h l k1, h r k2]
    refine steps_agree k5 (fun z hz => ?_) (fun q hq => h1 q (List.mem_cons_of_mem _ hq)) (fun q hq => h2 q (List.mem_cons_of_mem _ hq)) z (by simpa using hz)
    rcases List.mem_append.mp hz with hz | hz
    · exact h z hz
    · rw [List.mem_singleton.mp hz]; exact e
theorem steps_mul : ∀ {ms : List Pr3} {k : List Int}, StepsF T k ms → ∀ q ∈ ms, q.1 = mul T q.2.1 q.2.2 ∧ q.2.1 ∈ k ++ ms.map (·.1) ∧ q.2.2 ∈ k ++ ms.map (·.1)
  | [], _, _, q, hq => absurd hq List.not_mem_nil
  | (p, l, r) :: ms, k, ⟨k1, k2, k3, k4, k5⟩, q, hq => by
    rcases List.mem_cons.mp hq with rfl | hq
    · exact ⟨k3, List.mem_append_left _ k1, List.mem_append_left _ k2⟩
    · obtain ⟨a, b, c⟩ := steps_mul k5 q hq
      exact ⟨a, by simpa using b, by simpa using c⟩
theorem PH.ext {f g : List Int} {K : List Int} (hf : PH n m T U K f) (hg : PH n m T U K g) (h : ∀ z ∈ K, ix g z = ix f z) : g = f := by
  refine ix_ext (by have := hf.len; have := hg.len; omega) fun i i0 i1 => ?_
  by_cases hi : i ∈ K
  · exact h i hi
  · rw [hf.out i i0 (by have := hg.len; omega) hi, hg.out i i0 (by have := hg.len; omega) hi]
end
end LAW
namespace LAW
open DL PySem L2
theorem dup_short : ∀ {xs : List Int}, ¬ xs.Nodup → ∃ d : List Int, (∀ x ∈ xs, x ∈ d) ∧ d.length < xs.length
  | [], h => absurd List.nodup_nil h
  | x :: r, h => by
    by_cases hx : x ∈ r
    · exact ⟨r, fun y hy => by rcases List.mem_cons.mp hy with rfl | hy; exact hx; exact hy, by simp⟩
    · obtain ⟨d, h1, h2⟩ := dup_short (xs := r) fun z => h (List.nodup_cons.mpr ⟨hx, z⟩)
      refine ⟨x :: d, fun y hy => ?_, by simp only [List.length_cons]; omega⟩
      rcases List.mem_cons.mp hy with rfl | hy
      · exact List.mem_cons_self
      · exact List.mem_cons_of_mem _ (h1 y hy)
theorem sortU_nodup (xs : List Int) : (sortU xs).Nodup := (sortU_pw xs).imp fun h => by omega
theorem sortU_len {xs : List Int} : (sortU xs).length = xs.length ↔ xs.Nodup := by
  constructor
  · intro h
    apply Classical.byContradiction
    intro hn
    obtain ⟨d, h1, h2⟩ := dup_short hn
    have := nodup_card (sortU_nodup xs) (d := d) fun x hx => h1 x (mem_sortU.mp hx)
    omega
  · intro h
    have h1 := nodup_card (sortU_nodup xs) (d := xs) fun x hx => mem_sortU.mp hx
    have h2 := nodup_card h (d := sortU xs) fun x hx => mem_sortU.mpr hx
    omega
theorem map_nodup_iff {f : Int → Int} : ∀ {K : List Int}, K.Nodup → ((K.map f).Nodup ↔ ∀ z ∈ K, ∀ w ∈ K, f z = f w → z = w)
  | [], _ => by simp
  | x :: r, h => by
    obtain ⟨h1, h2⟩ := List.nodup_cons.mp h
    rw [List.map_cons, List.nodup_cons, map_nodup_iff h2]
    constructor
    · rintro ⟨a, b⟩ z hz w hw e
      rcases List.mem_cons.mp hz with hz | hz
      · rcases List.mem_cons.mp hw with hw | hw
        · rw [hz, hw]
        · rw [hz] at e; exact absurd (List.mem_map.mpr ⟨w, hw, e.symm⟩) a
      · rcases List.mem_cons.mp hw with hw | hw
        · rw [hw] at e; exact absurd (List.mem_map.mpr ⟨z, hz, e⟩) a
        · exact b z hz w hw e
    · intro a
      refine ⟨fun hm => ?_, fun z hz w hw e => a z (List.mem_cons_of_mem _ hz) w (List.mem_cons_of_mem _ hw) e⟩
      obtain ⟨w, hw, e⟩ := List.mem_map.mp hm
      have := a x List.mem_cons_self w (List.mem_cons_of_mem _ hw) e.symm
      exact h1 (this ▸ hw)
section
variable {n m : Int} {T U : List (List Int)} {S : List Int}
theorem ext_fold (W : VT m U) {F : Pr3 → List Int → M (List Int)} (hF : ∀ q a, F q a = M.bind (M.bind (M.bind (pAt a q.2.1) fun c17 => pAt U c17) fun c18 => M.bind (pAt a q.2.2) fun c19 => pAt c18 c19) fun c20 => M.bind (pSet a q.1 c20) fun c21 => .ok c21) :
    ∀ {ms : List Pr3} {k a : List Int}, StepsF T k ms → (∀ z ∈ k ++ ms.map (·.1), 0 ≤ z ∧ z < n) → (a.length : Int) = n → (∀ z ∈ k, 0 ≤ ix a z ∧ ix a z < m) → (∀ z, 0 ≤ z → z < n → z ∉ k → ix a z = -1) →
      ∃ b, pfold F ms a = .ok b ∧ (b.length : Int) = n ∧ (∀ z ∈ k, ix b z = ix a z) ∧ (∀ z ∈ k ++ ms.map (·.1), 0 ≤ ix b z ∧ ix b z < m) ∧ (∀ z, 0 ≤ z → z < n → z ∉ k ++ ms.map (·.1) → ix b z = -1) ∧ ∀ q ∈ ms, ix b q.1 = mul U (ix b q.2.1) (ix b q.2.2)
  | [], k, a, _, _, hl, h1, h2 => ⟨a, rfl, hl, fun _ _ => rfl, by simpa using h1, by simpa using h2, fun q hq => absurd hq List.not_mem_nil⟩
  | (p, l, r) :: ms, k, a, ⟨k1, k2, k3, k4, k5⟩, hr, hl, h1, h2 => by
    have rl := hr l (List.mem_append_left _ k1)
    have rr := hr r (List.mem_append_left _ k2)
    have rp := hr p (by simp)
    have vl := h1 l k1
    have vr := h1 r k2
    have e1 : F (p, l, r) a = .ok (a.set p.toNat (mul U (ix a l) (ix a r))) := by
      rw [hF]
      simp only []
      rw [pAt_ok rl.1 (by omega), bind_ok, W.at1 vl.1 vl.2, bind_ok, pAt_ok rr.1 (by omega), bind_ok, W.at2 vl.1 vl.2 vr.1 vr.2, bind_ok, pSet_ok rp.1 (by omega), bind_ok]
    have at' : ∀ z, 0 ≤ z → ix (a.set p.toNat (mul U (ix a l) (ix a r))) z = if z = p then mul U (ix a l) (ix a r) else ix a z := fun z hz => ix_set rp.1 (by omega) hz
    have old : ∀ z ∈ k, ix (a.set p.toNat (mul U (ix a l) (ix a r))) z = ix a z := fun z hz => by
      rw [at' z (hr z (List.mem_append_left _ hz)).1, if_neg (fun (e : z = p) => k4 (e ▸ hz))]
    obtain ⟨b, e2, b1, b2, b3, b4, b5⟩ := ext_fold W hF (ms := ms) (k := k ++ [p]) (a := a.set p.toNat (mul U (ix a l) (ix a r))) k5 (fun z hz => hr z (by simpa using hz)) (by rw [List.length_set]; exact hl) (fun z hz => by
      rcases List.mem_append.mp hz with hz | hz
      · rw [old z hz]; exact h1 z hz
      · rw [List.mem_singleton.mp hz, at' p rp.1, if_pos rfl]; exact W.lt vl.1 vl.2 vr.1 vr.2) fun z z0 z1 hz => by
      rw [at' z z0, if_neg (fun e => hz (by rw [e]; simp))]
      exact h2 z z0 z1 fun h => hz (List.mem_append_left _ h)
    refine ⟨b, by simp only [pfold]; rw [e1, bind_ok]; exact e2, b1, fun z hz => by rw [b2 z (List.mem_append_left _ hz), old z hz], fun z hz => b3 z (by simpa using hz), fun z z0 z1 hz => b4 z z0 z1 (by simpa using hz), fun q hq => ?_⟩
    rcases List.mem_cons.mp hq with rfl | hq
    · show ix b p = mul U (ix b l) (ix b r)
      rw [b2 p (by simp), b2 l (List.mem_append_left _ k1), b2 r (List.mem_append_left _ k2), old l k1, old r k2, at' p rp.1, if_pos rfl]
    · exact b5 q hq
def homB (T U : List (List Int)) (K b : List Int) : Bool := K.all fun z => K.all fun w => decide (ix b (mul T z w) = mul U (ix b z) (ix b w))
theorem ext_d (V : VT n T) (W : VT m U) (hn : n ≤ 100) {u : Bool} {f : List Int} (hf : PHu n m T U u S f) (bs : Base n T S) {x y : Int} {K : List Int} {ms : List Pr3} (x0 : 0 ≤ x) (x1 : x < n) (hx : x ∉ S) (C : ClosP n T (S ++ [x]) (K, ms)) (y0 : 0 ≤ y) (y1 : y < m) :
    ∃ r, P_extended (n, T) (m, U) f (x, K, ms) y u = .ok r ∧ (∀ g, r = some g ↔ PHu n m T U u K g ∧ Agr S f g ∧ ix g x = y) := by
  have eK : K = S ++ [x] ++ ms.map (·.1) := C.e
  have rgK : ∀ z ∈ K, 0 ≤ z ∧ z < n := C.rg
  have hl := hf.1.len
  unfold P_extended
  simp only []
  rw [pSet_ok x0 (by omega), bind_ok]
  have a1 : ∀ z, 0 ≤ z → ix (f.set x.toNat y) z = if z = x then y else ix f z := fun z hz => ix_set x0 (by omega) hz
  have aS : ∀ z ∈ S, ix (f.set x.toNat y) z = ix f z := fun z hz => by rw [a1 z (bs.rg z hz).1, if_neg (fun (e : z = x) => hx (e ▸ hz))]
  obtain ⟨b, e2, b1, b2, b3, b4, b5⟩ := ext_fold (n := n) W (F := fun (x12 : Pr3) (a13 : List Int) => M.bind (M.bind (M.bind (pAt a13 x12.2.1) fun c17 => pAt U c17) fun c18 => M.bind (pAt a13 x12.2.2) fun c19 => pAt c18 c19) fun c20 => M.bind (pSet a13 x12.1 c20) fun c21 => .ok c21) (fun _ _ => rfl)
    (ms := ms) (k := S ++ [x]) (a := f.set x.toNat y) C.st (by rw [← eK]; exact rgK) (by rw [List.length_set]; exact hl) (fun z hz => by
      rcases List.mem_append.mp hz with hz | hz
      · rw [aS z hz]; exact hf.1.rg z hz
      · rw [List.mem_singleton.mp hz, a1 x x0, if_pos rfl]; exact ⟨y0, y1⟩) fun z z0 z1 hz => by
      rw [a1 z z0, if_neg (fun e => hz (by rw [e]; simp))]
      exact hf.1.out z z0 z1 fun h => hz (List.mem_append_left _ h)
  rw [e2, bind_ok]
  rw [← eK] at b3 b4
  have klen : K.length ≤ n.toNat := by
    have := nodup_card C.nd (d := rng n) fun z hz => mem_rng.mpr (rgK z hz)
    rwa [len_rng] at this
  have agS : Agr S f b := fun z hz => by rw [b2 z (List.mem_append_left _ hz), aS z hz]
  have bx : ix b x = y := by rw [b2 x (by simp), a1 x x0, if_pos rfl]
  -- any fitting map is b
  have only : ∀ g, PHu n m T U u K g ∧ Agr S f g ∧ ix g x = y → g = b := by
    rintro g ⟨⟨g1, g2⟩, g3, g4⟩
    refine ix_ext (by have := g1.len; omega) fun i i0 i1 => ?_
    by_cases hi : i ∈ K
    · refine steps_agree (U := U) C.st (fun z hz => ?_) b5 (fun q hq => ?_) i (by rw [← eK]; exact hi)
      · rcases List.mem_append.mp hz with hz | hz
        · rw [g3 z hz, agS z hz]
        · rw [List.mem_singleton.mp hz, g4, bx]
      · obtain ⟨c1, c2, c3⟩ := steps_mul C.st q hq
        rw [c1]
        exact g1.hom _ (by rw [eK]; exact c2) _ (by rw [eK]; exact c3)
    · rw [g1.out i i0 (by have := g1.len; omega) hi, b4 i i0 (by have := g1.len; omega) hi]
  have inner : ∀ z ∈ K, pfor (fun (x80 : Int) (a81 : Unit) => M.bind (M.bind (M.bind (M.bind (pAt T z) fun c83 => pAt c83 x80) fun c84 => pAt b c84) fun c88 => M.bind (M.bind (M.bind (pAt b z) fun c89 => pAt U c89) fun c90 => M.bind (pAt b x80) fun c91 => pAt c90 c91) fun c92 => .ok (!decide (c88 = c92))) fun c93 => if c93 = true then .ok (.ret (none : Option (List Int))) else .ok (.nx ())) K () =
      .ok (if (K.all fun w => decide (ix b (mul T z w) = mul U (ix b z) (ix b w))) = true then .inl () else .inr none) := fun z hz => by
    refine pfor_test fun w hw => ?_
    have rz := rgK z hz
    have rw' := rgK w hw
    have hm := V.lt rz.1 rz.2 rw'.1 rw'.2
    rw [V.at1 rz.1 rz.2, bind_ok, V.at2 rz.1 rz.2 rw'.1 rw'.2, bind_ok, pAt_ok hm.1 (by omega), bind_ok, pAt_ok rz.1 (by omega), bind_ok, W.at1 (b3 z hz).1 (b3 z hz).2, bind_ok, pAt_ok rw'.1 (by omega), bind_ok, W.at2 (b3 z hz).1 (b3 z hz).2 (b3 w hw).1 (b3 w hw).2, bind_ok, bind_ok]
    by_cases he : ix b (mul T z w) = mul U (ix b z) (ix b w)
    · simp [he]
    · simp [he]
  have outer : pfor (fun (x62 : Int) (a63 : Unit) => M.bind (pfor (fun (x80 : Int) (a81 : Unit) => M.bind (M.bind (M.bind (M.bind (pAt T x62) fun c83 => pAt c83 x80) fun c84 => pAt b c84) fun c88 => M.bind (M.bind (M.bind (pAt b x62) fun c89 => pAt U c89) fun c90 => M.bind (pAt b x80) fun c91 => pAt c90 c91) fun c92 => .ok (!decide (c88 = c92))) fun c93 => if c93 = true then .ok (.ret (none : Option (List Int))) else .ok (.nx ())) K ()) fun r => pK r (fun (a94 : Unit) => .ok (.nx ())) F.ret) K () =
      .ok (if homB T U K b = true then .inl () else .inr none) := by
    refine pfor_test (p := fun z => K.all fun w => decide (ix b (mul T z w) = mul U (ix b z) (ix b w))) fun z hz => ?_
    rw [inner z hz, bind_ok]
    split <;> rfl
  rw [outer, bind_ok]
  by_cases hb : homB T U K b = true
  · rw [if_pos hb, pK_inl]
    have hhom : ∀ z ∈ K, ∀ w ∈ K, ix b (mul T z w) = mul U (ix b z) (ix b w) := fun z hz w hw => by
      have h1 := List.all_eq_true.mp hb z hz
      have h2 := List.all_eq_true.mp h1 w hw
      exact of_decide_eq_true h2
    have pb : PH n m T U K b := ⟨b1, b3, hhom, b4⟩
    cases u with
    | false =>
      rw [if_neg Bool.false_ne_true, bind_ok, if_neg Bool.false_ne_true]
      refine ⟨some b, rfl, fun g => ⟨fun e => ?_, fun h => by rw [only g h]⟩⟩
      cases e
      exact ⟨⟨pb, fun h => by cases h⟩, agS, bx⟩
    | true =>
      rw [if_pos rfl, pMap_ok (fun z => ix b z) (by show K.length ≤ 16777216; omega) (fun z hz => pAt_ok (rgK z hz).1 (by have := (rgK z hz).2; omega)), bind_ok]
      have hs : pLenSet (K.map fun z => ix b z) = .ok ((sortU (K.map fun z => ix b z)).length : Int) := by
        unfold pLenSet
        rw [if_pos (by rw [List.length_map]; omega)]
      rw [hs, bind_ok, bind_ok]
      have key : ((sortU (K.map fun z => ix b z)).length : Int) = (K.length : Int) ↔ Inj K b := by
        have h1 := sortU_len (xs := K.map fun z => ix b z)
        rw [List.length_map] at h1
        have h2 := map_nodup_iff (f := fun z => ix b z) C.nd
        constructor
        · intro h; exact h2.mp (h1.mp (by omega))
        · intro h; have := h1.mpr (h2.mpr h); omega
      by_cases hi : ((sortU (K.map fun z => ix b z)).length : Int) = (K.length : Int)
      · simp only [hi, decide_true, Bool.not_true, Bool.false_eq_true, if_false]
        refine ⟨some b, rfl, fun g => ⟨fun e => ?_, fun h => by rw [only g h]⟩⟩
        cases e
        exact ⟨⟨pb, fun _ => key.mp hi⟩, agS, bx⟩
      · simp only [hi, decide_false, Bool.not_false, if_true]
        refine ⟨none, rfl, fun g => ⟨(fun e => by cases e), fun h => ?_⟩⟩
        have := only g h
        subst this
        exact absurd (key.mpr (h.1.2 rfl)) hi
  · rw [if_neg hb, pK_inr]
    refine ⟨none, rfl, fun g => ⟨(fun e => by cases e), fun h => ?_⟩⟩
    have := only g h
    subst this
    refine absurd ?_ hb
    exact List.all_eq_true.mpr fun z hz => List.all_eq_true.mpr fun w hw => decide_eq_true (h.1.1.hom z hz w hw)
end
end LAW
namespace LAW
open DL PySem L2
def extF (n m : Int) (T U : List (List Int)) (u : Bool) (f : List Int) (st : Stp) (y : Int) : Option (List Int) := match P_extended (n, T) (m, U) f st y u with
  | .ok r => r
  | _ => none
def outs (n m : Int) (T U : List (List Int)) (u : Bool) : List Stp → List Int → List (List Int)
  | [], f => [f]
  | st :: rest, f => (rng m).flatMap fun y => match extF n m T U u f st y with
    | none => []
    | some g => outs n m T U u rest g
/-- first unlike at x, and less there -/
def LtA (n : Int) (g g' : List Int) : Prop := ∃ x, 0 ≤ x ∧ x < n ∧ (∀ z, 0 ≤ z → z < x → ix g z = ix g' z) ∧ ix g x < ix g' x
section
variable {n m : Int} {T U : List (List Int)} {u : Bool}
theorem lastK_sub : ∀ {S : List Int} {sts : List Stp}, ClosF n T S sts → ∀ z ∈ S, z ∈ lastK S sts
  | _, [], _, z, hz => hz
  | _, (x, K, ms) :: rest, ⟨_, _, _, _, k4, k5⟩, z, hz => lastK_sub k5 z (by
      have e : K = _ := k4.e
      rw [e]; exact List.mem_append_left _ (List.mem_append_left _ hz))
theorem base_last : ∀ {S : List Int} {sts : List Stp}, ClosF n T S sts → Base n T S → Base n T (lastK S sts)
  | _, [], _, b => b
  | _, (x, K, ms) :: rest, ⟨_, _, _, _, k4, k5⟩, _ => base_last (S := K) (sts := rest) k5 k4.base
/-- a map cut down to a part -/
def cutM (n : Int) (K g : List Int) : List Int := (rng n).map fun z => if z ∈ K then ix g z else -1
theorem cutM_at {K g : List Int} {z : Int} (h0 : 0 ≤ z) (h1 : z < n) : ix (cutM n K g) z = if z ∈ K then ix g z else -1 := ix_map_rng h0 h1
theorem cut_ok {K L g : List Int} (n0 : 0 ≤ n) (bK : Base n T K) (h : ∀ z ∈ K, z ∈ L) (hg : PHu n m T U u L g) : PHu n m T U u K (cutM n K g) ∧ Agr K (cutM n K g) g := by
  have at' : ∀ z ∈ K, ix (cutM n K g) z = ix g z := fun z hz => by rw [cutM_at (bK.rg z hz).1 (bK.rg z hz).2, if_pos hz]
  refine ⟨⟨⟨?_, fun z hz => by rw [at' z hz]; exact hg.1.rg z (h z hz), fun z hz w hw => ?_, fun z z0 z1 hz => by rw [cutM_at z0 z1, if_neg hz]⟩, fun hu z hz w hw e => ?_⟩, fun z hz => (at' z hz).symm⟩
  · unfold cutM
    rw [List.length_map, len_rng]; omega
  · rw [at' _ (bK.cl z hz w hw), at' z hz, at' w hw]
    exact hg.1.hom z (h z hz) w (h w hw)
  · rw [at' z hz, at' w hw] at e
    exact hg.2 hu z (h z hz) w (h w hw) e
theorem extF_iff (V : VT n T) (W : VT m U) (hn : n ≤ 100) {S f : List Int} (hf : PHu n m T U u S f) (bs : Base n T S) {x y : Int} {K : List Int} {ms : List Pr3} (x0 : 0 ≤ x) (x1 : x < n) (hx : x ∉ S) (C : ClosP n T (S ++ [x]) (K, ms)) (y0 : 0 ≤ y) (y1 : y < m) (g : List Int) :
    extF n m T U u f (x, K, ms) y = some g ↔ PHu n m T U u K g ∧ Agr S f g ∧ ix g x = y := by
  obtain ⟨r, e, h⟩ := ext_d V W hn hf bs x0 x1 hx C y0 y1
  unfold extF
  rw [e]
  exact h g
theorem outs_mem (V : VT n T) (W : VT m U) (n0 : 0 ≤ n) (hn : n ≤ 100) : ∀ {sts : List Stp} {S f : List Int}, ClosF n T S sts → Base n T S → PHu n m T U u S f → ∀ g, g ∈ outs n m T U u sts f ↔ PHu n m T U u (lastK S sts) g ∧ Agr S f g
  | [], S, f, _, _, hf, g => by
    show g ∈ [f] ↔ PHu n m T U u S g ∧ Agr S f g
    rw [List.mem_singleton]
    constructor
    · rintro rfl; exact ⟨hf, Agr.refl⟩
    · rintro ⟨h1, h2⟩; exact hf.1.ext h1.1 h2
  | (x, K, ms) :: rest, S, f, ⟨k0, k1, k2, k3, k4, k5⟩, bs, hf, g => by
    have eK : K = S ++ [x] ++ ms.map (·.1) := k4.e
    have sK : ∀ z ∈ S, z ∈ K := fun z hz => by rw [eK]; exact List.mem_append_left _ (List.mem_append_left _ hz)
    have xK : x ∈ K := by rw [eK]; simp
    have bK : Base n T K := k4.base
    show g ∈ (rng m).flatMap _ ↔ PHu n m T U u (lastK K rest) g ∧ Agr S f g
    rw [List.mem_flatMap]
    constructor
    · rintro ⟨y, hy, hg⟩
      obtain ⟨y0, y1⟩ := mem_rng.mp hy
      cases e : extF n m T U u f (x, K, ms) y with
      | none => rw [e] at hg; cases hg
      | some g1 =>
        rw [e] at hg
        obtain ⟨a1, a2, a3⟩ := (extF_iff V W hn hf bs k0 k1 k2 k4 y0 y1 g1).mp e
        obtain ⟨b1, b2⟩ := (outs_mem V W n0 hn k5 bK a1 g).mp hg
        exact ⟨b1, fun z hz => by rw [b2 z (sK z hz), a2 z hz]⟩
    · rintro ⟨h1, h2⟩
      obtain ⟨c1, c2⟩ := cut_ok n0 bK (lastK_sub k5) h1
      have hr := h1.1.rg x (lastK_sub k5 x xK)
      refine ⟨ix g x, mem_rng.mpr hr, ?_⟩
      have e := (extF_iff V W hn hf bs k0 k1 k2 k4 hr.1 hr.2 (cutM n K g)).mpr ⟨c1, fun z hz => by rw [← c2 z (sK z hz), h2 z hz], (c2 x xK).symm⟩
      rw [e]
      exact (outs_mem V W n0 hn k5 bK c1 g).mpr ⟨h1, c2⟩
theorem rng_pw (m : Int) : (rng m).Pairwise (· < ·) := by
  unfold rng
  rw [List.pairwise_map]
  exact List.pairwise_lt_range.imp fun h => by omega
theorem outs_pw (V : VT n T) (W : VT m U) (n0 : 0 ≤ n) (hn : n ≤ 100) : ∀ {sts : List Stp} {S f : List Int}, ClosF n T S sts → Base n T S → PHu n m T U u S f → (outs n m T U u sts f).Pairwise (LtA n)
  | [], S, f, _, _, hf => List.pairwise_singleton _ _
  | (x, K, ms) :: rest, S, f, ⟨k0, k1, k2, k3, k4, k5⟩, bs, hf => by
    have eK : K = S ++ [x] ++ ms.map (·.1) := k4.e
    have sK : ∀ z ∈ S, z ∈ K := fun z hz => by rw [eK]; exact List.mem_append_left _ (List.mem_append_left _ hz)
    have xK : x ∈ K := by rw [eK]; simp
    have bK : Base n T K := k4.base
    have blk : ∀ y ∈ rng m, ∀ g ∈ (match extF n m T U u f (x, K, ms) y with | none => [] | some g => outs n m T U u rest g), Agr S f g ∧ ix g x = y := by
      intro y hy g hg
      obtain ⟨y0, y1⟩ := mem_rng.mp hy
      cases e : extF n m T U u f (x, K, ms) y with
      | none => rw [e] at hg; cases hg
      | some g1 =>
        rw [e] at hg
        obtain ⟨a1, a2, a3⟩ := (extF_iff V W hn hf bs k0 k1 k2 k4 y0 y1 g1).mp e
        obtain ⟨b1, b2⟩ := (outs_mem V W n0 hn k5 bK a1 g).mp hg
        exact ⟨fun z hz => by rw [b2 z (sK z hz), a2 z hz], by rw [b2 x xK, a3]⟩
    show ((rng m).flatMap _).Pairwise (LtA n)
    rw [List.pairwise_flatMap]
    refine ⟨fun y hy => ?_, (rng_pw m).imp_of_mem fun {y y'} hy hy' hlt g hg g' hg' => ?_⟩
    · obtain ⟨y0, y1⟩ := mem_rng.mp hy
      cases e : extF n m T U u f (x, K, ms) y with
      | none => exact List.Pairwise.nil
      | some g1 => exact outs_pw V W n0 hn k5 bK ((extF_iff V W hn hf bs k0 k1 k2 k4 y0 y1 g1).mp e).1
    · obtain ⟨a1, a2⟩ := blk y hy g hg
      obtain ⟨b1, b2⟩ := blk y' hy' g' hg'
      refine ⟨x, k0, k1, fun z z0 z1 => ?_, by rw [a2, b2]; exact hlt⟩
      have hz := k3 z z0 z1
      rw [a1 z hz, b1 z hz]
theorem outs_len : ∀ {sts : List Stp} {f : List Int}, (outs n m T U u sts f).length ≤ (m.toNat + 1) ^ sts.length
  | [], f => by simp [outs]
  | st :: rest, f => by
    have key : ∀ l : List Int, (l.flatMap fun y => match extF n m T U u f st y with | none => [] | some g => outs n m T U u rest g).length ≤ l.length * (m.toNat + 1) ^ rest.length := by
      intro l
      induction l with
      | nil => simp
      | cons y l ih =>
        rw [List.flatMap_cons, List.length_append, List.length_cons, Nat.succ_mul]
        have : (match extF n m T U u f st y with | none => [] | some g => outs n m T U u rest g).length ≤ (m.toNat + 1) ^ rest.length := by
          cases extF n m T U u f st y with
          | none => exact Nat.zero_le _
          | some g => exact outs_len
        omega
    have h := key (rng m)
    rw [len_rng] at h
    refine Nat.le_trans h ?_
    rw [List.length_cons, Nat.pow_succ, Nat.mul_comm]
    exact Nat.mul_le_mul_left _ (Nat.le_succ _)
end
end LAW
namespace LAW
open DL PySem L2
theorem pfold_fm {α β : Type} {F : α → List β → M (List β)} (h : α → Option β) : ∀ (xs : List α) (a : List β), a.length + xs.length ≤ 16777216 → (∀ x ∈ xs, ∀ a : List β, a.length < 16777216 → F x a = .ok (a ++ (h x).toList)) → pfold F xs a = .ok (a ++ xs.filterMap h)
  | [], a, _, _ => by simp [pfold]
  | x :: xs, a, hl, hF => by
    rw [List.length_cons] at hl
    simp only [pfold]
    rw [hF x List.mem_cons_self a (by omega), bind_ok, pfold_fm h xs _ (by rw [List.length_append]; cases h x <;> simp <;> omega) fun y hy => hF y (List.mem_cons_of_mem _ hy)]
    rw [List.append_assoc]
    congr 2
    cases e : h x <;> simp [e]
theorem fm_flat {α β γ : Type} {h : α → Option β} {k : β → List γ} : ∀ xs : List α, (xs.filterMap h).flatMap k = xs.flatMap fun y => match h y with | none => [] | some e => k e
  | [] => rfl
  | x :: xs => by
    rw [List.flatMap_cons, ← fm_flat xs, List.filterMap_cons]
    cases h x <;> simp
theorem pop_snoc {α : Type} {xs : List α} {x : α} : pPop (xs ++ [x]) = .ok (x, xs) := by
  unfold pPop
  simp
theorem rng_down {m : Int} (hm : 0 ≤ m) (h : m ≤ 1000) : pRng3 (m - 1) (-1) (-1) = .ok (rng m).reverse := by
  unfold pRng3
  have hb : big = 16777216 := rfl
  rw [if_pos ⟨rfl, by omega, by omega⟩]
  congr 1
  refine List.ext_getElem (by simp [len_rng]) fun i h1 h2 => ?_
  have h1 : i < (m - 1 - -1).toNat := by simpa using h1
  simp only [List.getElem_map, List.getElem_range, List.getElem_reverse]
  unfold rng
  simp only [List.getElem_map, List.getElem_range, List.length_map, List.length_range]
  omega
section
variable {n m : Int} {T U : List (List Int)} {u : Bool}
theorem lastK_take : ∀ {S : List Int} {sts : List Stp} {k : Nat} {x : Int} {K : List Int} {ms : List Pr3}, sts[k]? = some (x, K, ms) → lastK S (sts.take (k + 1)) = K
  | _, [], _, _, _, _, h => by simp at h
  | _, (x', K', ms') :: rest, 0, _, _, _, h => by
    simp at h
    obtain ⟨rfl, rfl, rfl⟩ := h
    simp [lastK]
  | _, (x', K', ms') :: rest, k + 1, _, _, _, h => by
    rw [List.take_succ_cons]
    exact lastK_take (S := K') (sts := rest) (k := k) (by simpa using h)
theorem closF_drop : ∀ {S : List Int} {sts : List Stp} {k : Nat}, ClosF n T S sts → ClosF n T (lastK S (sts.take k)) (sts.drop k)
  | _, [], k, _ => by simp [ClosF]
  | _, _ :: _, 0, h => h
  | S, (x, K, ms) :: rest, k + 1, ⟨_, _, _, _, _, k5⟩ => closF_drop (S := K) (sts := rest) (k := k) k5
theorem closF_take : ∀ {S : List Int} {sts : List Stp} {k : Nat}, ClosF n T S sts → ClosF n T S (sts.take k)
  | _, [], k, _ => by simp [ClosF]
  | _, _ :: _, 0, h => trivial
  | S, (x, K, ms) :: rest, k + 1, ⟨k0, k1, k2, k3, k4, k5⟩ => ⟨k0, k1, k2, k3, k4, closF_take k5⟩
abbrev Wt := List Int × Int
def wsum (B : Nat) (d : Nat) (w : List Wt) : Nat := (w.map fun e => B ^ (d - e.2.toNat)).sum
theorem wsum_app {B d : Nat} {w v : List Wt} : wsum B d (w ++ v) = wsum B d w + wsum B d v := by unfold wsum; rw [List.map_append, List.sum_append]
theorem wsum_len {B d : Nat} (hB : 0 < B) : ∀ w : List Wt, w.length ≤ wsum B d w
  | [] => Nat.zero_le _
  | e :: w => by
    have := wsum_len (d := d) hB w
    have h1 : 0 < B ^ (d - e.2.toNat) := Nat.pow_pos hB
    unfold wsum at *
    rw [List.map_cons, List.sum_cons, List.length_cons]
    omega
theorem wsum_le {B d c : Nat} : ∀ {w : List Wt}, (∀ e ∈ w, B ^ (d - e.2.toNat) ≤ c) → wsum B d w ≤ w.length * c
  | [], _ => by simp [wsum]
  | e :: w, h => by
    have := wsum_le (w := w) fun e he => h e (List.mem_cons_of_mem _ he)
    have h1 := h e List.mem_cons_self
    unfold wsum at *
    rw [List.map_cons, List.sum_cons, List.length_cons, Nat.succ_mul]
    omega
theorem walk_d (V : VT n T) (W : VT m U) (n0 : 0 ≤ n) (hn : n ≤ 100) (m0 : 0 ≤ m) (hm : m ≤ 100) (hB : (m.toNat + 1) ^ n.toNat < 1000000) : ∃ l, P_walk (n, T) (m, U) u = .ok l ∧ l.length ≤ (m.toNat + 1) ^ n.toNat ∧ l.Pairwise (LtA n) ∧ ∀ g, g ∈ l ↔ PHu n m T U u (rng n) g := by
  obtain ⟨sts, es, hc, hall, hlen⟩ := closing_d V n0 hn
  have hl : (rng n).Perm (lastK [] sts) ∨ True := .inr trivial
  have bl := base_last hc Base.nil
  let f0 : List Int := List.replicate n.toNat (-1)
  have pf0 : PHu n m T U u [] f0 := ⟨⟨by simp [f0]; omega, (fun _ h => absurd h List.not_mem_nil), (fun _ h => absurd h List.not_mem_nil), fun z z0 z1 _ => by
    show (List.replicate n.toNat (-1 : Int)).getD z.toNat default = -1
    rw [List.getD_eq_getElem?_getD, List.getElem?_replicate, if_pos (by omega)]; rfl⟩, fun _ _ h => absurd h List.not_mem_nil⟩
  let tot := outs n m T U u sts f0
  let B := m.toNat + 1
  let d := sts.length
  have dn : d ≤ n.toNat := by show sts.length ≤ _; omega
  have Bd : B ^ d ≤ (m.toNat + 1) ^ n.toNat := Nat.pow_le_pow_right (Nat.succ_pos _) dn
  -- one entry
  let okE : Wt → Prop := fun e => 0 ≤ e.2 ∧ e.2.toNat ≤ d ∧ PHu n m T U u (lastK [] (sts.take e.2.toNat)) e.1
  let I : List Wt × List (List Int) → Prop := fun a => (∀ e ∈ a.1, okE e) ∧ a.2 ++ a.1.reverse.flatMap (fun e => outs n m T U u (sts.drop e.2.toNat) e.1) = tot ∧ wsum B d a.1 ≤ B ^ d
  have key : ∀ F : List Wt × List (List Int) → M (List Wt × List (List Int)), (∀ a, I a → decide ((a.1.length : Int) > 0) = true → ∃ b, F a = .ok b ∧ I b ∧ wsum B d b.1 < wsum B d a.1) →
      M.bind (pwhile (fun (a : List Wt × List (List Int)) => .ok (decide ((a.1.length : Int) > 0))) F fuel ([(f0, 0)], [])) (fun a => .ok a.2) = .ok tot := by
    intro F hF
    have w0 : wsum B d [(f0, 0)] = B ^ d := by simp [wsum]
    obtain ⟨b, e, ⟨i1, i2, i3⟩, hb⟩ := pwhile_iv (t := fun (a : List Wt × List (List Int)) => .ok (decide ((a.1.length : Int) > 0))) I (fun a => wsum B d a.1) (fun a => decide ((a.1.length : Int) > 0)) (fun a _ => rfl) hF fuel ([(f0, 0)], [])
      ⟨fun e he => by
        have he : e ∈ [(f0, (0 : Int))] := he
        rw [List.mem_singleton.mp he]
        exact ⟨Int.le_refl _, Nat.zero_le _, by simpa [lastK] using pf0⟩, by simp [tot], by show wsum B d [(f0, 0)] ≤ _; rw [w0]; exact Nat.le_refl _⟩ (by
        show wsum B d [(f0, 0)] < fuel
        rw [w0]
        have : fuel = 1000000 := rfl
        omega)
    rw [e, bind_ok]
    have hz : b.1 = [] := by
      have : ¬ ((b.1.length : Int) > 0) := by simpa using hb
      exact List.eq_nil_of_length_eq_zero (by omega)
    rw [hz] at i2
    simp only [List.reverse_nil, List.flatMap_nil, List.append_nil] at i2
    rw [i2]
  refine ⟨tot, ?_, Nat.le_trans outs_len Bd, outs_pw V W n0 hn hc Base.nil pf0, fun g => ?_⟩
  · unfold P_walk
    rw [es]
    simp only [pNX_ok, bind_ok]
    have hr : pRep [-1] n = .ok f0 := by
      unfold pRep
      have hb : big = 16777216 := rfl
      rw [if_pos ⟨by simp; omega, by omega⟩]
      congr 1
      show (List.replicate n.toNat [(-1 : Int)]).flatten = List.replicate n.toNat (-1)
      induction n.toNat with
      | zero => rfl
      | succ k ih => rw [List.replicate_succ, List.flatten_cons, ih, List.replicate_succ]; rfl
    rw [hr]
    simp only [bind_ok]
    refine key _ ?_
    rintro ⟨w, out⟩ ⟨i1, i2, i3⟩ hb
    have hb : (w.length : Int) > 0 := by simpa using hb
    have i1 : ∀ e ∈ w, okE e := i1
    have i2 : out ++ w.reverse.flatMap (fun e => outs n m T U u (sts.drop e.2.toNat) e.1) = tot := i2
    have i3 : wsum B d w ≤ B ^ d := i3
    obtain ⟨w', ⟨f, at_⟩, rfl⟩ : ∃ w' e, w = w' ++ [e] := ⟨w.dropLast, w.getLast (by intro h; rw [h] at hb; simp at hb), (List.dropLast_concat_getLast _).symm⟩
    obtain ⟨a0, a1, pf⟩ := i1 (f, at_) (by simp)
    have a0 : 0 ≤ at_ := a0
    have a1 : at_.toNat ≤ d := a1
    have pf : PHu n m T U u (lastK [] (sts.take at_.toNat)) f := pf
    have ws : wsum B d (w' ++ [(f, at_)]) = wsum B d w' + B ^ (d - at_.toNat) := by rw [wsum_app]; simp [wsum]
    rw [List.reverse_append] at i2
    simp only [List.reverse_cons, List.reverse_nil, List.nil_append, List.cons_append, List.flatMap_cons] at i2
    simp only []
    rw [pop_snoc, bind_ok]
    simp only []
    by_cases he : at_ = (sts.length : Int)
    · rw [if_pos (by simp [he])]
      refine ⟨_, rfl, ⟨fun e hx => i1 e (List.mem_append_left _ hx), ?_, by rw [ws] at i3; show wsum B d w' ≤ _; omega⟩, ?_⟩
      · show (out ++ [f]) ++ w'.reverse.flatMap _ = tot
        rw [← i2, List.append_assoc]
        congr 1
        have : sts.drop at_.toNat = [] := List.drop_eq_nil_of_le (by omega)
        rw [this]; rfl
      · show wsum B d w' < wsum B d (w' ++ [(f, at_)])
        rw [ws]
        have : 0 < B ^ (d - at_.toNat) := Nat.pow_pos (Nat.succ_pos _)
        omega
    · rw [if_neg (by simpa using he)]
      have alt : at_.toNat < sts.length := by
        have : at_.toNat ≤ sts.length := a1
        omega
      obtain ⟨⟨x, K, ms⟩, hst⟩ : ∃ st, sts[at_.toNat]? = some st := ⟨_, List.getElem?_eq_getElem alt⟩
      have hdrop : sts.drop at_.toNat = (x, K, ms) :: sts.drop (at_.toNat + 1) := by
        rw [List.drop_eq_getElem_cons alt]
        rw [List.getElem?_eq_getElem alt] at hst
        rw [Option.some.inj hst]
      have hcd := closF_drop (k := at_.toNat) hc
      rw [hdrop] at hcd
      obtain ⟨k0, k1, k2, k3, k4, k5⟩ := hcd
      have bS : Base n T (lastK [] (sts.take at_.toNat)) := base_last (closF_take hc) Base.nil
      have hat : pAt sts at_ = .ok (x, K, ms) := by
        rw [pAt_ok a0 (by omega)]
        congr 1
        show sts.getD at_.toNat default = _
        rw [List.getD_eq_getElem?_getD, hst]; rfl
      rw [rng_down m0 (by omega), bind_ok]
      let h : Int → Option Wt := fun y => (extF n m T U u f (x, K, ms) y).map fun g => (g, at_ + 1)
      have lw : w'.length ≤ 1000000 := by
        have := wsum_len (B := B) (d := d) (Nat.succ_pos _) w'
        rw [ws] at i3
        omega
      rw [pfold_fm h (rng m).reverse w' (by rw [List.length_reverse, len_rng]; omega) ?_, bind_ok]
      · have new : ∀ e ∈ (rng m).reverse.filterMap h, ∃ y g, 0 ≤ y ∧ y < m ∧ extF n m T U u f (x, K, ms) y = some g ∧ e = (g, at_ + 1) := by
          intro e he
          obtain ⟨y, hy, hh⟩ := List.mem_filterMap.mp he
          obtain ⟨y0, y1⟩ := mem_rng.mp (List.mem_reverse.mp hy)
          obtain ⟨g, hg, rfl⟩ := Option.map_eq_some_iff.mp hh
          exact ⟨y, g, y0, y1, hg, rfl⟩
        have t1 : (at_ + 1).toNat = at_.toNat + 1 := by omega
        have small : wsum B d ((rng m).reverse.filterMap h) < B ^ (d - at_.toNat) := by
          have s1 := wsum_le (B := B) (d := d) (c := B ^ (d - (at_.toNat + 1))) (w := (rng m).reverse.filterMap h) fun e he => by
            obtain ⟨y, g, _, _, _, rfl⟩ := new e he
            show B ^ (d - (at_ + 1).toNat) ≤ _
            rw [t1]; exact Nat.le_refl _
          have s2 : ((rng m).reverse.filterMap h).length ≤ m.toNat := by
            have := List.length_filterMap_le h (rng m).reverse
            rw [List.length_reverse, len_rng] at this
            exact this
          have s3 : B ^ (d - at_.toNat) = B ^ (d - (at_.toNat + 1)) * B := by
            have : d - at_.toNat = (d - (at_.toNat + 1)) + 1 := by show sts.length - _ = _; omega
            rw [this, Nat.pow_succ]
          have s4 : 0 < B ^ (d - (at_.toNat + 1)) := Nat.pow_pos (Nat.succ_pos _)
          have s5 := Nat.mul_le_mul_right (B ^ (d - (at_.toNat + 1))) s2
          rw [s3, show B = m.toNat + 1 from rfl, Nat.mul_comm, Nat.succ_mul]
          show wsum B d _ < m.toNat * B ^ (d - (at_.toNat + 1)) + B ^ (d - (at_.toNat + 1))
          omega
        refine ⟨_, rfl, ⟨fun e he => ?_, ?_, ?_⟩, ?_⟩
        · rcases List.mem_append.mp he with he | he
          · exact i1 e (List.mem_append_left _ he)
          · obtain ⟨y, g, y0, y1, hg, rfl⟩ := new e he
            refine ⟨by show 0 ≤ at_ + 1; omega, by show (at_ + 1).toNat ≤ sts.length; omega, ?_⟩
            show PHu n m T U u (lastK [] (sts.take (at_ + 1).toNat)) g
            rw [t1, lastK_take hst]
            exact ((extF_iff V W hn pf bS k0 k1 k2 k4 y0 y1 g).mp hg).1
        · show out ++ (w' ++ (rng m).reverse.filterMap h).reverse.flatMap _ = tot
          rw [← i2, List.reverse_append, ← List.filterMap_reverse, List.reverse_reverse, List.flatMap_append, fm_flat]
          congr 2
          rw [hdrop]
          show (rng m).flatMap _ = (rng m).flatMap _
          congr 1
          funext y
          have hy : h y = (extF n m T U u f (x, K, ms) y).map fun g => (g, at_ + 1) := rfl
          rw [hy]
          cases extF n m T U u f (x, K, ms) y with
          | none => rfl
          | some g =>
            show outs n m T U u (sts.drop (at_ + 1).toNat) g = outs n m T U u (sts.drop (at_.toNat + 1)) g
            rw [t1]
        · show wsum B d (w' ++ _) ≤ _
          rw [wsum_app]
          rw [ws] at i3
          omega
        · show wsum B d (w' ++ _) < wsum B d (w' ++ [(f, at_)])
          rw [wsum_app, ws]
          omega
      · intro y hy a ha
        obtain ⟨y0, y1⟩ := mem_rng.mp (List.mem_reverse.mp hy)
        obtain ⟨r, er, _⟩ := ext_d V W hn pf bS k0 k1 k2 k4 y0 y1
        have ex : extF n m T U u f (x, K, ms) y = r := by unfold extF; rw [er]
        rw [hat, bind_ok, er, bind_ok]
        show _ = M.ok (a ++ ((extF n m T U u f (x, K, ms) y).map fun g => (g, at_ + 1)).toList)
        rw [ex]
        cases r with
        | none => simp
        | some g =>
          simp only [Option.isSome_some, if_true, oM_some, bind_ok]
          rw [pApp_ok ha, bind_ok]
          rfl
  · rw [outs_mem V W n0 hn hc Base.nil pf0 g]
    have same : ∀ z, z ∈ lastK [] sts ↔ z ∈ rng n := fun z => ⟨fun h => mem_rng.mpr (bl.rg z h), fun h => hall z (mem_rng.mp h).1 (mem_rng.mp h).2⟩
    constructor
    · rintro ⟨⟨h1, h2⟩, _⟩
      exact ⟨⟨h1.len, fun z hz => h1.rg z ((same z).mpr hz), fun z hz w hw => h1.hom z ((same z).mpr hz) w ((same w).mpr hw), fun z z0 z1 hz => absurd (mem_rng.mpr ⟨z0, z1⟩) hz⟩, fun hu z hz w hw => h2 hu z ((same z).mpr hz) w ((same w).mpr hw)⟩
    · rintro ⟨h1, h2⟩
      exact ⟨⟨⟨h1.len, fun z hz => h1.rg z ((same z).mp hz), fun z hz w hw => h1.hom z ((same z).mp hz) w ((same w).mp hw), fun z z0 z1 hz => absurd ((same z).mpr (mem_rng.mpr ⟨z0, z1⟩)) hz⟩, fun hu z hz w hw => h2 hu z ((same z).mp hz) w ((same w).mp hw)⟩, fun _ h => absurd h List.not_mem_nil⟩
end
end LAW
namespace LAW
open DL PySem L2
section
variable {n m : Int} {T U : List (List Int)} {u : Bool}
abbrev Hm (n m : Int) (T U : List (List Int)) (u : Bool) (g : List Int) : Prop := PHu n m T U u (rng n) g
theorem LtA.irr {g : List Int} (h : LtA n g g) : False := by
  obtain ⟨x, _, _, _, h⟩ := h; omega
theorem lexLe_at : ∀ {g g' : List Int} {x : Int}, 0 ≤ x → x < g.length → x < g'.length → (∀ z, 0 ≤ z → z < x → ix g z = ix g' z) → ix g x < ix g' x → lexLe g g' = true
  | [], _, _, h0, h1, _, _, _ => by
    have h1 : _ < ((0 : Nat) : Int) := h1
    omega
  | _ :: _, [], _, h0, _, h2, _, _ => by
    have h2 : _ < ((0 : Nat) : Int) := h2
    omega
  | a :: r, b :: s, x, h0, h1, h2, h3, h4 => by
    rw [List.length_cons] at h1 h2
    unfold lexLe
    by_cases hx : x = 0
    · subst hx
      rw [ix_cons0, ix_cons0] at h4
      rw [if_neg (by omega)]
      exact decide_eq_true h4
    · have e := h3 0 (Int.le_refl _) (by omega)
      rw [ix_cons0, ix_cons0] at e
      rw [if_pos e]
      rw [ix_cons (by omega), ix_cons (by omega)] at h4
      refine lexLe_at (x := x - 1) (by omega) (by omega) (by omega) (fun z z0 z1 => ?_) h4
      have := h3 (z + 1) (by omega) (by omega)
      rw [ix_cons (by omega), ix_cons (by omega)] at this
      have e2 : z + 1 - 1 = z := by omega
      rw [e2] at this
      exact this
theorem LtA.le {g g' : List Int} (hg : (g.length : Int) = n) (hg' : (g'.length : Int) = n) (h : LtA n g g') : lexLe g g' = true := by
  obtain ⟨x, x0, x1, h1, h2⟩ := h
  exact lexLe_at x0 (by omega) (by omega) h1 h2
theorem ltA_nodup {l : List (List Int)} (h : l.Pairwise (LtA n)) : l.Nodup := h.imp fun h e => by subst e; exact h.irr
theorem ltA_sorted {l : List (List Int)} (h : l.Pairwise (LtA n)) (hl : ∀ g ∈ l, (g.length : Int) = n) : l.Pairwise (fun a b => lexLe a b = true) := h.imp_of_mem fun ha hb h => h.le (hl _ ha) (hl _ hb)
/-- the list, sorted, is the one that stands ascending -/
theorem sort_to {l d : List (List Int)} (h : l.Pairwise (LtA n)) (hl : ∀ g ∈ l, (g.length : Int) = n) (nd : d.Nodup) (hd : ∀ g, g ∈ d ↔ g ∈ l) : sortT d = l :=
  sortT_unique ((sortT_perm d).trans ((List.perm_ext_iff_of_nodup nd (ltA_nodup h)).mpr hd)) (sortT_sorted d) (ltA_sorted h hl)
theorem gathered_d (V : VT n T) (W : VT m U) (n0 : 0 ≤ n) (hn : n ≤ 100) (m0 : 0 ≤ m) (hm : m ≤ 100) (hB : (m.toNat + 1) ^ n.toNat ≤ 50000) : ∃ l, P_gathered (n, T) (m, U) u = .ok l ∧ l.length ≤ (m.toNat + 1) ^ n.toNat ∧ l.Pairwise (LtA n) ∧ ∀ g, g ∈ l ↔ Hm n m T U u g := by
  obtain ⟨l, e, h1, h2, h3⟩ := walk_d (u := u) V W n0 hn m0 hm (by omega)
  refine ⟨l, ?_, h1, h2, h3⟩
  unfold P_gathered
  rw [e]
  simp only [pNX_ok, bind_ok]
  obtain ⟨b, eb, hb⟩ := pfold_inv (F := fun (x11 : List Int) (a12 : List (List Int)) => M.bind (pApp a12 x11) fun c14 => if (decide ((c14.length : Int) > 50000)) = true then .exn "Refused" [("reason", eS ("many" : Str))] else .ok c14) (fun p a => a = p) l [] [] rfl fun p x q a hp ha => by
    subst ha
    have : (a ++ x :: q).length = l.length := by rw [← hp]; rfl
    rw [List.length_append, List.length_cons] at this
    refine ⟨a ++ [x], ?_, rfl⟩
    rw [pApp_ok (by omega), bind_ok, if_neg]
    have : ¬ (((a ++ [x]).length : Int) > 50000) := by rw [List.length_append, List.length_singleton]; omega
    simpa using this
  rw [eb, bind_ok, hb]
  rfl
end
end LAW
namespace LAW
open DL PySem L2
theorem pow_bd {a b c : Nat} (h1 : a + 1 ≤ b) (h2 : c ≤ 5) (hb : 1 ≤ b) : (a + 1) ^ c ≤ b ^ 5 := Nat.le_trans (Nat.pow_le_pow_left h1 c) (Nat.pow_le_pow_right hb h2)
def rowsL (m : Int) : Nat → List (List Int)
  | 0 => [[]]
  | k + 1 => (rowsL m k).flatMap fun r => (rng m).map fun x => r ++ [x]
theorem rows_mem {m : Int} : ∀ {k : Nat} {r : List Int}, r ∈ rowsL m k ↔ r.length = k ∧ ∀ x ∈ r, 0 ≤ x ∧ x < m
  | 0, r => by
    show r ∈ [[]] ↔ _
    rw [List.mem_singleton]
    constructor
    · rintro rfl; exact ⟨rfl, fun _ h => absurd h List.not_mem_nil⟩
    · rintro ⟨h, _⟩; exact List.eq_nil_of_length_eq_zero h
  | k + 1, r => by
    show r ∈ (rowsL m k).flatMap _ ↔ _
    rw [List.mem_flatMap]
    constructor
    · rintro ⟨q, hq, h⟩
      obtain ⟨x, hx, rfl⟩ := List.mem_map.mp h
      obtain ⟨h1, h2⟩ := rows_mem.mp hq
      refine ⟨by rw [List.length_append, h1]; rfl, fun y hy => ?_⟩
      rcases List.mem_append.mp hy with hy | hy
      · exact h2 y hy
      · rw [List.mem_singleton.mp hy]; exact mem_rng.mp hx
    · rintro ⟨h1, h2⟩
      have hne : r ≠ [] := fun h => by rw [h] at h1; cases h1
      have e := List.dropLast_concat_getLast hne
      refine ⟨r.dropLast, rows_mem.mpr ⟨by rw [List.length_dropLast, h1]; rfl, fun x hx => h2 x (List.dropLast_subset r hx)⟩, List.mem_map.mpr ⟨r.getLast hne, mem_rng.mpr (h2 _ (List.getLast_mem hne)), e⟩⟩
section
variable {n m : Int} {T U : List (List Int)}
def homA (n : Int) (T U : List (List Int)) (r : List Int) : Bool := (rng n).all fun x => (rng n).all fun y => decide (ix r (mul T x y) = mul U (ix r x) (ix r y))
theorem hm_iff (n0 : 0 ≤ n) {g : List Int} : Hm n m T U false g ↔ g ∈ (rowsL m n.toNat).filter (homA n T U) := by
  rw [List.mem_filter, rows_mem]
  unfold homA
  simp only [List.all_eq_true, decide_eq_true_eq]
  constructor
  · rintro ⟨h, _⟩
    have hl := h.len
    refine ⟨⟨by omega, fun x hx => ?_⟩, fun x hx y hy => h.hom x hx y hy⟩
    obtain ⟨i, i0, i1, rfl⟩ := mem_ix hx
    exact h.rg i (mem_rng.mpr ⟨i0, by omega⟩)
  · rintro ⟨⟨h1, h2⟩, h3⟩
    refine ⟨⟨by omega, fun z hz => ?_, fun z hz w hw => h3 z hz w hw, fun z z0 z1 hz => absurd (mem_rng.mpr ⟨z0, z1⟩) hz⟩, fun h => by cases h⟩
    obtain ⟨z0, z1⟩ := mem_rng.mp hz
    exact h2 _ (ix_mem z0 (by omega))
theorem hmu_iff {g : List Int} : Hm n m T U true g ↔ Hm n m T U false g ∧ Inj (rng n) g := ⟨fun h => ⟨⟨h.1, fun h => by cases h⟩, h.2 rfl⟩, fun h => ⟨h.1.1, fun _ => h.2⟩⟩
end
end LAW
namespace LAW
open DL PySem L2
def permL (n : Int) : Nat → List (List Int)
  | 0 => [[]]
  | k + 1 => (permL n k).flatMap fun r => ((rng n).filter fun x => !has x r).map fun x => r ++ [x]
theorem perm_mem {n : Int} : ∀ {k : Nat} {r : List Int}, r ∈ permL n k ↔ r.length = k ∧ r.Nodup ∧ ∀ x ∈ r, 0 ≤ x ∧ x < n
  | 0, r => by
    show r ∈ [[]] ↔ _
    rw [List.mem_singleton]
    constructor
    · rintro rfl; exact ⟨rfl, List.nodup_nil, fun _ h => absurd h List.not_mem_nil⟩
    · rintro ⟨h, _⟩; exact List.eq_nil_of_length_eq_zero h
  | k + 1, r => by
    show r ∈ (permL n k).flatMap _ ↔ _
    rw [List.mem_flatMap]
    constructor
    · rintro ⟨q, hq, h⟩
      obtain ⟨x, hx, rfl⟩ := List.mem_map.mp h
      obtain ⟨h1, h2, h3⟩ := perm_mem.mp hq
      obtain ⟨hx, hn⟩ := List.mem_filter.mp hx
      have hn : x ∉ q := fun z => by rw [has_iff.mpr z] at hn; cases hn
      refine ⟨by rw [List.length_append, h1]; rfl, List.nodup_append.mpr ⟨h2, by simp, fun a ha b hb => by rw [List.mem_singleton.mp hb]; exact fun z => hn (z ▸ ha)⟩, fun y hy => ?_⟩
      rcases List.mem_append.mp hy with hy | hy
      · exact h3 y hy
      · rw [List.mem_singleton.mp hy]; exact mem_rng.mp hx
    · rintro ⟨h1, h2, h3⟩
      have hne : r ≠ [] := fun h => by rw [h] at h1; cases h1
      have e := List.dropLast_concat_getLast hne
      have nd := h2
      rw [← e] at nd
      have nn := List.nodup_append.mp nd
      refine ⟨r.dropLast, perm_mem.mpr ⟨by rw [List.length_dropLast, h1]; rfl, nn.1, fun x hx => h3 x (List.dropLast_subset r hx)⟩, List.mem_map.mpr ⟨r.getLast hne, List.mem_filter.mpr ⟨mem_rng.mpr (h3 _ (List.getLast_mem hne)), ?_⟩, e⟩⟩
      cases hh : has (r.getLast hne) r.dropLast with
      | false => rfl
      | true => exact absurd rfl (nn.2.2 _ (has_iff.mp hh) _ (List.mem_singleton.mpr rfl))
theorem perm_nodup {n : Int} : ∀ k : Nat, (permL n k).Nodup
  | 0 => by simp [permL]
  | k + 1 => by
    show ((permL n k).flatMap _).Pairwise _
    rw [List.pairwise_flatMap]
    refine ⟨fun r _ => ?_, (perm_nodup k).imp fun {a b} hab x hx y hy e => ?_⟩
    · rw [List.pairwise_map]
      exact ((rng_nodup (n := n)).sublist List.filter_sublist).imp fun h e => h (by simpa using e)
    · obtain ⟨c, _, rfl⟩ := List.mem_map.mp hx
      obtain ⟨d, _, rfl⟩ := List.mem_map.mp hy
      exact hab (List.append_inj_left' e rfl)
theorem perm_len {n : Int} : ∀ k : Nat, (permL n k).length ≤ n.toNat ^ k
  | 0 => Nat.le_refl _
  | k + 1 => by
    have key : ∀ l : List (List Int), (l.flatMap fun r => ((rng n).filter fun x => !has x r).map fun x => r ++ [x]).length ≤ l.length * n.toNat := by
      intro l
      induction l with
      | nil => simp
      | cons r l ih =>
        rw [List.flatMap_cons, List.length_append, List.length_map, List.length_cons, Nat.succ_mul]
        have := List.length_filter_le (fun x => !has x r) (rng n)
        rw [len_rng] at this
        omega
    refine Nat.le_trans (key _) ?_
    rw [Nat.pow_succ]
    exact Nat.mul_le_mul_right _ (perm_len k)
theorem fold_permB {n : Int} (n0 : 0 ≤ n) (hn : n ≤ 100) {F : List Int → List (List Int) → M (List (List Int))} (hF : ∀ r a, F r a = M.bind (M.bind (M.bind (pRng n) fun c84 => pFil (fun (x85 : Int) => .ok (!has x85 r)) (fun (x85 : Int) => pCat r [x85]) c84) fun c86 => pCat a c86) fun c87 => .ok c87) : ∀ (xs : List (List Int)) (a : List (List Int)), (∀ r ∈ xs, r.length ≤ 1000) → a.length + xs.length * n.toNat ≤ 16777216 → pfold F xs a = .ok (a ++ xs.flatMap fun r => ((rng n).filter fun x => !has x r).map fun x => r ++ [x])
  | [], a, _, _ => by simp [pfold]
  | r :: xs, a, h1, h2 => by
    rw [List.length_cons, Nat.succ_mul] at h2
    have hb : big = 16777216 := rfl
    have hr := h1 r List.mem_cons_self
    have hf := List.length_filter_le (fun x => !has x r) (rng n)
    rw [len_rng] at hf
    simp only [pfold]
    rw [hF, pRng_ok n0 (by omega), bind_ok, pFil_ok (fun x => !has x r) (fun x => r ++ [x]) (by rw [len_rng, hb]; omega) (fun _ _ => rfl) (fun x _ _ => pCat_ok (by simp; omega)), bind_ok, pCat_ok (by rw [List.length_map]; omega), bind_ok, bind_ok]
    rw [fold_permB n0 hn hF xs _ (fun q hq => h1 q (List.mem_cons_of_mem _ hq)) (by rw [List.length_append, List.length_map]; omega), List.append_assoc]
    rfl
theorem arr_d {n : Int} (n0 : 0 ≤ n) (hn : n ≤ 5) : P__law_arrangements n = .ok (permL n n.toNat) := by
  unfold P__law_arrangements
  rw [pRng_ok n0 (by omega), bind_ok]
  have bd : ∀ k, k ≤ n.toNat → n.toNat ^ k ≤ 7776 := fun k hk => by
    have h1 : n.toNat ^ k ≤ (n.toNat + 1) ^ k := Nat.pow_le_pow_left (by omega) k
    have h2 : (n.toNat + 1) ^ k ≤ 6 ^ 5 := pow_bd (by omega) (by omega) (by omega)
    have h3 : 6 ^ 5 = 7776 := by decide
    omega
  have step : ∀ (k : Int) (a : List (List Int)), 0 ≤ k → k < n → a = permL n k.toNat → ∃ b, M.bind (pfold (fun (x81 : List Int) (a82 : List (List Int)) => M.bind (M.bind (M.bind (pRng n) fun c84 => pFil (fun (x85 : Int) => .ok (!has x85 x81)) (fun (x85 : Int) => pCat x81 [x85]) c84) fun c86 => pCat a82 c86) fun c87 => .ok c87) a []) (fun (a88 : List (List Int)) => .ok a88) = .ok b ∧ b = permL n (k + 1).toNat := by
    rintro k a k0 k1 rfl
    refine ⟨_, ?_, rfl⟩
    have hk := bd k.toNat (by omega)
    have hl := perm_len (n := n) k.toNat
    have hm : (permL n k.toNat).length * n.toNat ≤ 7776 * 5 := Nat.mul_le_mul (by omega) (by omega)
    rw [fold_permB n0 (by omega) (fun _ _ => rfl) _ [] (fun r hr => by have := (perm_mem.mp hr).1; omega) (by simp only [List.length_nil]; omega), bind_ok]
    have : (k + 1).toNat = k.toNat + 1 := by omega
    rw [this]
    rfl
  obtain ⟨b, e, hb⟩ := pfold_rng (F := fun (x62 : Int) (a63 : List (List Int)) => M.bind (pfold (fun (x81 : List Int) (a82 : List (List Int)) => M.bind (M.bind (M.bind (pRng n) fun c84 => pFil (fun (x85 : Int) => .ok (!has x85 x81)) (fun (x85 : Int) => pCat x81 [x85]) c84) fun c86 => pCat a82 c86) fun c87 => .ok c87) a63 []) fun (a88 : List (List Int)) => .ok a88) (fun k a => a = permL n k.toNat) n0 (a := [[]]) rfl step
  simp only [pRng_ok n0 (show n ≤ 16777216 by omega), bind_ok] at e ⊢
  rw [e, bind_ok, hb]
/-- a flag that only falls -/
theorem pfold_flag {α : Type} {F : α → Bool → M Bool} {p : α → Bool} : ∀ {xs : List α} {b : Bool}, (∀ x ∈ xs, ∀ b, F x b = .ok (b && p x)) → pfold F xs b = .ok (b && xs.all p)
  | [], b, _ => by simp [pfold]
  | x :: xs, b, h => by
    simp only [pfold]
    rw [h x List.mem_cons_self b, bind_ok, pfold_flag (p := p) fun y hy => h y (List.mem_cons_of_mem _ hy), List.all_cons, Bool.and_assoc]
theorem pfold_fil2 {α : Type} {F : α → List α → M (List α)} (p : α → Bool) : ∀ (xs : List α) (a : List α), a.length + xs.length ≤ 16777216 → (∀ x ∈ xs, ∀ a : List α, a.length < 16777216 → F x a = .ok (if p x = true then a ++ [x] else a)) → pfold F xs a = .ok (a ++ xs.filter p)
  | [], a, _, _ => by simp [pfold]
  | x :: xs, a, hl, h => by
    rw [List.length_cons] at hl
    simp only [pfold]
    rw [h x List.mem_cons_self a (by omega), bind_ok, pfold_fil2 p xs _ (by
      split
      · rw [List.length_append, List.length_singleton]; omega
      · omega) fun y hy => h y (List.mem_cons_of_mem _ hy)]
    cases hp : p x <;> simp [hp]
section
variable {n m : Int} {T U : List (List Int)}
abbrev isos (n : Int) (T U : List (List Int)) : List (List Int) := (permL n n.toNat).filter (homA n T U)
theorem found_ne (V : VT n T) (W : VT m U) (h : m ≠ n) : P__law_found T U = .ok [] := by
  unfold P__law_found
  rw [V.len, W.len, if_pos (by simp [h])]
theorem isos_prop (n0 : 0 ≤ n) {g : List Int} (h : g ∈ permL n n.toNat) : (g.length : Int) = n ∧ ∀ x ∈ g, 0 ≤ x ∧ x < n := by
  obtain ⟨h1, _, h3⟩ := perm_mem.mp h
  exact ⟨by omega, h3⟩
theorem plen (n5 : n ≤ 5) : (permL n n.toNat).length ≤ 7776 := by
  have hl := perm_len (n := n) n.toNat
  have h1 : n.toNat ^ n.toNat ≤ (n.toNat + 1) ^ n.toNat := Nat.pow_le_pow_left (by omega) _
  have h2 : (n.toNat + 1) ^ n.toNat ≤ 6 ^ 5 := pow_bd (by omega) (by omega) (by omega)
  have h3 : 6 ^ 5 = 7776 := by decide
  omega
theorem found_d (V : VT n T) (W : VT n U) (n1 : 1 ≤ n) (n5 : n ≤ 5) : P__law_found T U = .ok (sortT (isos n T U)) := by
  have n0 : 0 ≤ n := by omega
  unfold P__law_found
  rw [V.len, W.len, if_neg (by simp), arr_d n0 n5, bind_ok]
  rw [pfold_fil2 (homA n T U) _ [] (by have := plen n5; simp only [List.length_nil]; omega) (fun g hg a ha => ?_), bind_ok]
  · rw [List.nil_append, sort_ok (d := n.toNat) (by omega) (fun r hr => by have := (isos_prop n0 (List.mem_filter.mp hr).1).1; omega) (fun r hr x hx => ((isos_prop n0 (List.mem_filter.mp hr).1).2 x hx).1)]
    rfl
  · obtain ⟨gl, gr⟩ := isos_prop n0 hg
    have at' : ∀ x, 0 ≤ x → x < n → 0 ≤ ix g x ∧ ix g x < n := fun x x0 x1 => gr _ (ix_mem x0 (by omega))
    simp only [pRng_ok n0 (show n ≤ 16777216 by omega), bind_ok]
    rw [pfold_flag (p := fun x => (rng n).all fun y => decide (ix g (mul T x y) = mul U (ix g x) (ix g y))) (fun x hx b => ?_), bind_ok]
    · rw [Bool.true_and]
      show (if homA n T U g = true then _ else _) = _
      split
      · rw [pApp_ok ha, bind_ok]
      · rfl
    · obtain ⟨x0, x1⟩ := mem_rng.mp hx
      rw [pfold_flag (p := fun y => decide (ix g (mul T x y) = mul U (ix g x) (ix g y))) (fun y hy b => ?_), bind_ok]
      obtain ⟨y0, y1⟩ := mem_rng.mp hy
      have hm := V.lt x0 x1 y0 y1
      have ax := at' x x0 x1
      have ay := at' y y0 y1
      rw [V.at1 x0 x1, bind_ok, V.at2 x0 x1 y0 y1, bind_ok, pAt_ok hm.1 (by omega), bind_ok, pAt_ok x0 (by omega), bind_ok, W.at1 ax.1 ax.2, bind_ok, pAt_ok y0 (by omega), bind_ok, W.at2 ax.1 ax.2 ay.1 ay.2, bind_ok, bind_ok]
      by_cases he : ix g (mul T x y) = mul U (ix g x) (ix g y)
      · simp [he]
      · simp [he]
/-- the maps without equal images are the arrangements -/
theorem iso_iff (n0 : 0 ≤ n) {g : List Int} : Hm n n T U true g ↔ g ∈ isos n T U := by
  rw [hmu_iff, hm_iff n0, List.mem_filter, List.mem_filter, rows_mem, perm_mem]
  have nd : (g.length : Int) = n → (Inj (rng n) g ↔ g.Nodup) := fun hl => by
    have e := list_rng (xs := g) hl
    have h := map_nodup_iff (f := ix g) (rng_nodup (n := n))
    rw [← e] at h
    exact h.symm
  constructor
  · rintro ⟨⟨⟨a, b⟩, c⟩, d⟩; exact ⟨⟨a, (nd (by omega)).mp d, b⟩, c⟩
  · rintro ⟨⟨a, b, c⟩, d⟩; exact ⟨⟨⟨a, c⟩, d⟩, (nd (by omega)).mpr b⟩
theorem found_walk (V : VT n T) (W : VT n U) (n1 : 1 ≤ n) (n5 : n ≤ 5) : ∃ l, P_walk (n, T) (n, U) true = .ok l ∧ P__law_found T U = .ok l ∧ P_gathered (n, T) (n, U) true = .ok l ∧ ∀ g, g ∈ l ↔ g ∈ isos n T U := by
  have n0 : 0 ≤ n := by omega
  have bd : (n.toNat + 1) ^ n.toNat ≤ 6 ^ 5 := pow_bd (by omega) (by omega) (by omega)
  have b6 : 6 ^ 5 = 7776 := by decide
  obtain ⟨l, e, h1, h2, h3⟩ := walk_d (u := true) V W n0 (by omega) n0 (by omega) (by omega)
  obtain ⟨k, e', g1, g2, g3⟩ := gathered_d (u := true) V W n0 (by omega) n0 (by omega) (by omega)
  have nd : (isos n T U).Nodup := (perm_nodup _).sublist List.filter_sublist
  have hs : ∀ {l : List (List Int)}, l.Pairwise (LtA n) → (∀ g, g ∈ l ↔ Hm n n T U true g) → sortT (isos n T U) = l := fun h2 h3 => sort_to h2 (fun g hg => ((h3 g).mp hg).1.len) nd fun g => by rw [h3, iso_iff n0]
  have ek : k = l := by rw [← hs g2 g3, hs h2 h3]
  subst ek
  exact ⟨k, e, by rw [found_d V W n1 n5, hs g2 g3], e', fun g => by rw [g3, iso_iff n0]⟩
end
end LAW
namespace LAW
open DL PySem L2
section
variable {n m : Int} {T U : List (List Int)}
theorem find_d {l : List (List Int)} (h : P_walk (n, T) (n, U) true = .ok l) : P_find_isomorphism (n, T) (n, U) = .ok l.head? := by
  unfold P_find_isomorphism
  simp only [decide_true, Bool.not_true, Bool.false_eq_true, if_false]
  rw [h]
  simp only [pNX_ok, bind_ok]
  cases l with
  | nil => rfl
  | cons x r => rfl
theorem find_ne (h : n ≠ m) : P_find_isomorphism (n, T) (m, U) = .ok none := by
  unfold P_find_isomorphism
  rw [if_pos (by simp [h])]
theorem iso_back (n0 : 0 ≤ n) (V : VT n T) (W : VT n U) {g : List Int} (h : g ∈ isos n T U) : ∃ q, q ∈ isos n U T := by
  obtain ⟨hg, hh⟩ := List.mem_filter.mp h
  obtain ⟨h1, nd, h3⟩ := perm_mem.mp hg
  have hl : (g.length : Int) = n := by omega
  have sur : ∀ y, 0 ≤ y → y < n → y ∈ g := fun y y0 y1 => by
    apply Classical.byContradiction
    intro hn
    have := nodup_card (List.nodup_cons.mpr ⟨hn, nd⟩) (d := rng n) fun x hx => by
      rcases List.mem_cons.mp hx with rfl | hx
      · exact mem_rng.mpr ⟨y0, y1⟩
      · exact mem_rng.mpr (h3 x hx)
    rw [len_rng, List.length_cons] at this
    omega
  have hom : ∀ x ∈ rng n, ∀ y ∈ rng n, ix g (mul T x y) = mul U (ix g x) (ix g y) := fun x hx y hy => of_decide_eq_true (List.all_eq_true.mp (List.all_eq_true.mp hh x hx) y hy)
  have inj : ∀ x ∈ rng n, ∀ y ∈ rng n, ix g x = ix g y → x = y := by
    have e := list_rng (xs := g) hl
    have h := map_nodup_iff (f := ix g) (rng_nodup (n := n))
    rw [← e] at h
    exact h.mp nd
  have at' : ∀ y, 0 ≤ y → y < n → ix ((rng n).map (idx g)) y = idx g y := fun y y0 y1 => ix_map_rng y0 y1
  have lt : ∀ y, 0 ≤ y → y < n → 0 ≤ idx g y ∧ idx g y < n := fun y y0 y1 => by
    have := idx_lt (sur y y0 y1); omega
  refine ⟨(rng n).map (idx g), List.mem_filter.mpr ⟨perm_mem.mpr ⟨by rw [List.length_map, len_rng], (map_nodup_iff rng_nodup).mpr fun y hy z hz e => ?_, fun x hx => ?_⟩, ?_⟩⟩
  · obtain ⟨y0, y1⟩ := mem_rng.mp hy
    obtain ⟨z0, z1⟩ := mem_rng.mp hz
    rw [← ix_idx (sur y y0 y1), e, ix_idx (sur z z0 z1)]
  · obtain ⟨y, hy, rfl⟩ := List.mem_map.mp hx
    obtain ⟨y0, y1⟩ := mem_rng.mp hy
    exact lt y y0 y1
  · unfold homA
    simp only [List.all_eq_true, decide_eq_true_eq]
    intro y hy z hz
    obtain ⟨y0, y1⟩ := mem_rng.mp hy
    obtain ⟨z0, z1⟩ := mem_rng.mp hz
    have hm := W.lt y0 y1 z0 z1
    have ly := lt y y0 y1
    have lz := lt z z0 z1
    rw [at' _ hm.1 hm.2, at' y y0 y1, at' z z0 z1]
    refine inj _ (mem_rng.mpr (lt _ hm.1 hm.2)) _ (mem_rng.mpr (V.lt ly.1 ly.2 lz.1 lz.2)) ?_
    rw [ix_idx (sur _ hm.1 hm.2), hom _ (mem_rng.mpr ly) _ (mem_rng.mpr lz), ix_idx (sur y y0 y1), ix_idx (sur z z0 z1)]
theorem head_at {l : List (List Int)} : (if (decide ((l.length : Int) > 0)) = true then M.bind (pAt l 0) fun c29 => .ok (some c29) else .ok none) = (.ok l.head? : M (Option (List Int))) := by
  cases l with
  | nil => rfl
  | cons x r =>
    rw [if_pos (by simp), pAt_ok (by decide) (by simp)]
    rfl
theorem head_none {l : List (List Int)} : l.head?.isNone = decide ((l.length : Int) = 0) := by
  cases l with
  | nil => rfl
  | cons x r =>
    simp
    omega
end
theorem p_law (ns : List Int) : P_law ns = .ok true := by
  apply Ok.eq
  unfold P_law
  refine Ok.bind (state_d ns).nx fun r hr => ?_
  refine (semigroup_d (most := 5) (by decide) (by decide) r hr).bind fun c hc => ?_
  obtain ⟨⟨n, n1, n5, V, A⟩, hr⟩ := hc
  obtain ⟨T, r⟩ := c
  simp only at V A hr ⊢
  refine (semigroup_d (most := 5) (by decide) (by decide) r hr).bind fun c hc => ?_
  obtain ⟨hc, hr⟩ := hc
  obtain ⟨T2, r⟩ := c
  simp only at hc hr ⊢
  rw [V.len]
  simp only [bind_bind, bind_ok]
  refine (take_d (m := 2) (by decide) (by decide) r hr).bind fun c hcc => ?_
  obtain ⟨_, hr⟩ := hcc
  obtain ⟨b, r⟩ := c
  simp only at hr ⊢
  refine Ok.bind (P := fun q => SG 5 q) ?_ fun U hq => ?_
  · by_cases h : decide (b = 0) = true
    · rw [if_pos h]
      refine (order_d (by omega) (by omega) r hr).bind fun p hp => ?_
      have o := ord_of (by omega) hp.1
      refine (renamed_d (by omega) V o).bind fun S hS => Ok.pure ⟨n, n1, n5, hS.1, renamed_asc V o hS.2 A⟩
    · rw [if_neg h]
      exact Ok.pure hc
  obtain ⟨m, m1, m5, W, B⟩ := hq
  have n0 : 0 ≤ n := by omega
  rw [sg_d n1 (by omega) V A, bind_ok, sg_d m1 (by omega) W B, bind_ok]
  obtain ⟨a, a1, a2, a3, a4⟩ := found_walk V V n1 n5
  have ha : P_automorphisms (n, T) = .ok a := by
    unfold P_automorphisms P_one_to_one
    rw [a3]; rfl
  by_cases hnm : n = m
  · subst hnm
    obtain ⟨l, e1, e2, e3, e4⟩ := found_walk V W n1 n5
    obtain ⟨k, f1, f2, f3, f4⟩ := found_walk W V n1 n5
    rw [e2, bind_ok, find_d e1, bind_ok, head_at, bind_ok]
    have q1 : (!decide (l.head? = l.head?)) = false := by simp
    rw [q1]
    simp only [Bool.false_eq_true, if_false]
    rw [find_d f1, bind_ok, head_none]
    have q2 : decide ((k.length : Int) = 0) = decide ((l.length : Int) = 0) := by
      rw [Bool.eq_iff_iff, decide_eq_true_eq, decide_eq_true_eq]
      constructor
      · intro h
        have hk : k = [] := List.eq_nil_of_length_eq_zero (by omega)
        cases l with
        | nil => rfl
        | cons x r =>
          obtain ⟨q, hq⟩ := iso_back n0 V W ((e4 x).mp List.mem_cons_self)
          have := (f4 q).mpr hq
          rw [hk] at this; cases this
      · intro h
        have hl : l = [] := List.eq_nil_of_length_eq_zero (by omega)
        cases k with
        | nil => rfl
        | cons x r =>
          obtain ⟨q, hq⟩ := iso_back n0 W V ((f4 x).mp List.mem_cons_self)
          have := (e4 q).mpr hq
          rw [hl] at this; cases this
    rw [q2]
    simp only [decide_true, Bool.not_true, Bool.false_eq_true, if_false]
    rw [ha, bind_ok, a2, bind_ok]
    exact Ok.pure (by simp)
  · rw [found_ne V W (fun h => hnm h.symm), bind_ok, find_ne hnm, bind_ok, head_at, bind_ok]
    simp only [List.head?_nil, decide_true, Bool.not_true, Bool.false_eq_true, if_false]
    rw [find_ne (fun h => hnm h.symm), bind_ok]
    simp only [Option.isNone_none, List.length_nil]
    rw [ha, bind_ok, a2, bind_ok]
    exact Ok.pure (by simp)
end LAW
namespace LAW
open DL PySem L2
theorem math (ns : List Int) : d_law [.scr ns] = .ok (.bl true) := by
  have h := S_law ns
  rw [p_law ns] at h
  exact h
end LAW
open PySem PySem.W PySem.Calls PyProof.Rows
set_option maxRecDepth 100000 in
set_option maxHeartbeats 8000000 in
theorem PySem.Challenge.cw_reesblocks_k36_whole_isomorphisms_holds : PySem.Challenge.rw_reesblocks_k36_whole_isomorphisms.Holds := by
  w_on; o_law
  refine HandSHeadRun.head_any (r := OpenLaw.row PySem.Challenge.rw_reesblocks_k36_whole_isomorphisms) (q := view (OpenLaw.row PySem.Challenge.rw_reesblocks_k36_whole_isomorphisms).prog [39]) (H := LAW.hk) (ob := LAW.ob) (M := 4000) (loose := ((["_wall", "Fault", "Malformed", "Refused", "is_integer", "MOST_semigroup", "is_item", "taken_table", "is_associative", "Semigroup", "MOST_homs", "closing", "close", "extended", "walk", "gathered", "one_to_one", "find_isomorphism", "automorphisms", "_law_state", "_law_take", "_law_order_of", "_law_renamed", "_law_after", "_law_closed"] : List PySem.Str) ++ (["_law_of_maps", "_law_monogenic", "_law_triples", "_law_blocks", "_law_plain", "_law_extended", "_law_semigroup", "_law_arrangements", "_law_found"] : List PySem.Str))) (d := HandSHeadRun.topDef (OpenLaw.row PySem.Challenge.rw_reesblocks_k36_whole_isomorphisms).prog 39) (kwd := []) LAW.ob_eq
    (by kernel_rfl) (fun s => by kernel_rfl) LAW.run (by kernel_rfl) (by kernel_rfl) (by kernel_rfl) (by rfl) (by first | assumption | decide +kernel) (by decide +kernel) ⟨rfl, rfl, rfl, rfl, rfl, by decide +kernel⟩ ?hw ?hc
  case hw => w_witness2
  case hc => exact DL.law_end (l := PySem.Challenge.rw_reesblocks_k36_whole_isomorphisms) (k := 8) (by rfl) (by kernel_rfl) ⟨rfl, by decide, by decide⟩ (by kernel_rfl) (fun w K mg h KX G c => LAW.ok_law KX G c) LAW.math
