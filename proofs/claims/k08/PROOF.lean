import PyProof.Rows.All
import Wide.All
import OpenK.AllK
import Wide.FinOn
import HandS.ForExc
import HandS.Comp
import HandS.Iter
import HandS.Conv
import HandS.ExcSuper
import HandS.ExcField
import HandS.TryMany
import HandS.TupAny
import HandS.IsInst
import HandS.Wide
import HandS.Deep
import HandS.Style
import HandS.SortInts
import HandS.Defaults
import HandS.Head0
import HandS.Head1
import HandS.Head2
import HandS.HeadEnd
import HandS.HeadHook1
import HandS.HeadHook2
import PySem.Challenge.RW_reesblocks_k08_monogenic_semigroups
set_option Elab.async false
set_option linter.all false
set_option maxRecDepth 100000
set_option maxHeartbeats 8000000
/-! Data layer: programs over immutable data (D), owned local lists; a body's meaning is a plain function of data. -/
namespace DL
open PySem PySem.Spec PyProof.Rows L2

inductive D where
  | non | bl (b : Bool) | int (i : Int) | str (x : Str)
  | lst (xs : List D) | tup (xs : List D)
  | ins (c : Str) (ns : List Str) (ds : List D)
  /-- the script -/
  | scr (ns : List Int)

structure G where
  K : PySem.W.Frag
  mg : Str → Option Value

mutual
inductive Rv (g : G) (F : Hp) : V → D → Prop
  | non : Rv g F .non .non
  | bl (b : Bool) : Rv g F (.bl b) (.bl b)
  | int (i : Int) : Rv g F (.int i) (.int i)
  | str (x : Str) : Rv g F (.str x) (.str x)
  | lst {a : Addr} {vs : List V} {ds : List D} : F a = some (.lst vs) → Rl g F vs ds → Rv g F (.ref a) (.lst ds)
  | tup {a : Addr} {vs : List V} {ds : List D} : SqT g.K F a vs → Rl g F vs ds → Rv g F (.ref a) (.tup ds)
  | ins {a C dx : Addr} {c : Str} {ns : List Str} {vs : List V} {ds : List D} : F a = some (.ins C dx (ns.zip vs)) → g.mg c = some (.ref C) → ns.length = vs.length → Rl g F vs ds → Rv g F (.ref a) (.ins c ns ds)
  | scr {a : Addr} {ns : List Int} : SqL g.K F a (ns.map V.int) → Rv g F (.ref a) (.scr ns)
inductive Rl (g : G) (F : Hp) : List V → List D → Prop
  | nil : Rl g F [] []
  | cons {v : V} {vs : List V} {d : D} {ds : List D} : Rv g F v d → Rl g F vs ds → Rl g F (v :: vs) (d :: ds)
end

theorem sqT_mono {K : PySem.W.Frag} {F F' : Hp} {a : Addr} {xs : List V} (e : Same F F') (h : SqT K F a xs) : SqT K F' a xs := by
  rcases h with (h | ⟨o, h⟩) | h
  · exact .inl (.inl (e _ _ h))
  · exact .inl (.inr ⟨o, e _ _ h⟩)
  · exact .inr h
theorem sqL_mono {K : PySem.W.Frag} {F F' : Hp} {a : Addr} {xs : List V} (e : Same F F') (h : SqL K F a xs) : SqL K F' a xs := by
  rcases h with (h | ⟨o, h⟩) | h
  · exact .inl (.inl (e _ _ h))
  · exact .inl (.inr ⟨o, e _ _ h⟩)
  · exact .inr h
mutual
theorem Rv.mono {g : G} {F F' : Hp} (e : Same F F') : ∀ {v : V} {d : D}, Rv g F v d → Rv g F' v d
  | _, _, .non => .non
  | _, _, .bl b => .bl b
  | _, _, .int i => .int i
  | _, _, .str x => .str x
  | _, _, .lst h r => .lst (e _ _ h) (Rl.mono e r)
  | _, _, .tup h r => .tup (sqT_mono e h) (Rl.mono e r)
  | _, _, .ins h m l r => .ins (e _ _ h) m l (Rl.mono e r)
  | _, _, .scr h => .scr (sqL_mono e h)
theorem Rl.mono {g : G} {F F' : Hp} (e : Same F F') : ∀ {vs : List V} {ds : List D}, Rl g F vs ds → Rl g F' vs ds
  | _, _, .nil => .nil
  | _, _, .cons r t => .cons (Rv.mono e r) (Rl.mono e t)
end
section
variable {g : G} {F : Hp}
theorem Rl.length : ∀ {vs : List V} {ds : List D}, Rl g F vs ds → vs.length = ds.length
  | _, _, .nil => rfl
  | _, _, .cons _ t => by rw [List.length_cons, List.length_cons, Rl.length t]
theorem Rl.get : ∀ {vs : List V} {ds : List D} {i : Nat} {d : D}, Rl g F vs ds → ds[i]? = some d → ∃ v, vs[i]? = some v ∧ Rv g F v d
  | _, _, _, _, .nil, e => by simp at e
  | _, _, 0, _, .cons r _, e => by simp at e; subst e; exact ⟨_, rfl, r⟩
  | _, _, i + 1, d, .cons _ t, e => by
    obtain ⟨u, h1, h2⟩ := Rl.get (i := i) (d := d) t (by simpa using e)
    exact ⟨u, by simpa using h1, h2⟩
theorem Rl.get' : ∀ {vs : List V} {ds : List D} {i : Nat} {v : V}, Rl g F vs ds → vs[i]? = some v → ∃ d, ds[i]? = some d ∧ Rv g F v d
  | _, _, _, _, .nil, e => by simp at e
  | _, _, 0, _, .cons r _, e => by simp at e; subst e; exact ⟨_, rfl, r⟩
  | _, _, i + 1, d, .cons _ t, e => by
    obtain ⟨u, h1, h2⟩ := Rl.get' (i := i) (v := d) t (by simpa using e)
    exact ⟨u, by simpa using h1, h2⟩
theorem Rl.append : ∀ {vs ws : List V} {ds es : List D}, Rl g F vs ds → Rl g F ws es → Rl g F (vs ++ ws) (ds ++ es)
  | _, _, _, _, .nil, s => s
  | _, _, _, _, .cons r t, s => .cons r (Rl.append t s)
theorem Rl.take : ∀ {vs : List V} {ds : List D} (n : Nat), Rl g F vs ds → Rl g F (vs.take n) (ds.take n)
  | _, _, 0, _ => .nil
  | _, _, _ + 1, .nil => .nil
  | _, _, n + 1, .cons r t => .cons r (Rl.take n t)
theorem Rl.drop : ∀ {vs : List V} {ds : List D} (n : Nat), Rl g F vs ds → Rl g F (vs.drop n) (ds.drop n)
  | _, _, 0, r => r
  | _, _, _ + 1, .nil => .nil
  | _, _, n + 1, .cons _ t => Rl.drop n t
theorem Rl.set {v : V} {d : D} (r : Rv g F v d) : ∀ {vs : List V} {ds : List D} (i : Nat), Rl g F vs ds → Rl g F (vs.set i v) (ds.set i d)
  | _, _, _, .nil => .nil
  | _, _, 0, .cons _ t => .cons r t
  | _, _, i + 1, .cons q t => .cons q (Rl.set r i t)
theorem Rl.eraseIdx : ∀ {vs : List V} {ds : List D} (i : Nat), Rl g F vs ds → Rl g F (vs.eraseIdx i) (ds.eraseIdx i)
  | _, _, _, .nil => .nil
  | _, _, 0, .cons _ t => t
  | _, _, i + 1, .cons q t => .cons q (Rl.eraseIdx i t)
theorem Rl.rep {vs : List V} {ds : List D} (h : Rl g F vs ds) : ∀ k : Nat, Rl g F (List.replicate k vs).flatten (List.replicate k ds).flatten
  | 0 => .nil
  | k + 1 => by rw [List.replicate_succ, List.replicate_succ, List.flatten_cons, List.flatten_cons]; exact h.append (Rl.rep h k)
theorem Rl.ints : ∀ {vs : List V} {ns : List Int}, Rl g F vs (ns.map D.int) → vs = ns.map V.int
  | _, [], .nil => rfl
  | _, n :: ns, .cons r t => by cases r; rw [Rl.ints t]; rfl
theorem Rl.of_ints : ∀ (ns : List Int), Rl g F (ns.map V.int) (ns.map D.int)
  | [] => .nil
  | n :: ns => .cons (.int n) (Rl.of_ints ns)
theorem Rl.bls : ∀ {vs : List V} {ns : List Bool}, Rl g F vs (ns.map D.bl) → vs = ns.map V.bl
  | _, [], .nil => rfl
  | _, n :: ns, .cons r t => by cases r; rw [Rl.bls t]; rfl
end

/-! ### slots, states -/
inductive Slot where
  | no | sh (d : D) | ow (ds : List D) | rf (k : Nat) (ds : List D) | oi (k : Nat) (c : Str) (ns : List Str) (ds : List D)
abbrev DSt := List Slot
structure Par where
  B : List Addr
  R : Hp
  N : Addr → Prop

def SlotOk (g : G) (P : Par) (O : Addr → Option Nat) (F H : Hp) (i : Nat) (s : Slot) (ov : Option V) : Prop := match s with
  | .no => True
  | .sh d => ∃ v, ov = some v ∧ Rv g F v d
  | .ow ds => ∃ a vs, ov = some (.ref a) ∧ O a = some i ∧ ¬ P.N a ∧ H a = some (.lst vs) ∧ Rl g F vs ds
  | .rf k ds => ∃ a vs, ov = some (.ref a) ∧ P.B[k]? = some a ∧ O a = some i ∧ H a = some (.lst vs) ∧ Rl g F vs ds
  | .oi k c ns ds => ∃ a C dx vs, ov = some (.ref a) ∧ P.B[k]? = some a ∧ O a = some i ∧ g.mg c = some (.ref C) ∧ ns.length = vs.length ∧ H a = some (.ins C dx (ns.zip vs)) ∧ Rl g F vs ds

structure SRc (g : G) (P : Par) (O : Addr → Option Nat) (σ : L2.St) (H F : Hp) (st : DSt) : Prop where
  le : Same F H
  rr : Same P.R H
  oo : ∀ a i, O a = some i → F a = none ∧ P.R a = none ∧ H a ≠ none
  no : ∀ a, P.N a → F a = none ∧ H a ≠ none
  len : σ.length = st.length
  sl : ∀ i s ov, st[i]? = some s → σ[i]? = some ov → SlotOk g P O F H i s ov
def SR (g : G) (P : Par) (σ : L2.St) (H F : Hp) (st : DSt) : Prop := ∃ O, SRc g P O σ H F st
/-- .. and p belongs to nobody -/
def SRx (g : G) (P : Par) (σ : L2.St) (H F : Hp) (st : DSt) (p : Addr) : Prop := ∃ O, SRc g P O σ H F st ∧ O p = none ∧ F p = none ∧ P.R p = none ∧ ¬ P.N p

structure Grow (H F H' F' : Hp) : Prop where
  h : Same H H'
  f : Same F F'
  i : Same F' H'
  n : ∀ a, H a ≠ none → F a = none → F' a = none
theorem Grow.refl {H F : Hp} (l : Same F H) : Grow H F H F := ⟨Same.refl _, Same.refl _, l, fun _ _ h => h⟩
theorem Grow.trans {H F H1 F1 H2 F2 : Hp} (a : Grow H F H1 F1) (b : Grow H1 F1 H2 F2) : Grow H F H2 F2 :=
  ⟨a.h.trans b.h, a.f.trans b.f, b.i, fun x h1 h2 => b.n x (fun z => by
    cases e : H x with
    | none => exact h1 e
    | some o => rw [a.h x o e] at z; cases z) (a.n x h1 h2)⟩
theorem ne_some {α : Type} {o : Option α} (h : o ≠ none) : ∃ x, o = some x := by
  cases o with
  | none => exact absurd rfl h
  | some x => exact ⟨x, rfl⟩
theorem Same.ne {H H' : Hp} (e : Same H H') {a : Addr} (h : H a ≠ none) : H' a ≠ none := by
  obtain ⟨o, ho⟩ := ne_some h
  rw [e a o ho]; simp
/-- a new object, frozen -/
theorem Grow.new {H F : Hp} {p : Addr} {o : HO} (l : Same F H) (h : H p = none) : Grow H F (upd H p o) (upd F p o) := by
  have hp : ∀ {b : Addr} {u : HO}, H b = some u → b ≠ p := fun e z => by subst z; rw [h] at e; cases e
  refine ⟨fun b u e => by rw [upd_ne (hp e)]; exact e, fun b u e => by rw [upd_ne (hp (l _ _ e))]; exact e, fun b u e => ?_, fun b hb hf => ?_⟩
  · by_cases hbp : b = p
    · subst hbp; rw [upd_same] at e ⊢; exact e
    · rw [upd_ne hbp] at e ⊢; exact l _ _ e
  · obtain ⟨u, e⟩ := ne_some hb
    rw [upd_ne (hp e)]; exact hf
/-- a new object, not frozen -/
theorem Grow.new0 {H F : Hp} {p : Addr} {o : HO} (l : Same F H) (h : H p = none) : Grow H F (upd H p o) F := by
  have hp : ∀ {b : Addr} {u : HO}, H b = some u → b ≠ p := fun e z => by subst z; rw [h] at e; cases e
  exact ⟨fun b u e => by rw [upd_ne (hp e)]; exact e, Same.refl _, fun b u e => by rw [upd_ne (hp (l _ _ e))]; exact l _ _ e, fun _ _ h => h⟩
section
variable {g : G} {P : Par} {O : Addr → Option Nat} {σ : L2.St} {H F H' F' : Hp} {st : DSt}
theorem SlotOk.grow {i : Nat} {s : Slot} {ov : Option V} (gr : Grow H F H' F') (h : SlotOk g P O F H i s ov) : SlotOk g P O F' H' i s ov := by
  cases s with
  | no => trivial
  | sh d => obtain ⟨v, e, r⟩ := h; exact ⟨v, e, r.mono gr.f⟩
  | ow ds => obtain ⟨a, vs, e, o, n, h1, r⟩ := h; exact ⟨a, vs, e, o, n, gr.h _ _ h1, r.mono gr.f⟩
  | rf k ds => obtain ⟨a, vs, e, b, o, h1, r⟩ := h; exact ⟨a, vs, e, b, o, gr.h _ _ h1, r.mono gr.f⟩
  | oi k c ns ds => obtain ⟨a, C, dx, vs, e, b, o, m, l, h1, r⟩ := h; exact ⟨a, C, dx, vs, e, b, o, m, l, gr.h _ _ h1, r.mono gr.f⟩
theorem SRc.grow (s : SRc g P O σ H F st) (gr : Grow H F H' F') : SRc g P O σ H' F' st :=
  ⟨gr.i, s.rr.trans gr.h, fun a i e => ⟨gr.n a (s.oo a i e).2.2 (s.oo a i e).1, (s.oo a i e).2.1, Same.ne gr.h (s.oo a i e).2.2⟩,
    fun a n => ⟨gr.n a (s.no a n).2 (s.no a n).1, Same.ne gr.h (s.no a n).2⟩, s.len, fun i sl ov e1 e2 => (s.sl i sl ov e1 e2).grow gr⟩
theorem SR.grow (s : SR g P σ H F st) (gr : Grow H F H' F') : SR g P σ H' F' st := let ⟨O, c⟩ := s; ⟨O, c.grow gr⟩
theorem SR.le (s : SR g P σ H F st) : Same F H := let ⟨_, c⟩ := s; c.le
theorem SR.len (s : SR g P σ H F st) : σ.length = st.length := let ⟨_, c⟩ := s; c.len
end

/-! ### results -/
inductive Res (α : Type) where
  | ok (a : α) (st : DSt) | exn (c : Str) (fs : List (Str × D)) (st : DSt) | stuck
inductive M (α : Type) where
  | ok (a : α) | exn (c : Str) (fs : List (Str × D)) | stuck
abbrev Den (α : Type) := DSt → Res α
@[simp] def bindD {α β : Type} (a : Den α) (k : α → Den β) : Den β := fun st => match a st with
  | .ok x st' => k x st'
  | .exn c fs st' => .exn c fs st'
  | .stuck => .stuck
@[simp] def liftO {α : Type} (o : Option α) : Den α := fun st => match o with
  | some a => .ok a st
  | none => .stuck
@[simp] def liftM' {α : Type} (m : M α) : Den α := fun st => match m with
  | .ok a => .ok a st
  | .exn c fs => .exn c fs st
  | .stuck => .stuck
@[simp] def retD {α : Type} (a : α) : Den α := fun st => .ok a st

def RepX (g : G) (F H : Hp) (c : Str) (fs : List (Str × D)) (cls : Value) (dd : Option Addr) : Prop :=
  ∃ C, g.mg c = some (.ref C) ∧ cls = .ref C ∧ ((fs = [] ∧ dd = none) ∨ ∃ d nm v x, dd = some d ∧ fs = [(nm, x)] ∧ H d = some (.xd [(nm, v)]) ∧ Rv g F v x)
theorem RepX.mono {g : G} {F F' H H' : Hp} {c : Str} {fs : List (Str × D)} {cls : Value} {dd : Option Addr} (ef : Same F F') (eh : Same H H') (h : RepX g F H c fs cls dd) : RepX g F' H' c fs cls dd := by
  obtain ⟨C, m, e, h⟩ := h
  refine ⟨C, m, e, ?_⟩
  rcases h with h | ⟨d, nm, v, x, e1, e2, e3, r⟩
  · exact .inl h
  · exact .inr ⟨d, nm, v, x, e1, e2, eh _ _ e3, r.mono ef⟩

def Out {α : Type} (g : G) (W : WX) (P : Par) (σ : L2.St) (F : Hp) (r : Res α) (k : α → DSt → Hp → Hp → Prop) : Prop := match r with
  | .ok a st' => ∀ H' F', Same F F' → SR g P σ H' F' st' → k a st' H' F'
  | .exn c fs st' => ∀ cls dd H' F', Same F F' → SR g P σ H' F' st' → RepX g F' H' c fs cls dd → W cls dd σ H'
  | .stuck => False
section
variable {g : G} {W : WX} {P : Par} {σ : L2.St} {F F' : Hp} {α β : Type}
theorem Out.imp {r : Res α} {k k' : α → DSt → Hp → Hp → Prop} (h : Out g W P σ F r k) (hk : ∀ a st' H' F', Same F F' → SR g P σ H' F' st' → k a st' H' F' → k' a st' H' F') : Out g W P σ F r k' := by
  cases r with
  | ok a st' => exact fun H' F' e s => hk a st' H' F' e s (h H' F' e s)
  | exn c fs st' => exact h
  | stuck => exact h
theorem Out.weak {r : Res α} {k : α → DSt → Hp → Hp → Prop} (e : Same F F') (h : Out g W P σ F r k) : Out g W P σ F' r k := by
  cases r with
  | ok a st' => exact fun H' F2 e2 s => h H' F2 (e.trans e2) s
  | exn c fs st' => exact fun cls dd H' F2 e2 s => h cls dd H' F2 (e.trans e2) s
  | stuck => exact h
theorem Out.bind {a : Den α} {f : α → Den β} {st : DSt} {k : β → DSt → Hp → Hp → Prop} (h : Out g W P σ F (bindD a f st) k) : Out g W P σ F (a st) (fun x st1 _ F1 => Out g W P σ F1 (f x st1) k) := by
  unfold bindD at h
  revert h
  cases a st with
  | ok x st' => exact fun h H' F' e s => Out.weak e h
  | exn c fs st' => exact fun h => h
  | stuck => exact fun h => h
theorem Out.lift {o : Option α} {st : DSt} {k : α → DSt → Hp → Hp → Prop} (h : Out g W P σ F (liftO o st) k) : ∃ a, o = some a ∧ ∀ H' F', Same F F' → SR g P σ H' F' st → k a st H' F' := by
  cases o with
  | some a => exact ⟨a, rfl, h⟩
  | none => exact h.elim
end

/-! ### judgements -/
def tE (g : G) (W : WX) (f : Den D) : TE := fun σ H Q => ∃ P F st, SR g P σ H F st ∧ Out g W P σ F (f st) fun d _ H' F' => ∀ v, Rv g F' v d → Q v H'
def tT (g : G) (W : WX) (f : Den Bool) : TT := fun σ H Q => ∃ P F st, SR g P σ H F st ∧ Out g W P σ F (f st) fun b _ H' _ => Q b H'
def tA (g : G) (W : WX) (f : Den (List D)) : TA := fun σ H Q => ∃ P F st, SR g P σ H F st ∧ Out g W P σ F (f st) fun ds _ H' F' => ∀ vs, Rl g F' vs ds → Q vs H'
/-- a new list, owned by nobody -/
def OutN (g : G) (W : WX) (P : Par) (σ : L2.St) (F : Hp) (r : Res (List D)) (Q : VK) : Prop := match r with
  | .ok ds st' => ∀ H' F' p vs, Same F F' → SRx g P σ H' F' st' p → H' p = some (.lst vs) → Rl g F' vs ds → Q (.ref p) H'
  | .exn c fs st' => ∀ cls dd H' F', Same F F' → SR g P σ H' F' st' → RepX g F' H' c fs cls dd → W cls dd σ H'
  | .stuck => False
def tN (g : G) (W : WX) (f : Den (List D)) : TE := fun σ H Q => ∃ P F st, SR g P σ H F st ∧ OutN g W P σ F (f st) Q

theorem _root_.L2.PE.imp {X : Cx} {e : Expr} {t t' : TE} (h : PE X e t) (i : ∀ σ H Q, t' σ H Q → t σ H Q) : PE X e t' := ⟨fun pins s σ H Q I q => h.run pins s σ H Q I (i σ H Q q)⟩
theorem _root_.L2.PT.imp {X : Cx} {e : Expr} {t t' : TT} (h : PT X e t) (i : ∀ σ H Q, t' σ H Q → t σ H Q) : PT X e t' := ⟨fun pins s σ H Q I q => h.run pins s σ H Q I (i σ H Q q)⟩
theorem _root_.L2.PW.imp {X : Cx} {e : Expr} {t t' : TT} (h : PW X e t) (i : ∀ σ H Q, t' σ H Q → t σ H Q) : PW X e t' := ⟨fun w pins s σ H Q I q => h.run w pins s σ H Q I (i σ H Q q)⟩
theorem _root_.L2.PA.imp {X : Cx} {e : List Expr} {t t' : TA} (h : PA X e t) (i : ∀ σ H Q, t' σ H Q → t σ H Q) : PA X e t' := ⟨fun pos pins s σ H Q I q => h.run pos pins s σ H Q I (i σ H Q q)⟩
theorem _root_.L2.PS.imp {X : Cx} {e : Stmt} {t t' : TS} (h : PS X e t) (i : ∀ D σ H, t' D σ H → t D σ H) : PS X e t' := ⟨fun pins s σ H D I q => h.run pins s σ H D I (i D σ H q)⟩
theorem _root_.L2.PSs.imp {X : Cx} {e : List Stmt} {t t' : TS} (h : PSs X e t) (i : ∀ D σ H, t' D σ H → t D σ H) : PSs X e t' := ⟨fun pins s σ H D I q => h.run pins s σ H D I (i D σ H q)⟩
/-- read at the heap: frozen, or an owned list -/
def Br (g : G) (F H : Hp) (v : V) (d : D) : Prop := Rv g F v d ∨ ∃ a vs ds, v = .ref a ∧ d = .lst ds ∧ H a = some (.lst vs) ∧ Rl g F vs ds
end DL

namespace DL
open PySem PySem.Spec PyProof.Rows L2

/-! ### data as plain data -/
mutual
def toPy : D → Option PyData
  | .non => some .none
  | .bl b => some (.bool b)
  | .int i => some (.int i)
  | .str x => some (.str x)
  | .lst xs => match toPys xs with | some ps => some (.list ps) | none => none
  | .tup xs => match toPys xs with | some ps => some (.tuple ps) | none => none
  | .ins _ _ _ => none
  | .scr _ => none
def toPys : List D → Option (List PyData)
  | [] => some []
  | d :: ds => match toPy d, toPys ds with | some p, some ps => some (p :: ps) | _, _ => none
end
theorem sqL_of {K : PySem.W.Frag} {H : Hp} {a : Addr} {xs : List V} (h : H a = some (.lst xs)) : SqL K H a xs := .inl (.inl h)
mutual
theorem Rv.dp {g : G} {F H : Hp} (l : Same F H) : ∀ {v : V} {d : D} {p : PyData}, Rv g F v d → toPy d = some p → Dp g.K H v p
  | _, .non, _, r, e => by cases r; cases e; exact .non
  | _, .bl b, _, r, e => by cases r; cases e; exact .bl b
  | _, .int b, _, r, e => by cases r; cases e; exact .int b
  | _, .str b, _, r, e => by cases r; cases e; exact .str b
  | _, .lst xs, _, r, e => by
    cases r with
    | lst h q =>
      unfold toPy at e
      cases z : toPys xs with
      | none => rw [z] at e; cases e
      | some ps => rw [z] at e; cases e; exact .lst (sqL_of (l _ _ h)) (Rl.dp l q z)
  | _, .tup xs, _, r, e => by
    cases r with
    | tup h q =>
      unfold toPy at e
      cases z : toPys xs with
      | none => rw [z] at e; cases e
      | some ps => rw [z] at e; cases e; exact .tup (sqT_mono l h) (Rl.dp l q z)
  | _, .ins _ _ _, _, r, e => by cases e
  | _, .scr _, _, r, e => by cases e
theorem Rl.dp {g : G} {F H : Hp} (l : Same F H) : ∀ {vs : List V} {ds : List D} {ps : List PyData}, Rl g F vs ds → toPys ds = some ps → DpAll g.K H vs ps
  | _, [], _, r, e => by cases r; cases e; exact .nil
  | _, d :: ds, _, r, e => by
    cases r with
    | cons a b =>
      unfold toPys at e
      cases z : toPy d with
      | none => rw [z] at e; cases e
      | some p =>
        cases z2 : toPys ds with
        | none => rw [z, z2] at e; cases e
        | some ps => rw [z, z2] at e; cases e; exact .cons (Rv.dp l a z) (Rl.dp l b z2)
end
theorem Br.dp {g : G} {F H : Hp} (l : Same F H) {v : V} {d : D} {p : PyData} (r : Br g F H v d) (e : toPy d = some p) : Dp g.K H v p := by
  rcases r with r | ⟨a, vs, ds, rfl, rfl, h, q⟩
  · exact r.dp l e
  · unfold toPy at e
    cases z : toPys ds with
    | none => rw [z] at e; cases e
    | some ps => rw [z] at e; cases e; exact .lst (sqL_of h) (Rl.dp l q z)
theorem Br.lst {g : G} {F H : Hp} (l : Same F H) {v : V} {ds : List D} (r : Br g F H v (.lst ds)) : ∃ a vs, v = .ref a ∧ H a = some (.lst vs) ∧ Rl g F vs ds := by
  rcases r with r | ⟨a, vs, ds', rfl, e, h, q⟩
  · cases r with
    | lst h q => exact ⟨_, _, rfl, l _ _ h, q⟩
  · cases e; exact ⟨a, vs, rfl, h, q⟩
theorem Br.tup {g : G} {F H : Hp} (l : Same F H) {v : V} {ds : List D} (r : Br g F H v (.tup ds)) : ∃ a vs, v = .ref a ∧ SqT g.K H a vs ∧ Rl g F vs ds := by
  rcases r with r | ⟨a, vs, ds', rfl, e, h, q⟩
  · cases r with
    | tup h q => exact ⟨_, _, rfl, sqT_mono l h, q⟩
  · cases e
theorem Br.int {g : G} {F H : Hp} {v : V} {i : Int} (r : Br g F H v (.int i)) : v = .int i := by
  rcases r with r | ⟨a, vs, ds', rfl, e, h, q⟩
  · cases r; rfl
  · cases e
theorem Br.bl {g : G} {F H : Hp} {v : V} {i : Bool} (r : Br g F H v (.bl i)) : v = .bl i := by
  rcases r with r | ⟨a, vs, ds', rfl, e, h, q⟩
  · cases r; rfl
  · cases e
theorem Br.str {g : G} {F H : Hp} {v : V} {i : Str} (r : Br g F H v (.str i)) : v = .str i := by
  rcases r with r | ⟨a, vs, ds', rfl, e, h, q⟩
  · cases r; rfl
  · cases e
theorem Br.non {g : G} {F H : Hp} {v : V} (r : Br g F H v .non) : v = .non := by
  rcases r with r | ⟨a, vs, ds', rfl, e, h, q⟩
  · cases r; rfl
  · cases e

/-! ### operations on values -/
def VO1 (g : G) (r : V → Hp → VK → Prop) (op : D → Option D) : Prop := ∀ (H F : Hp) (v : V) (d z : D), Same F H → Br g F H v d → op d = some z → ∀ Q : VK, (∀ v' H' F', Grow H F H' F' → Rv g F' v' z → Q v' H') → r v H Q
def VO2 (g : G) (r : R2) (op : D → D → Option D) : Prop := ∀ (H F : Hp) (v u : V) (d e z : D), Same F H → Br g F H v d → Br g F H u e → op d e = some z → ∀ Q : VK, (∀ v' H' F', Grow H F H' F' → Rv g F' v' z → Q v' H') → r v u H Q
def VOC (g : G) (r : List V → Hp → VK → Prop) (op : D → Option D) : Prop := VO1 g (fun v => r [v]) op
def VOC2 (g : G) (r : List V → Hp → VK → Prop) (op : D → D → Option D) : Prop := VO2 g (fun v u => r [v, u]) op
/-- .. that give a new list -/
def VN1 (g : G) (r : V → Hp → VK → Prop) (op : D → Option (List D)) : Prop := ∀ (H F : Hp) (v : V) (d : D) (zs : List D), Same F H → Br g F H v d → op d = some zs → ∀ Q : VK, (∀ p vs, H p = none → Rl g F vs zs → Q (.ref p) (upd H p (.lst vs))) → r v H Q
def VN2 (g : G) (r : R2) (op : D → D → Option (List D)) : Prop := ∀ (H F : Hp) (v u : V) (d e : D) (zs : List D), Same F H → Br g F H v d → Br g F H u e → op d e = some zs → ∀ Q : VK, (∀ p vs, H p = none → Rl g F vs zs → Q (.ref p) (upd H p (.lst vs))) → r v u H Q

theorem OpR.or {X : Cx} {f : Value → Value → Sem Value} {r r' : R2} (h : OpR X f r) (h' : OpR X f r') : OpR X f (fun x y H Q => r x y H Q ∨ r' x y H Q) := by
  intro pins s σ H x y v u Q I rx ry q
  rcases q with q | q
  · exact h pins s σ H x y v u Q I rx ry q
  · exact h' pins s σ H x y v u Q I rx ry q

section
variable {g : G}
def big : Nat := 16777216
theorem big_eq : big = sizeLine := by rw [sizeLine_eq]; rfl

@[simp] def opAdd : D → D → Option D
  | .int i, .int j => some (.int (i + j))
  | .str x, .str y => if x.length + y.length ≤ big then some (.str (x ++ y)) else none
  | .tup xs, .tup ys => if xs.length + ys.length ≤ big then some (.tup (xs ++ ys)) else none
  | .lst xs, .lst ys => if xs.length + ys.length ≤ big then some (.lst (xs ++ ys)) else none
  | _, _ => none
def rAddD (K : PySem.W.Frag) : R2 := fun x y H Q => rI0 (fun i j => .int (i + j)) x y H Q ∨ (∃ i j, x = .str i ∧ y = .str j ∧ i.length + j.length ≤ sizeLine ∧ Q (.str (i ++ j)) H) ∨ rCatA K x y H Q ∨ rCat x y H Q
theorem op_addD {X : Cx} : OpR X (binaryOp .Add) (rAddD X.K) := op_add.or (op_add_str.or (op_catA.or op_cat))
theorem vo_add : VO2 g (rAddD g.K) opAdd := by
  intro H F v u d e z l rd re h Q q
  unfold opAdd at h
  split at h
  · cases h; cases rd.int; cases re.int
    exact .inl ⟨_, _, rfl, rfl, q _ _ _ (Grow.refl l) (.int _)⟩
  · split at h
    · rename_i hl
      cases h; cases rd.str; cases re.str
      exact .inr (.inl ⟨_, _, rfl, rfl, by rw [← big_eq]; exact hl, q _ _ _ (Grow.refl l) (.str _)⟩)
    · cases h
  · split at h
    · rename_i xs ys hl
      cases h
      obtain ⟨a, vs, rfl, h1, r1⟩ := rd.tup l
      obtain ⟨b, ws, rfl, h2, r2⟩ := re.tup l
      refine .inr (.inr (.inl ?_))
      refine ⟨a, b, vs, ws, rfl, rfl, h1, h2, by rw [r1.length, r2.length, ← big_eq]; exact hl, fun e => ?_, fun _ e => ?_, fun _ _ p hp => q _ _ _ (Grow.new l hp) (.tup (.inl (.inl upd_same)) ((r1.append r2).mono (Grow.new l hp).f))⟩
      · subst e
        cases r1
        rcases re with re | ⟨_, _, _, _, e, _⟩
        · exact q _ _ _ (Grow.refl l) re
        · cases e
      · subst e
        cases r2
        rw [List.append_nil] at q
        rcases rd with rd | ⟨_, _, _, _, e, _⟩
        · exact q _ _ _ (Grow.refl l) rd
        · cases e
    · cases h
  · split at h
    · rename_i xs ys hl
      cases h
      obtain ⟨a, vs, rfl, h1, r1⟩ := rd.lst l
      obtain ⟨b, ws, rfl, h2, r2⟩ := re.lst l
      exact .inr (.inr (.inr ⟨a, b, vs, ws, rfl, rfl, h1, h2, by rw [r1.length, r2.length, ← big_eq]; exact hl, fun p hp => q _ _ _ (Grow.new l hp) (.lst upd_same ((r1.append r2).mono (Grow.new l hp).f))⟩))
    · cases h
  · cases h
@[simp] def nAdd : D → D → Option (List D)
  | .lst xs, .lst ys => if xs.length + ys.length ≤ big then some (xs ++ ys) else none
  | _, _ => none
theorem vn_add : VN2 g (rAddD g.K) nAdd := by
  intro H F v u d e z l rd re h Q q
  unfold nAdd at h
  split at h
  · split at h
    · rename_i xs ys hl
      cases h
      obtain ⟨a, vs, rfl, h1, r1⟩ := rd.lst l
      obtain ⟨b, ws, rfl, h2, r2⟩ := re.lst l
      exact .inr (.inr (.inr ⟨a, b, vs, ws, rfl, rfl, h1, h2, by rw [r1.length, r2.length, ← big_eq]; exact hl, fun p hp => q _ _ hp (r1.append r2)⟩))
    · cases h
  · cases h
@[simp] def opSub : D → D → Option D
  | .int i, .int j => some (.int (i - j))
  | _, _ => none
theorem vo_sub : VO2 g (rI0 fun i j => .int (i - j)) opSub := by
  intro H F v u d e z l rd re h Q q
  unfold opSub at h
  split at h
  · cases h; cases rd.int; cases re.int
    exact ⟨_, _, rfl, rfl, q _ _ _ (Grow.refl l) (.int _)⟩
  · cases h
def smallI (i : Int) : Bool := decide (i.natAbs < 18446744073709551616)
theorem small_of {i : Int} (h : smallI i = true) : -(2 ^ 64) < i ∧ i < 2 ^ 64 := by
  have : i.natAbs < 18446744073709551616 := of_decide_eq_true h
  omega
@[simp] def opMul : D → D → Option D
  | .int i, .int j => if smallI i || smallI j then some (.int (i * j)) else none
  | .lst xs, .int k => if xs.length * k.toNat ≤ big ∧ smallI (k * 4) = true ∧ k.natAbs < 9223372036854775808 then some (.lst (List.replicate k.toNat xs).flatten) else none
  | _, _ => none
def rMulD : R2 := fun x y H Q => rI CMul (fun i j => .int (i * j)) x y H Q ∨ rRep x y H Q
theorem op_mulD {X : Cx} : OpR X (binaryOp .Mult) rMulD := op_mul.or op_rep
theorem vo_mul : VO2 g rMulD opMul := by
  intro H F v u d e z l rd re h Q q
  unfold opMul at h
  split at h
  · split at h
    · rename_i hc
      cases h; cases rd.int; cases re.int
      refine .inl ⟨_, _, rfl, rfl, ?_, q _ _ _ (Grow.refl l) (.int _)⟩
      rcases Bool.or_eq_true_iff.mp hc with c | c
      · exact .inl (small_of c)
      · exact .inr (small_of c)
    · cases h
  · split at h
    · rename_i xs k hl
      cases h
      obtain ⟨a, vs, rfl, h1, r1⟩ := rd.lst l
      cases re.int
      obtain ⟨hl1, hl2, hl3⟩ := hl
      exact .inr ⟨a, k, vs, rfl, rfl, h1, by omega, by omega, by rw [r1.length, ← big_eq]; exact hl1, fun p hp => q _ _ _ (Grow.new l hp) (.lst upd_same ((r1.rep k.toNat).mono (Grow.new l hp).f))⟩
    · cases h
  · cases h
@[simp] def nMul : D → D → Option (List D)
  | .lst xs, .int k => if xs.length * k.toNat ≤ big ∧ k.natAbs < 9223372036854775808 then some (List.replicate k.toNat xs).flatten else none
  | _, _ => none
theorem vn_mul : VN2 g rMulD nMul := by
  intro H F v u d e z l rd re h Q q
  unfold nMul at h
  split at h
  · split at h
    · rename_i xs k hl
      cases h
      obtain ⟨a, vs, rfl, h1, r1⟩ := rd.lst l
      cases re.int
      obtain ⟨hl1, hl3⟩ := hl
      exact .inr ⟨a, k, vs, rfl, rfl, h1, by omega, by omega, by rw [r1.length, ← big_eq]; exact hl1, fun p hp => q _ _ hp (r1.rep k.toNat)⟩
    · cases h
  · cases h
@[simp] def opDiv : D → D → Option D
  | .int i, .int j => if j ≠ 0 ∧ j.natAbs < 1073741824 then some (.int (i.fdiv j)) else none
  | _, _ => none
theorem vo_div : VO2 g (rI CDivN fun i j => .int (i.fdiv j)) opDiv := by
  intro H F v u d e z l rd re h Q q
  unfold opDiv at h
  split at h
  · split at h
    · rename_i hc
      cases h; cases rd.int; cases re.int
      exact ⟨_, _, rfl, rfl, hc, q _ _ _ (Grow.refl l) (.int _)⟩
    · cases h
  · cases h
@[simp] def opMod : D → D → Option D
  | .int i, .int j => if j ≠ 0 then some (.int (i.fmod j)) else none
  | _, _ => none
theorem vo_mod : VO2 g (rI (fun _ j => j ≠ 0) fun i j => .int (i.fmod j)) opMod := by
  intro H F v u d e z l rd re h Q q
  unfold opMod at h
  split at h
  · split at h
    · rename_i hc
      cases h; cases rd.int; cases re.int
      exact ⟨_, _, rfl, rfl, hc, q _ _ _ (Grow.refl l) (.int _)⟩
    · cases h
  · cases h
@[simp] def opNeg : D → Option D
  | .int i => some (.int (-i))
  | _ => none
theorem vo_neg : VO1 g (rU fun i => .int (-i)) opNeg := by
  intro H F v d z l rd h Q q
  unfold opNeg at h
  split at h
  · cases h; cases rd.int
    exact ⟨_, rfl, q _ _ _ (Grow.refl l) (.int _)⟩
  · cases h
/-! comparisons -/
@[simp] def cmpI (p : Int → Int → Bool) : D → D → Option D
  | .int i, .int j => some (.bl (p i j))
  | _, _ => none
theorem vo_cmpI (p : Int → Int → Bool) : VO2 g (rI0 fun i j => .bl (p i j)) (cmpI p) := by
  intro H F v u d e z l rd re h Q q
  unfold cmpI at h
  split at h
  · cases h; cases rd.int; cases re.int
    exact ⟨_, _, rfl, rfl, q _ _ _ (Grow.refl l) (.bl _)⟩
  · cases h
@[simp] def opLt : D → D → Option D := cmpI fun i j => decide (i < j)
@[simp] def opLe : D → D → Option D := cmpI fun i j => decide (i ≤ j)
@[simp] def opGt : D → D → Option D := cmpI fun i j => decide (j < i)
@[simp] def opGe : D → D → Option D := cmpI fun i j => decide (j ≤ i)
def eqD (x y : D) : Option Bool := match toPy x, toPy y with
  | some p, some q => if SeqAt.shaped p && SeqAt.shaped q then some (PyData.eqv p q) else none
  | _, _ => none
@[simp] def opEq (x y : D) : Option D := match eqD x y with | some b => some (.bl b) | none => none
@[simp] def opNe (x y : D) : Option D := match eqD x y with | some b => some (.bl (!b)) | none => none
theorem eqD_some {x y : D} {b : Bool} (h : eqD x y = some b) : ∃ p q, toPy x = some p ∧ toPy y = some q ∧ SeqAt.shaped p = true ∧ SeqAt.shaped q = true ∧ b = PyData.eqv p q := by
  unfold eqD at h
  split at h
  · rename_i p q e1 e2
    split at h
    · rename_i hs
      cases h
      obtain ⟨h1, h2⟩ := Bool.and_eq_true_iff.mp hs
      exact ⟨p, q, e1, e2, h1, h2, rfl⟩
    · cases h
  · cases h
theorem vo_eq : VO2 g (rEqD g.K) opEq := by
  intro H F v u d e z l rd re h Q q
  unfold opEq at h
  split at h
  · rename_i b hb
    cases h
    obtain ⟨p, r, e1, e2, s1, s2, rfl⟩ := eqD_some hb
    exact ⟨p, r, rd.dp l e1, re.dp l e2, s1, s2, q _ _ _ (Grow.refl l) (.bl _)⟩
  · cases h
theorem vo_ne : VO2 g (rNeD g.K) opNe := by
  intro H F v u d e z l rd re h Q q
  unfold opNe at h
  split at h
  · rename_i b hb
    cases h
    obtain ⟨p, r, e1, e2, s1, s2, rfl⟩ := eqD_some hb
    exact ⟨p, r, rd.dp l e1, re.dp l e2, s1, s2, q _ _ _ (Grow.refl l) (.bl _)⟩
  · cases h
/-- is, is not: None and truth values -/
@[simp] def isD : D → D → Option Bool
  | .bl a, .bl b => some (decide (a = b))
  | d, .non => some (match d with | .non => true | _ => false)
  | _, _ => none
@[simp] def opIs (x y : D) : Option D := match isD x y with | some b => some (.bl b) | none => none
@[simp] def opIsNot (x y : D) : Option D := match isD x y with | some b => some (.bl (!b)) | none => none
def rIsD : R2 := fun x y H Q => (y = .non ∧ Q (.bl (decide (x = .non))) H) ∨ rIsB x y H Q
def rIsNotD : R2 := fun x y H Q => (y = .non ∧ Q (.bl (!decide (x = .non))) H) ∨ rNotB x y H Q
theorem op_isD {X : Cx} : OpR X (compareOp .Is) rIsD := op_isN.or op_isBl
theorem op_isNotD {X : Cx} : OpR X (compareOp .IsNot) rIsNotD := op_notN.or op_notBl
theorem isD_cases {H F : Hp} {v u : V} {d e : D} {b : Bool} (l : Same F H) (rd : Br g F H v d) (re : Br g F H u e) (h : isD d e = some b) : (u = .non ∧ b = decide (v = .non)) ∨ ∃ x y, v = .bl x ∧ u = .bl y ∧ b = decide (x = y) := by
  unfold isD at h
  split at h
  · cases h; cases rd.bl; cases re.bl
    exact .inr ⟨_, _, rfl, rfl, rfl⟩
  · cases h; cases re.non
    refine .inl ⟨rfl, ?_⟩
    rcases rd with rd | ⟨a, vs, ds, rfl, rfl, _⟩
    · cases rd <;> rfl
    · rfl
  · cases h
theorem vo_is : VO2 g rIsD opIs := by
  intro H F v u d e z l rd re h Q q
  unfold opIs at h
  split at h
  · rename_i b hb
    cases h
    rcases isD_cases l rd re hb with ⟨rfl, rfl⟩ | ⟨x, y, rfl, rfl, rfl⟩
    · exact .inl ⟨rfl, q _ _ _ (Grow.refl l) (.bl _)⟩
    · exact .inr ⟨x, y, rfl, rfl, q _ _ _ (Grow.refl l) (.bl _)⟩
  · cases h
theorem vo_isnot : VO2 g rIsNotD opIsNot := by
  intro H F v u d e z l rd re h Q q
  unfold opIsNot at h
  split at h
  · rename_i b hb
    cases h
    rcases isD_cases l rd re hb with ⟨rfl, rfl⟩ | ⟨x, y, rfl, rfl, rfl⟩
    · exact .inl ⟨rfl, q _ _ _ (Grow.refl l) (.bl _)⟩
    · exact .inr ⟨x, y, rfl, rfl, q _ _ _ (Grow.refl l) (.bl _)⟩
  · cases h
/-! in, not in -/
def flatD : D → Bool
  | .non | .bl _ | .int _ | .str _ => true
  | _ => false
def eqF : D → D → Bool
  | .non, .non => true
  | .bl a, .bl b => a == b
  | .bl a, .int b => (if a then 1 else 0) == b
  | .int a, .bl b => a == (if b then 1 else 0)
  | .int a, .int b => a == b
  | .str a, .str b => a == b
  | _, _ => false
theorem flat_rv {F : Hp} {v : V} {d : D} (r : Rv g F v d) (h : flatD d = true) : flatV v = true := by
  cases r <;> first | rfl | cases h
theorem eqF_rv {F : Hp} {v u : V} {d e : D} (r : Rv g F v d) (s : Rv g F u e) (h : flatD d = true) (h2 : flatD e = true) : eqV v u = eqF d e := by
  cases r <;> first | (cases s <;> first | rfl | cases h2) | cases h
theorem all_flat {F : Hp} : ∀ {vs : List V} {ds : List D}, Rl g F vs ds → ds.all flatD = true → vs.all flatV = true
  | _, _, .nil, _ => rfl
  | _, _, .cons r t, h => by
    rw [List.all_cons, Bool.and_eq_true] at h
    rw [List.all_cons, flat_rv r h.1, all_flat t h.2]; rfl
theorem any_eqF {F : Hp} {u : V} {e : D} (s : Rv g F u e) (h2 : flatD e = true) : ∀ {vs : List V} {ds : List D}, Rl g F vs ds → ds.all flatD = true → vs.any (fun y => eqV y u) = ds.any fun y => eqF y e
  | _, _, .nil, _ => rfl
  | _, _, .cons r t, h => by
    rw [List.all_cons, Bool.and_eq_true] at h
    rw [List.any_cons, List.any_cons, eqF_rv r s h.1 h2, any_eqF s h2 t h.2]
def inD (x y : D) : Option Bool := match y with
  | .lst ys => if flatD x && ys.all flatD then some (ys.any fun y => eqF y x) else
      match toPy x, toPys ys with
      | some p, some qs => if SeqAt.shaped p && SeqAt.shaped (.list qs) then some (qs.any fun z => PyData.eqv z p) else none
      | _, _ => none
  | .tup ys => if flatD x && ys.all flatD then some (ys.any fun y => eqF y x) else none
  | .str t => match x with | .str s => some (!(Builtin.Str.occurrences t s 0 t.length 1).isEmpty) | _ => none
  | _ => none
@[simp] def opIn (x y : D) : Option D := match inD x y with | some b => some (.bl b) | none => none
@[simp] def opNotIn (x y : D) : Option D := match inD x y with | some b => some (.bl (!b)) | none => none
def rInA (K : PySem.W.Frag) : R2 := fun x y H Q => rIn K false x y H Q ∨ rInD K x y H Q ∨ ∃ i j, x = .str i ∧ y = .str j ∧ Q (.bl (!(Builtin.Str.occurrences j i 0 j.length 1).isEmpty)) H
def rNotInA (K : PySem.W.Frag) : R2 := fun x y H Q => rIn K true x y H Q ∨ rNotInD K x y H Q ∨ ∃ i j, x = .str i ∧ y = .str j ∧ Q (.bl (!(!(Builtin.Str.occurrences j i 0 j.length 1).isEmpty))) H
theorem op_inA {X : Cx} (hu : X.A.units + 65 < cLine) : OpR X (compareOp .In) (rInA X.K) := op_in_seq.or ((op_inD hu).or op_in_str)
theorem op_notInA {X : Cx} (hu : X.A.units + 65 < cLine) : OpR X (compareOp .NotIn) (rNotInA X.K) := op_notIn_seq.or ((op_notInD hu).or op_notIn_str)
theorem Br.flat {F H : Hp} {v : V} {d : D} (r : Br g F H v d) (h : flatD d = true) : Rv g F v d := by
  rcases r with r | ⟨_, _, _, _, rfl, _⟩
  · exact r
  · cases h
theorem inD_cases {H F : Hp} {v u : V} {d e : D} {b : Bool} (l : Same F H) (rd : Br g F H v d) (re : Br g F H u e) (h : inD d e = some b) :
    (∃ p xs, u = .ref p ∧ (SqL g.K H p xs ∨ SqT g.K H p xs) ∧ flatV v = true ∧ xs.all flatV = true ∧ inV v xs = b) ∨
    (∃ d ds, Dp g.K H v d ∧ Dp g.K H u (.list ds) ∧ SeqAt.shaped d = true ∧ SeqAt.shaped (.list ds) = true ∧ (ds.any fun z => PyData.eqv z d) = b) ∨
    ∃ i j, v = .str i ∧ u = .str j ∧ (!(Builtin.Str.occurrences j i 0 j.length 1).isEmpty) = b := by
  unfold inD at h
  split at h
  · rename_i ys
    split at h
    · rename_i hf
      cases h
      obtain ⟨f1, f2⟩ := Bool.and_eq_true_iff.mp hf
      obtain ⟨a, vs, rfl, h1, r1⟩ := re.lst l
      exact .inl ⟨a, vs, rfl, .inl (sqL_of h1), flat_rv (rd.flat f1) f1, all_flat r1 f2, any_eqF (rd.flat f1) f1 r1 f2⟩
    · split at h
      · rename_i p qs e1 e2
        split at h
        · rename_i hs
          cases h
          obtain ⟨h1, h2⟩ := Bool.and_eq_true_iff.mp hs
          exact .inr (.inl ⟨p, qs, rd.dp l e1, re.dp l (by unfold toPy; rw [e2]), h1, h2, rfl⟩)
        · cases h
      · cases h
  · rename_i ys
    split at h
    · rename_i hf
      cases h
      obtain ⟨f1, f2⟩ := Bool.and_eq_true_iff.mp hf
      obtain ⟨a, vs, rfl, h1, r1⟩ := re.tup l
      exact .inl ⟨a, vs, rfl, .inr h1, flat_rv (rd.flat f1) f1, all_flat r1 f2, any_eqF (rd.flat f1) f1 r1 f2⟩
    · cases h
  · split at h
    · cases h
      exact .inr (.inr ⟨_, _, rd.str, re.str, rfl⟩)
    · cases h
  · cases h
theorem vo_in : VO2 g (rInA g.K) opIn := by
  intro H F v u d e z l rd re h Q q
  unfold opIn at h
  split at h
  · rename_i b hb
    cases h
    rcases inD_cases l rd re hb with ⟨p, xs, e1, e2, e3, e4, rfl⟩ | ⟨p, ds, e1, e2, e3, e4, rfl⟩ | ⟨i, j, e1, e2, rfl⟩
    · exact .inl ⟨p, xs, e1, e2, e3, e4, q _ _ _ (Grow.refl l) (.bl _)⟩
    · exact .inr (.inl ⟨p, ds, e1, e2, e3, e4, q _ _ _ (Grow.refl l) (.bl _)⟩)
    · exact .inr (.inr ⟨i, j, e1, e2, q _ _ _ (Grow.refl l) (.bl _)⟩)
  · cases h
theorem vo_notin : VO2 g (rNotInA g.K) opNotIn := by
  intro H F v u d e z l rd re h Q q
  unfold opNotIn at h
  split at h
  · rename_i b hb
    cases h
    rcases inD_cases l rd re hb with ⟨p, xs, e1, e2, e3, e4, rfl⟩ | ⟨p, ds, e1, e2, e3, e4, rfl⟩ | ⟨i, j, e1, e2, rfl⟩
    · exact .inl ⟨p, xs, e1, e2, e3, e4, q _ _ _ (Grow.refl l) (.bl _)⟩
    · exact .inr (.inl ⟨p, ds, e1, e2, e3, e4, q _ _ _ (Grow.refl l) (.bl _)⟩)
    · exact .inr (.inr ⟨i, j, e1, e2, q _ _ _ (Grow.refl l) (.bl _)⟩)
  · cases h
/-! items -/
@[simp] def opIx : D → D → Option D
  | .lst xs, .int i => atI xs i
  | .tup xs, .int i => atI xs i
  | .str z, .int i => if z.length ≤ big then match atI z.cps.toList i with | some c => some (.str ⟨#[c]⟩) | none => none else none
  | _, _ => none
theorem atI_rl {F : Hp} {vs : List V} {ds : List D} {i : Int} {z : D} (r : Rl g F vs ds) (h : atI ds i = some z) : ∃ v, atI vs i = some v ∧ Rv g F v z := by
  unfold atI at h ⊢
  rw [r.length]
  cases e : ixN ds.length i with
  | none => rw [e] at h; cases h
  | some j =>
    rw [e] at h
    obtain ⟨v, h1, h2⟩ := r.get (show ds[j]? = some z from h)
    exact ⟨v, h1, h2⟩
theorem vo_ix : VO2 g (rIx g.K) opIx := by
  intro H F v u d e z l rd re h Q q
  unfold opIx at h
  split at h
  · cases re.int
    obtain ⟨a, vs, rfl, h1, r1⟩ := rd.lst l
    obtain ⟨w, h2, r2⟩ := atI_rl r1 h
    exact .inl ⟨a, vs, _, w, rfl, rfl, sqL_of h1, h2, q _ _ _ (Grow.refl l) r2⟩
  · cases re.int
    obtain ⟨a, vs, rfl, h1, r1⟩ := rd.tup l
    obtain ⟨w, h2, r2⟩ := atI_rl r1 h
    exact .inr (.inl ⟨a, vs, _, w, rfl, rfl, h1, h2, q _ _ _ (Grow.refl l) r2⟩)
  · split at h
    · rename_i hz
      split at h
      · rename_i c hc
        cases h; cases re.int; cases rd.str
        exact .inr (.inr ⟨_, _, c, rfl, rfl, by rw [← big_eq]; exact hz, hc, q _ _ _ (Grow.refl l) (.str _)⟩)
      · cases h
    · cases h
  · cases h
/-! built-in functions of one or two values -/
@[simp] def opLen : D → Option D
  | .lst xs => some (.int xs.length)
  | .tup xs => some (.int xs.length)
  | .str z => if z.length ≤ big then some (.int z.length) else none
  | _ => none
def rLenD (K : PySem.W.Frag) : List V → Hp → VK → Prop := fun xs H Q => (∃ p ys, xs = [.ref p] ∧ (SqL K H p ys ∨ SqT K H p ys) ∧ Q (.int ys.length) H) ∨ ∃ z, xs = [.str z] ∧ z.length ≤ sizeLine ∧ Q (.int z.length) H
theorem call_lenD {X : Cx} : CallR X (.builtin "len") (rLenD X.K) := call_len_seq.or call_len_str
theorem vo_len : VOC g (rLenD g.K) opLen := by
  intro H F v d z l rd h Q q
  unfold opLen at h
  split at h
  · cases h
    obtain ⟨a, vs, rfl, h1, r1⟩ := rd.lst l
    exact .inl ⟨a, vs, rfl, .inl (sqL_of h1), by rw [r1.length]; exact q _ _ _ (Grow.refl l) (.int _)⟩
  · cases h
    obtain ⟨a, vs, rfl, h1, r1⟩ := rd.tup l
    exact .inl ⟨a, vs, rfl, .inr h1, by rw [r1.length]; exact q _ _ _ (Grow.refl l) (.int _)⟩
  · split at h
    · rename_i hz
      cases h; cases rd.str
      exact .inr ⟨_, rfl, by rw [← big_eq]; exact hz, q _ _ _ (Grow.refl l) (.int _)⟩
    · cases h
  · cases h
@[simp] def opAbs : D → Option D
  | .int i => some (.int (if i < 0 then -i else i))
  | _ => none
theorem vo_abs : VOC g (fun xs H Q => ∃ i, xs = [.int i] ∧ Q (.int (if i < 0 then -i else i)) H) opAbs := by
  intro H F v d z l rd h Q q
  unfold opAbs at h
  split at h
  · cases h; cases rd.int; exact ⟨_, rfl, q _ _ _ (Grow.refl l) (.int _)⟩
  · cases h
@[simp] def opMax2 : D → D → Option D
  | .int i, .int j => some (.int (if j > i then j else i))
  | _, _ => none
theorem vo_max2 : VOC2 g (fun xs H Q => ∃ i j, xs = [.int i, .int j] ∧ Q (.int (if j > i then j else i)) H) opMax2 := by
  intro H F v u d e z l rd re h Q q
  unfold opMax2 at h
  split at h
  · cases h; cases rd.int; cases re.int; exact ⟨_, _, rfl, q _ _ _ (Grow.refl l) (.int _)⟩
  · cases h
@[simp] def opMin2 : D → D → Option D
  | .int i, .int j => some (.int (if j < i then j else i))
  | _, _ => none
theorem vo_min2 : VOC2 g (fun xs H Q => ∃ i j, xs = [.int i, .int j] ∧ Q (.int (if j < i then j else i)) H) opMin2 := by
  intro H F v u d e z l rd re h Q q
  unfold opMin2 at h
  split at h
  · cases h; cases rd.int; cases re.int; exact ⟨_, _, rfl, q _ _ _ (Grow.refl l) (.int _)⟩
  · cases h
@[simp] def opInt : D → Option D
  | .int i => some (.int i)
  | .bl b => some (.int (if b then 1 else 0))
  | _ => none
theorem vo_int : VOC g (fun xs H Q => (∃ i, xs = [.int i] ∧ Q (.int i) H) ∨ ∃ k, xs = [.bl k] ∧ Q (.int (if k then 1 else 0)) H) opInt := by
  intro H F v d z l rd h Q q
  unfold opInt at h
  split at h
  · cases h; cases rd.int; exact .inl ⟨_, rfl, q _ _ _ (Grow.refl l) (.int _)⟩
  · cases h; cases rd.bl; exact .inr ⟨_, rfl, q _ _ _ (Grow.refl l) (.int _)⟩
  · cases h
@[simp] def opStr : D → Option D
  | .int i => if i.natAbs.log2 < 1920 then some (.str (toString i : String)) else none
  | _ => none
theorem vo_str : VOC g (fun xs H Q => ∃ i, xs = [.int i] ∧ i.natAbs.log2 < 1920 ∧ Q (.str (toString i : String)) H) opStr := by
  intro H F v d z l rd h Q q
  unfold opStr at h
  split at h
  · split at h
    · rename_i hz
      cases h; cases rd.int; exact ⟨_, rfl, hz, q _ _ _ (Grow.refl l) (.str _)⟩
    · cases h
  · cases h
@[simp] def opTuple : D → Option D
  | .lst xs => some (.tup xs)
  | .tup xs => some (.tup xs)
  | _ => none
theorem vo_tuple : VOC g (fun xs H Q => ∃ p ys, xs = [.ref p] ∧ ((SqL g.K H p ys ∧ ∀ l, H l = none → Q (.ref l) (upd H l (.tup ys))) ∨ (SqT g.K H p ys ∧ Q (.ref p) H))) opTuple := by
  intro H F v d z l rd h Q q
  unfold opTuple at h
  split at h
  · cases h
    obtain ⟨a, vs, rfl, h1, r1⟩ := rd.lst l
    exact ⟨a, vs, rfl, .inl ⟨sqL_of h1, fun p hp => q _ _ _ (Grow.new l hp) (.tup (.inl (.inl upd_same)) (r1.mono (Grow.new l hp).f))⟩⟩
  · cases h
    rcases rd with rd | ⟨_, _, _, _, e, _⟩
    · obtain ⟨a, vs, rfl, h1, r1⟩ := Br.tup l (.inl rd)
      exact ⟨a, vs, rfl, .inr ⟨h1, q _ _ _ (Grow.refl l) rd⟩⟩
    · cases e
  · cases h
@[simp] def nList : D → Option (List D)
  | .lst xs => some xs
  | .tup xs => some xs
  | _ => none
theorem vn_list : VN1 g (fun v => (fun xs H Q => ∃ p ys, xs = [V.ref p] ∧ (SqL g.K H p ys ∨ SqT g.K H p ys) ∧ ∀ l, H l = none → Q (.ref l) (upd H l (.lst ys))) [v]) nList := by
  intro H F v d z l rd h Q q
  unfold nList at h
  split at h
  · cases h
    obtain ⟨a, vs, rfl, h1, r1⟩ := rd.lst l
    exact ⟨a, vs, rfl, .inl (sqL_of h1), fun p hp => q _ _ hp r1⟩
  · cases h
    obtain ⟨a, vs, rfl, h1, r1⟩ := rd.tup l
    exact ⟨a, vs, rfl, .inr h1, fun p hp => q _ _ hp r1⟩
  · cases h
/-! lists of ints, of truth values -/
def intsOf : List D → Option (List Int)
  | [] => some []
  | .int i :: r => match intsOf r with | some is => some (i :: is) | none => none
  | _ :: _ => none
theorem intsOf_eq : ∀ {ds : List D} {is : List Int}, intsOf ds = some is → ds = is.map D.int
  | [], _, e => by cases e; rfl
  | .int i :: r, _, e => by
    unfold intsOf at e
    split at e
    · rename_i js hj; cases e; rw [intsOf_eq hj]; rfl
    · cases e
def blsOf : List D → Option (List Bool)
  | [] => some []
  | .bl i :: r => match blsOf r with | some is => some (i :: is) | none => none
  | _ :: _ => none
theorem blsOf_eq : ∀ {ds : List D} {is : List Bool}, blsOf ds = some is → ds = is.map D.bl
  | [], _, e => by cases e; rfl
  | .bl i :: r, _, e => by
    unfold blsOf at e
    split at e
    · rename_i js hj; cases e; rw [blsOf_eq hj]; rfl
    · cases e
@[simp] def onInts {α : Type} (f : List Int → Option α) : D → Option α
  | .lst ds => match intsOf ds with | some is => f is | none => none
  | _ => none
theorem onInts_some {α : Type} {H F : Hp} {v : V} {f : List Int → Option α} {d : D} {z : α} (l : Same F H) (rd : Br g F H v d) (h : onInts f d = some z) : ∃ a is, v = .ref a ∧ H a = some (.lst (is.map V.int)) ∧ f is = some z := by
  unfold onInts at h
  split at h
  · split at h
    · rename_i is hi
      have := intsOf_eq hi
      subst this
      obtain ⟨a, vs, rfl, h1, r1⟩ := rd.lst l
      rw [r1.ints] at h1
      exact ⟨a, is, rfl, h1, h⟩
    · cases h
  · cases h
@[simp] def opSum : D → Option D := onInts fun is => some (.int is.sum)
theorem vo_sum : VOC g (rSum g.K) opSum := by
  intro H F v d z l rd h Q q
  obtain ⟨a, is, rfl, h1, e⟩ := onInts_some l rd h
  cases e
  exact ⟨a, is, rfl, sqL_of h1, q _ _ _ (Grow.refl l) (.int _)⟩
def minL : List Int → Int
  | [] => 0
  | [x] => x
  | x :: r => if x ≤ minL r then x else minL r
def maxL : List Int → Int
  | [] => 0
  | [x] => x
  | x :: r => if maxL r ≤ x then x else maxL r
theorem minL_spec : ∀ {is : List Int}, is ≠ [] → minL is ∈ is ∧ ∀ y ∈ is, minL is ≤ y
  | [], h => absurd rfl h
  | [x], _ => by simp [minL]
  | x :: y :: r, _ => by
    obtain ⟨h1, h2⟩ := minL_spec (is := y :: r) (by simp)
    unfold minL
    split
    · rename_i hx
      refine ⟨List.mem_cons_self, fun z hz => ?_⟩
      rcases List.mem_cons.mp hz with rfl | hz
      · exact Int.le_refl _
      · exact Int.le_trans hx (h2 z hz)
    · rename_i hx
      refine ⟨List.mem_cons_of_mem _ h1, fun z hz => ?_⟩
      rcases List.mem_cons.mp hz with rfl | hz
      · omega
      · exact h2 z hz
theorem maxL_spec : ∀ {is : List Int}, is ≠ [] → maxL is ∈ is ∧ ∀ y ∈ is, y ≤ maxL is
  | [], h => absurd rfl h
  | [x], _ => by simp [maxL]
  | x :: y :: r, _ => by
    obtain ⟨h1, h2⟩ := maxL_spec (is := y :: r) (by simp)
    unfold maxL
    split
    · rename_i hx
      refine ⟨List.mem_cons_self, fun z hz => ?_⟩
      rcases List.mem_cons.mp hz with rfl | hz
      · exact Int.le_refl _
      · exact Int.le_trans (h2 z hz) hx
    · rename_i hx
      refine ⟨List.mem_cons_of_mem _ h1, fun z hz => ?_⟩
      rcases List.mem_cons.mp hz with rfl | hz
      · omega
      · exact h2 z hz
@[simp] def opMin : D → Option D := onInts fun is => if is.isEmpty then none else some (.int (minL is))
@[simp] def opMax : D → Option D := onInts fun is => if is.isEmpty then none else some (.int (maxL is))
theorem vo_min : VOC g (rMin g.K) opMin := by
  intro H F v d z l rd h Q q
  obtain ⟨a, is, rfl, h1, e⟩ := onInts_some l rd h
  split at e
  · cases e
  · rename_i hn
    cases e
    have hne : is ≠ [] := fun e => hn (by rw [e]; rfl)
    obtain ⟨m1, m2⟩ := minL_spec hne
    refine ⟨a, is, rfl, sqL_of h1, List.length_pos_iff.mpr hne, fun m hm hy => ?_⟩
    have : m = minL is := Int.le_antisymm (hy _ m1) (m2 m hm)
    rw [this]
    exact q _ _ _ (Grow.refl l) (.int _)
theorem vo_max : VOC g (rMax g.K) opMax := by
  intro H F v d z l rd h Q q
  obtain ⟨a, is, rfl, h1, e⟩ := onInts_some l rd h
  split at e
  · cases e
  · rename_i hn
    cases e
    have hne : is ≠ [] := fun e => hn (by rw [e]; rfl)
    obtain ⟨m1, m2⟩ := maxL_spec hne
    refine ⟨a, is, rfl, sqL_of h1, List.length_pos_iff.mpr hne, fun m hm hy => ?_⟩
    have : m = maxL is := Int.le_antisymm (m2 m hm) (hy _ m1)
    rw [this]
    exact q _ _ _ (Grow.refl l) (.int _)
@[simp] def onBls {α : Type} (f : List Bool → Option α) : D → Option α
  | .lst ds => match blsOf ds with | some is => f is | none => none
  | _ => none
theorem onBls_some {α : Type} {H F : Hp} {v : V} {f : List Bool → Option α} {d : D} {z : α} (l : Same F H) (rd : Br g F H v d) (h : onBls f d = some z) : ∃ a is, v = .ref a ∧ H a = some (.lst (is.map V.bl)) ∧ f is = some z := by
  unfold onBls at h
  split at h
  · split at h
    · rename_i is hi
      have := blsOf_eq hi
      subst this
      obtain ⟨a, vs, rfl, h1, r1⟩ := rd.lst l
      rw [r1.bls] at h1
      exact ⟨a, is, rfl, h1, h⟩
    · cases h
  · cases h
@[simp] def opAll : D → Option D := onBls fun is => some (.bl (is.all id))
@[simp] def opAny : D → Option D := onBls fun is => some (.bl (is.any id))
theorem vo_all : VOC g (rAll g.K) opAll := by
  intro H F v d z l rd h Q q
  obtain ⟨a, is, rfl, h1, e⟩ := onBls_some l rd h
  cases e
  exact ⟨a, is, rfl, sqL_of h1, q _ _ _ (Grow.refl l) (.bl _)⟩
theorem vo_any : VOC g (rAny g.K) opAny := by
  intro H F v d z l rd h Q q
  obtain ⟨a, is, rfl, h1, e⟩ := onBls_some l rd h
  cases e
  exact ⟨a, is, rfl, sqL_of h1, q _ _ _ (Grow.refl l) (.bl _)⟩
end
end DL

namespace DL
open PySem PySem.Spec PyProof.Rows L2

/-! ### combinators -/
@[simp] def dVar (i : Nat) : Den D := fun st => match st[i]? with
  | some (.sh d) => .ok d st
  | some (.ow ds) => .ok (.lst ds) (st.set i (.sh (.lst ds)))
  | _ => .stuck
@[simp] def dRd (i : Nat) : Den D := fun st => match st[i]? with
  | some (.sh d) => .ok d st
  | some (.ow ds) => .ok (.lst ds) st
  | some (.rf _ ds) => .ok (.lst ds) st
  | _ => .stuck
@[simp] def dC (d : D) : Den D := retD d
@[simp] def dOp1 (op : D → Option D) (a : Den D) : Den D := bindD a fun x => liftO (op x)
@[simp] def dOp2 (op : D → D → Option D) (a b : Den D) : Den D := bindD a fun x => bindD b fun y => liftO (op x y)
/-- first b, then the name's content -/
@[simp] def dOp2n (op : D → D → Option D) (i : Nat) (b : Den D) : Den D := bindD (dRd i) fun _ => bindD b fun y => bindD (dRd i) fun x => liftO (op x y)
@[simp] def dOp2m (op : D → D → Option D) (a : Den D) (j : Nat) : Den D := bindD a fun x => bindD (dRd j) fun y => liftO (op x y)
@[simp] def dOp1n (op : D → Option D) (i : Nat) : Den D := bindD (dRd i) fun x => liftO (op x)
@[simp] def dN1n (op : D → Option (List D)) (i : Nat) : Den (List D) := bindD (dRd i) fun x => liftO (op x)
@[simp] def dN1 (op : D → Option (List D)) (a : Den D) : Den (List D) := bindD a fun x => liftO (op x)
@[simp] def dN2 (op : D → D → Option (List D)) (a b : Den D) : Den (List D) := bindD a fun x => bindD b fun y => liftO (op x y)
@[simp] def dFrz (a : Den (List D)) : Den D := bindD a fun ds => retD (.lst ds)
@[simp] def dNil : Den (List D) := retD []
@[simp] def dCons (a : Den D) (r : Den (List D)) : Den (List D) := bindD a fun x => bindD r fun xs => retD (x :: xs)
@[simp] def dTup (a : Den (List D)) : Den D := bindD a fun ds => liftO (if ds.length ≤ big then some (.tup ds) else none)
@[simp] def dLst (a : Den (List D)) : Den (List D) := bindD a fun ds => liftO (if ds.length ≤ big then some ds else none)
@[simp] def asB : D → Option Bool
  | .bl b => some b
  | _ => none
@[simp] def dTst (a : Den D) : Den Bool := bindD a fun x => liftO (asB x)
@[simp] def dVal (a : Den Bool) : Den D := bindD a fun b => retD (.bl b)
@[simp] def dAnd (a b : Den Bool) : Den Bool := bindD a fun x => if x then b else retD false
@[simp] def dOr (a b : Den Bool) : Den Bool := bindD a fun x => if x then retD true else b
@[simp] def dNot (a : Den Bool) : Den Bool := bindD a fun x => retD (!x)
@[simp] def dIf {α : Type} (t : Den Bool) (a b : Den α) : Den α := bindD t fun x => if x then a else b
@[simp] def dChain (op op' : D → D → Option D) (a b c : Den D) : Den D := bindD a fun x => bindD b fun y => bindD (liftO (op x y)) fun z => bindD (liftO (asB z)) fun k => if k then bindD c fun w => liftO (op' y w) else retD (.bl false)

section
variable {X : Cx} {g : G} {W : WX} {e a b c : Expr} {f h k : Den D} {t u : Den Bool} {P : Par} {σ : L2.St} {H F : Hp} {st : DSt}

theorem SRc.nth (s : SR g P σ H F st) {i : Nat} {sl : Slot} (h : st[i]? = some sl) : ∃ ov, σ[i]? = some ov := by
  have := s.len
  have hi : i < st.length := by
    rcases Nat.lt_or_ge i st.length with q | q
    · exact q
    · rw [List.getElem?_eq_none q] at h; cases h
  exact ⟨σ[i], by simp [this, hi]⟩

/-- an owned list becomes data -/
theorem SR.freeze {i : Nat} {ds : List D} (s : SR g P σ H F st) (h : st[i]? = some (.ow ds)) : ∃ a F', σ[i]? = some (some (.ref a)) ∧ Same F F' ∧ Rv g F' (.ref a) (.lst ds) ∧ SR g P σ H F' (st.set i (.sh (.lst ds))) := by
  obtain ⟨ov, hov⟩ := SRc.nth s h
  obtain ⟨O, c⟩ := s
  obtain ⟨a, vs, rfl, ho, hn, ha, r⟩ := c.sl i _ _ h hov
  have fa := (c.oo a i ho).1
  have sf : Same F (upd F a (.lst vs)) := fun b o e => by
    rw [upd_ne (fun z => by subst z; rw [fa] at e; cases e)]; exact e
  have rv : Rv g (upd F a (.lst vs)) (.ref a) (.lst ds) := .lst upd_same (r.mono sf)
  refine ⟨a, upd F a (.lst vs), hov, sf, rv, fun b => if b = a then none else O b, ?_⟩
  refine ⟨fun b o e => ?_, c.rr, fun b j e => ?_, fun b n => ?_, by rw [List.length_set]; exact c.len, fun j s ov e1 e2 => ?_⟩
  · by_cases hb : b = a
    · subst hb; rw [upd_same] at e; cases e; exact ha
    · rw [upd_ne hb] at e; exact c.le _ _ e
  · by_cases hb : b = a
    · subst hb; simp at e
    · simp only [if_neg hb] at e
      rw [upd_ne hb]; exact c.oo b j e
  · have hb : b ≠ a := fun z => hn (z ▸ n)
    rw [upd_ne hb]; exact c.no b n
  · by_cases hj : j = i
    · subst hj
      have hlt : j < st.length := by
        rcases Nat.lt_or_ge j st.length with q | q
        · exact q
        · rw [List.getElem?_eq_none q] at h; cases h
      rw [List.getElem?_set_self hlt] at e1
      cases e1
      rw [hov] at e2; cases e2
      exact ⟨_, rfl, rv⟩
    · rw [List.getElem?_set_ne (Ne.symm hj)] at e1
      have q := c.sl j s ov e1 e2
      cases s with
      | no => trivial
      | sh d => obtain ⟨v, e, r⟩ := q; exact ⟨v, e, r.mono sf⟩
      | ow ds' =>
        obtain ⟨b, ws, e, o, n, h1, r⟩ := q
        have hb : b ≠ a := fun z => hj (by rw [z, ho] at o; exact (Option.some.inj o).symm)
        exact ⟨b, ws, e, by simp only [if_neg hb]; exact o, n, h1, r.mono sf⟩
      | rf k' ds' =>
        obtain ⟨b, ws, e, bb, o, h1, r⟩ := q
        have hb : b ≠ a := fun z => hj (by rw [z, ho] at o; exact (Option.some.inj o).symm)
        exact ⟨b, ws, e, bb, by simp only [if_neg hb]; exact o, h1, r.mono sf⟩
      | oi k' c' ns' ds' =>
        obtain ⟨b, C, dx, ws, e, bb, o, m, l, h1, r⟩ := q
        have hb : b ≠ a := fun z => hj (by rw [z, ho] at o; exact (Option.some.inj o).symm)
        exact ⟨b, C, dx, ws, e, bb, by simp only [if_neg hb]; exact o, m, l, h1, r.mono sf⟩

theorem ev_var {i : Nat} (he : PE X e (tVar i)) : PE X e (tE g W (dVar i)) := he.imp fun σ H Q ⟨P, F, st, s, o⟩ => by
  unfold dVar at o
  split at o
  · rename_i d hd
    obtain ⟨ov, hov⟩ := SRc.nth s hd
    obtain ⟨O, c⟩ := id s
    obtain ⟨v, rfl, r⟩ := c.sl i _ _ hd hov
    exact ⟨v, hov, o H F (Same.refl _) s v r⟩
  · rename_i ds hd
    obtain ⟨a, F', h1, sf, r, s'⟩ := s.freeze hd
    exact ⟨_, h1, o H F' sf s' _ r⟩
  · exact o.elim
theorem rd_at {i : Nat} {d : D} {st' : DSt} (s : SR g P σ H F st) (h : dRd i st = .ok d st') : st' = st ∧ ∃ v, σ[i]? = some (some v) ∧ Br g F H v d := by
  unfold dRd at h
  split at h
  · rename_i d hd
    cases h
    obtain ⟨ov, hov⟩ := SRc.nth s hd
    obtain ⟨O, c⟩ := id s
    obtain ⟨v, rfl, r⟩ := c.sl i _ _ hd hov
    exact ⟨rfl, v, hov, .inl r⟩
  · rename_i ds hd
    cases h
    obtain ⟨ov, hov⟩ := SRc.nth s hd
    obtain ⟨O, c⟩ := id s
    obtain ⟨a, vs, rfl, ho, hn, ha, r⟩ := c.sl i _ _ hd hov
    exact ⟨rfl, _, hov, .inr ⟨a, vs, ds, rfl, rfl, ha, r⟩⟩
  · rename_i ds hd
    cases h
    obtain ⟨ov, hov⟩ := SRc.nth s hd
    obtain ⟨O, c⟩ := id s
    obtain ⟨a, vs, rfl, ho, hn, ha, r⟩ := c.sl i _ _ hd hov
    exact ⟨rfl, _, hov, .inr ⟨a, vs, ds, rfl, rfl, ha, r⟩⟩
  · cases h
theorem rd_no {i : Nat} {c : Str} {fs : List (Str × D)} {st st' : DSt} : dRd i st ≠ .exn c fs st' := by
  unfold dRd
  split <;> exact fun h => by cases h
theorem ev_c {v : V} {d : D} (he : PE X e (tC v)) (r : ∀ F, Rv g F v d) : PE X e (tE g W (dC d)) := he.imp fun σ H Q ⟨P, F, st, s, o⟩ => o H F (Same.refl _) s v (r F)
theorem ev_int {i : Int} (he : PE X e (tC (.int i))) : PE X e (tE g W (dC (.int i))) := ev_c he fun _ => .int i
theorem ev_bl {i : Bool} (he : PE X e (tC (.bl i))) : PE X e (tE g W (dC (.bl i))) := ev_c he fun _ => .bl i
theorem ev_non (he : PE X e (tC .non)) : PE X e (tE g W (dC .non)) := ev_c he fun _ => .non
theorem ev_str {i : Str} (he : PE X e (tC (.str i))) : PE X e (tE g W (dC (.str i))) := ev_c he fun _ => .str i

/-- the end of an operation on values -/
theorem fin1 {r : V → Hp → VK → Prop} {op : D → Option D} (vo : VO1 g r op) {v : V} {x : D} {Q : VK} (s : SR g P σ H F st) (rx : Br g F H v x) (o : Out g W P σ F (liftO (op x) st) fun d _ H' F' => ∀ v, Rv g F' v d → Q v H') : r v H Q := by
  obtain ⟨z, ez, q⟩ := o.lift
  exact vo H F v x z s.le rx ez Q fun v' H' F' gr rv => q H' F' gr.f (s.grow gr) v' rv
theorem fin2 {r : R2} {op : D → D → Option D} (vo : VO2 g r op) {v u : V} {x y : D} {Q : VK} (s : SR g P σ H F st) (rx : Br g F H v x) (ry : Br g F H u y) (o : Out g W P σ F (liftO (op x y) st) fun d _ H' F' => ∀ v, Rv g F' v d → Q v H') : r v u H Q := by
  obtain ⟨z, ez, q⟩ := o.lift
  exact vo H F v u x y z s.le rx ry ez Q fun v' H' F' gr rv => q H' F' gr.f (s.grow gr) v' rv
theorem ev2 {r : R2} {op : D → D → Option D} (vo : VO2 g r op) (he : PE X e (tOp r (tE g W f) (tE g W h))) : PE X e (tE g W (dOp2 op f h)) := he.imp fun σ H Q ⟨P, F, st, s, o⟩ =>
  ⟨P, F, st, s, o.bind.imp fun x st1 H1 F1 le1 s1 o1 v rx => ⟨P, F1, st1, s1, o1.bind.imp fun y st2 H2 F2 le2 s2 o2 u ry => fin2 vo s2 (.inl (rx.mono le2)) (.inl ry) o2⟩⟩

/-- a name's content, read -/
theorem Out.rd {i : Nat} {α : Type} {kk : D → Den α} {K : α → DSt → Hp → Hp → Prop} (s : SR g P σ H F st) (o : Out g W P σ F (bindD (dRd i) kk st) K) :
    ∃ v d, σ[i]? = some (some v) ∧ Br g F H v d ∧ Out g W P σ F (kk d st) K := by
  unfold bindD at o
  cases e : dRd i st with
  | ok d st' =>
    rw [e] at o
    obtain ⟨rfl, v, h1, h2⟩ := rd_at s e
    exact ⟨v, d, h1, h2, o⟩
  | exn c fs st' => exact (rd_no e).elim
  | stuck => rw [e] at o; exact o.elim
theorem ev2n {r : R2} {i : Nat} {op : D → D → Option D} (vo : VO2 g r op) (he : PE X e (tOp r (tVar i) (tE g W h))) : PE X e (tE g W (dOp2n op i h)) := he.imp fun σ H Q ⟨P, F, st, s, o⟩ => by
  obtain ⟨v, d, hv, _, o1⟩ := o.rd s
  refine ⟨v, hv, P, F, st, s, o1.bind.imp fun y st2 H2 F2 le2 s2 o2 u ry => ?_⟩
  obtain ⟨v', d', hv', rx, o3⟩ := o2.rd s2
  rw [hv] at hv'; cases hv'
  exact fin2 vo s2 rx (.inl ry) o3
theorem ev2m {r : R2} {j : Nat} {op : D → D → Option D} (vo : VO2 g r op) (he : PE X e (tOp r (tE g W f) (tVar j))) : PE X e (tE g W (dOp2m op f j)) := he.imp fun σ H Q ⟨P, F, st, s, o⟩ =>
  ⟨P, F, st, s, o.bind.imp fun x st1 H1 F1 le1 s1 o1 v rx => by
    obtain ⟨v', d', hv', ry, o3⟩ := o1.rd s1
    exact ⟨v', hv', fin2 vo s1 (.inl rx) ry o3⟩⟩
theorem ev1 {r : V → Hp → VK → Prop} {op : D → Option D} (vo : VO1 g r op) (he : PE X e (tUn r (tE g W f))) : PE X e (tE g W (dOp1 op f)) := he.imp fun σ H Q ⟨P, F, st, s, o⟩ =>
  ⟨P, F, st, s, o.bind.imp fun x st1 H1 F1 le1 s1 o1 v rx => fin1 vo s1 (.inl rx) o1⟩
theorem evc1 {r : List V → Hp → VK → Prop} {op : D → Option D} (vo : VOC g r op) (he : PE X e (tCB r (tCons (tE g W f) tNil))) : PE X e (tE g W (dOp1 op f)) := he.imp fun σ H Q ⟨P, F, st, s, o⟩ =>
  ⟨P, F, st, s, o.bind.imp fun x st1 H1 F1 le1 s1 o1 v rx => fin1 vo s1 (.inl rx) o1⟩
theorem evc1n {r : List V → Hp → VK → Prop} {i : Nat} {op : D → Option D} (vo : VOC g r op) (he : PE X e (tCB r (tCons (tVar i) tNil))) : PE X e (tE g W (dOp1n op i)) := he.imp fun σ H Q ⟨P, F, st, s, o⟩ => by
  obtain ⟨v, d, hv, rx, o1⟩ := o.rd s
  exact ⟨v, hv, fin1 vo s rx o1⟩
theorem evc2 {r : List V → Hp → VK → Prop} {op : D → D → Option D} (vo : VOC2 g r op) (he : PE X e (tCB r (tCons (tE g W f) (tCons (tE g W h) tNil)))) : PE X e (tE g W (dOp2 op f h)) := he.imp fun σ H Q ⟨P, F, st, s, o⟩ =>
  ⟨P, F, st, s, o.bind.imp fun x st1 H1 F1 le1 s1 o1 v rx => ⟨P, F1, st1, s1, o1.bind.imp fun y st2 H2 F2 le2 s2 o2 u ry => fin2 vo s2 (.inl (rx.mono le2)) (.inl ry) o2⟩⟩

/-! new lists -/
theorem SR.newx {p : Addr} {o : HO} (s : SR g P σ H F st) (h : H p = none) : SRx g P σ (upd H p o) F st p := by
  obtain ⟨O, c⟩ := s
  have f0 : F p = none := by
    cases e : F p with
    | none => rfl
    | some u => rw [c.le _ _ e] at h; cases h
  have r0 : P.R p = none := by
    cases e : P.R p with
    | none => rfl
    | some u => rw [c.rr _ _ e] at h; cases h
  refine ⟨O, c.grow (Grow.new0 c.le h), ?_, f0, r0, fun n => (c.no p n).2 h⟩
  cases e : O p with
  | none => rfl
  | some i => exact absurd h (c.oo p i e).2.2
theorem SRx.sr {p : Addr} (s : SRx g P σ H F st p) : SR g P σ H F st := let ⟨O, c, _⟩ := s; ⟨O, c⟩
theorem SRx.frz {p : Addr} {vs : List V} (s : SRx g P σ H F st p) (h : H p = some (.lst vs)) : Same F (upd F p (.lst vs)) ∧ SR g P σ H (upd F p (.lst vs)) st := by
  obtain ⟨O, c, o0, f0, r0, n0⟩ := s
  have sf : Same F (upd F p (.lst vs)) := fun b o e => by
    rw [upd_ne (fun z => by subst z; rw [f0] at e; cases e)]; exact e
  refine ⟨sf, O, fun b o e => ?_, c.rr, fun b j e => ?_, fun b n => ?_, c.len, fun j s ov e1 e2 => ?_⟩
  · by_cases hb : b = p
    · subst hb; rw [upd_same] at e; cases e; exact h
    · rw [upd_ne hb] at e; exact c.le _ _ e
  · have hb : b ≠ p := fun z => by rw [z, o0] at e; cases e
    rw [upd_ne hb]; exact c.oo b j e
  · have hb : b ≠ p := fun z => n0 (z ▸ n)
    rw [upd_ne hb]; exact c.no b n
  · have q := c.sl j s ov e1 e2
    cases s with
    | no => trivial
    | sh d => obtain ⟨v, e, r⟩ := q; exact ⟨v, e, r.mono sf⟩
    | ow ds' => obtain ⟨b, ws, e, o, n, h1, r⟩ := q; exact ⟨b, ws, e, o, n, h1, r.mono sf⟩
    | rf k' ds' => obtain ⟨b, ws, e, bb, o, h1, r⟩ := q; exact ⟨b, ws, e, bb, o, h1, r.mono sf⟩
    | oi k' c' ns' ds' => obtain ⟨b, C, dx, ws, e, bb, o, m, l, h1, r⟩ := q; exact ⟨b, C, dx, ws, e, bb, o, m, l, h1, r.mono sf⟩
theorem finN {r : V → Hp → VK → Prop} {op : D → Option (List D)} (vo : VN1 g r op) {v : V} {x : D} {Q : VK} (s : SR g P σ H F st) (rx : Br g F H v x) (o : OutN g W P σ F (liftO (op x) st) Q) : r v H Q := by
  cases ez : op x with
  | none => rw [ez] at o; exact o.elim
  | some zs =>
    rw [ez] at o
    exact vo H F v x zs s.le rx ez Q fun p vs hp rv => o _ F p vs (Same.refl _) (s.newx hp) upd_same rv
theorem finN2 {r : R2} {op : D → D → Option (List D)} (vo : VN2 g r op) {v u : V} {x y : D} {Q : VK} (s : SR g P σ H F st) (rx : Br g F H v x) (ry : Br g F H u y) (o : OutN g W P σ F (liftO (op x y) st) Q) : r v u H Q := by
  cases ez : op x y with
  | none => rw [ez] at o; exact o.elim
  | some zs =>
    rw [ez] at o
    exact vo H F v u x y zs s.le rx ry ez Q fun p vs hp rv => o _ F p vs (Same.refl _) (s.newx hp) upd_same rv
theorem OutN.weak {r : Res (List D)} {Q : VK} {F' : Hp} (e : Same F F') (h : OutN g W P σ F r Q) : OutN g W P σ F' r Q := by
  cases r with
  | ok a st' => exact fun H' F2 p vs e2 s => h H' F2 p vs (e.trans e2) s
  | exn c fs st' => exact fun cls dd H' F2 e2 s => h cls dd H' F2 (e.trans e2) s
  | stuck => exact h
theorem OutN.bind {α : Type} {a : Den α} {ff : α → Den (List D)} {Q : VK} (h : OutN g W P σ F (bindD a ff st) Q) : Out g W P σ F (a st) (fun x st1 _ F1 => OutN g W P σ F1 (ff x st1) Q) := by
  unfold bindD at h
  revert h
  cases a st with
  | ok x st' => exact fun h H' F' e s => OutN.weak e h
  | exn c fs st' => exact fun h => h
  | stuck => exact fun h => h
theorem OutN.rd {i : Nat} {kk : D → Den (List D)} {Q : VK} (s : SR g P σ H F st) (o : OutN g W P σ F (bindD (dRd i) kk st) Q) :
    ∃ v d, σ[i]? = some (some v) ∧ Br g F H v d ∧ OutN g W P σ F (kk d st) Q := by
  unfold bindD at o
  cases e : dRd i st with
  | ok d st' =>
    rw [e] at o
    obtain ⟨rfl, v, h1, h2⟩ := rd_at s e
    exact ⟨v, d, h1, h2, o⟩
  | exn c fs st' => exact (rd_no e).elim
  | stuck => rw [e] at o; exact o.elim
theorem evN1 {r : List V → Hp → VK → Prop} {op : D → Option (List D)} (vo : VN1 g (fun v => r [v]) op) (he : PE X e (tCB r (tCons (tE g W f) tNil))) : PE X e (tN g W (dN1 op f)) := he.imp fun σ H Q ⟨P, F, st, s, o⟩ =>
  ⟨P, F, st, s, o.bind.imp fun x st1 H1 F1 le1 s1 o1 v rx => finN vo s1 (.inl rx) o1⟩
theorem evN1n {r : List V → Hp → VK → Prop} {i : Nat} {op : D → Option (List D)} (vo : VN1 g (fun v => r [v]) op) (he : PE X e (tCB r (tCons (tVar i) tNil))) : PE X e (tN g W (dN1n op i)) := he.imp fun σ H Q ⟨P, F, st, s, o⟩ => by
  obtain ⟨v, d, hv, rx, o1⟩ := o.rd s
  exact ⟨v, hv, finN vo s rx o1⟩
theorem evN2 {r : R2} {op : D → D → Option (List D)} (vo : VN2 g r op) (he : PE X e (tOp r (tE g W f) (tE g W h))) : PE X e (tN g W (dN2 op f h)) := he.imp fun σ H Q ⟨P, F, st, s, o⟩ =>
  ⟨P, F, st, s, o.bind.imp fun x st1 H1 F1 le1 s1 o1 v rx => ⟨P, F1, st1, s1, o1.bind.imp fun y st2 H2 F2 le2 s2 o2 u ry => finN2 vo s2 (.inl (rx.mono le2)) (.inl ry) o2⟩⟩
theorem ev_frz {fn : Den (List D)} (he : PE X e (tN g W fn)) : PE X e (tE g W (dFrz fn)) := he.imp fun σ H Q ⟨P, F, st, s, o⟩ => by
  refine ⟨P, F, st, s, ?_⟩
  unfold dFrz bindD at o
  revert o
  cases fn st with
  | ok ds st' => exact fun o H' F' p vs le sx hp r => o H' (upd F' p (.lst vs)) (le.trans (sx.frz hp).1) (sx.frz hp).2 _ (.lst upd_same (r.mono (sx.frz hp).1))
  | exn c fs st' => exact fun o => o
  | stuck => exact fun o => o
/-! arguments, displays -/
theorem ea_nil (ha : PA X [] tNil) : PA X [] (tA g W dNil) := ha.imp fun σ H Q ⟨P, F, st, s, o⟩ => o H F (Same.refl _) s [] .nil
theorem ea_nil' : PA X [] (tA g W dNil) := ea_nil pa_nil
theorem ea_cons {es : List Expr} {fr : Den (List D)} (he : PE X e (tE g W f)) (hr : PA X es (tA g W fr)) (hs : starEach (e :: es) X.env = (false, eval e X.env) :: starEach es X.env := by rfl) : PA X (e :: es) (tA g W (dCons f fr)) :=
  (pa_cons he hr hs).imp fun σ H Q ⟨P, F, st, s, o⟩ => ⟨P, F, st, s, o.bind.imp fun x st1 H1 F1 le1 s1 o1 v rx => ⟨P, F1, st1, s1, o1.bind.imp fun xs st2 H2 F2 le2 s2 o2 vs rxs => o2 H2 F2 (Same.refl _) s2 _ (.cons (rx.mono le2) rxs)⟩⟩
theorem ev_tup {fr : Den (List D)} (he : PE X e (tTup (tA g W fr))) : PE X e (tE g W (dTup fr)) := he.imp fun σ H Q ⟨P, F, st, s, o⟩ =>
  ⟨P, F, st, s, o.bind.imp fun ds st1 H1 F1 le1 s1 o1 vs rx => by
    obtain ⟨z, ez, q⟩ := o1.lift
    split at ez
    · rename_i hl
      cases ez
      exact ⟨by rw [rx.length, ← big_eq]; exact hl, fun p hp => q _ _ (Grow.new s1.le hp).f (s1.grow (Grow.new s1.le hp)) _ (.tup (.inl (.inl upd_same)) (rx.mono (Grow.new s1.le hp).f))⟩
    · cases ez⟩
theorem evN_lst {fr : Den (List D)} (he : PE X e (tLst (tA g W fr))) : PE X e (tN g W (dLst fr)) := he.imp fun σ H Q ⟨P, F, st, s, o⟩ =>
  ⟨P, F, st, s, o.bind.imp fun ds st1 H1 F1 le1 s1 o1 vs rx => by
    unfold liftO at o1
    split at o1
    · rename_i ds' ez
      split at ez
      · rename_i hl
        cases ez
        exact ⟨by rw [rx.length, ← big_eq]; exact hl, fun p hp => o1 _ F1 p vs (Same.refl _) (s1.newx hp) upd_same rx⟩
      · cases ez
    · exact o1.elim⟩
/-! tests -/
theorem asB_some {d : D} {b : Bool} (h : asB d = some b) : d = .bl b := by
  cases d <;> cases h; rfl
theorem et_tst (he : PT X e (tB (tE g W f))) : PT X e (tT g W (dTst f)) := he.imp fun σ H Q ⟨P, F, st, s, o⟩ =>
  ⟨P, F, st, s, o.bind.imp fun x st1 H1 F1 le1 s1 o1 v rx => by
    obtain ⟨z, ez, q⟩ := o1.lift
    cases asB_some ez
    cases rx
    exact ⟨_, rfl, q H1 F1 (Same.refl _) s1⟩⟩
theorem et_cmp (he : PT X e (tTest (tE g W f))) : PT X e (tT g W (dTst f)) := et_tst he
theorem _root_.L2.PT.test {t t' : TE} (he : PT X e (tTest t)) (i : ∀ σ H Q, t' σ H Q → t σ H Q) : PT X e (tTest t') := he.imp fun σ H Q q => i _ _ _ q
theorem et_not (he : PT X e (tNot (tT g W t))) : PT X e (tT g W (dNot t)) := he.imp fun σ H Q ⟨P, F, st, s, o⟩ =>
  ⟨P, F, st, s, o.bind.imp fun x st1 H1 F1 le1 s1 o1 => o1 H1 F1 (Same.refl _) s1⟩
theorem et_and (he : PW X e (tAnd (tT g W t) (tT g W u))) : PW X e (tT g W (dAnd t u)) := he.imp fun σ H Q ⟨P, F, st, s, o⟩ =>
  ⟨P, F, st, s, o.bind.imp fun x st1 H1 F1 le1 s1 o1 => by
    cases x with
    | true => exact ⟨P, F1, st1, s1, o1⟩
    | false => exact o1 H1 F1 (Same.refl _) s1⟩
theorem et_or (he : PW X e (tOr (tT g W t) (tT g W u))) : PW X e (tT g W (dOr t u)) := he.imp fun σ H Q ⟨P, F, st, s, o⟩ =>
  ⟨P, F, st, s, o.bind.imp fun x st1 H1 F1 le1 s1 o1 => by
    cases x with
    | true => exact o1 H1 F1 (Same.refl _) s1
    | false => exact ⟨P, F1, st1, s1, o1⟩⟩
/-- and, or, not as values: all parts truth values -/
theorem ev_andV (he : PE X e (tAndV (tE g W f) (tE g W h))) : PE X e (tE g W (dIf (dTst f) h (dC (.bl false)))) := he.imp fun σ H Q ⟨P, F, st, s, o⟩ =>
  ⟨P, F, st, s, o.bind.bind.imp fun x st1 H1 F1 le1 s1 o1 v rx => by
    obtain ⟨z, ez, q⟩ := o1.lift
    cases asB_some ez
    cases rx
    refine ⟨z, rfl, ?_⟩
    cases z with
    | true => exact ⟨P, F1, st1, s1, q H1 F1 (Same.refl _) s1⟩
    | false => exact q H1 F1 (Same.refl _) s1 H1 F1 (Same.refl _) s1 _ (.bl false)⟩
theorem ev_orV (he : PE X e (tOrV (tE g W f) (tE g W h))) : PE X e (tE g W (dIf (dTst f) (dC (.bl true)) h)) := he.imp fun σ H Q ⟨P, F, st, s, o⟩ =>
  ⟨P, F, st, s, o.bind.bind.imp fun x st1 H1 F1 le1 s1 o1 v rx => by
    obtain ⟨z, ez, q⟩ := o1.lift
    cases asB_some ez
    cases rx
    refine ⟨z, rfl, ?_⟩
    cases z with
    | true => exact q H1 F1 (Same.refl _) s1 H1 F1 (Same.refl _) s1 _ (.bl true)
    | false => exact ⟨P, F1, st1, s1, q H1 F1 (Same.refl _) s1⟩⟩
theorem ev_notV (he : PE X e (tNotV (tE g W f))) : PE X e (tE g W (dVal (dNot (dTst f)))) := he.imp fun σ H Q ⟨P, F, st, s, o⟩ =>
  ⟨P, F, st, s, o.bind.bind.bind.imp fun x st1 H1 F1 le1 s1 o1 v rx => by
    obtain ⟨z, ez, q⟩ := o1.lift
    cases asB_some ez
    cases rx
    exact ⟨z, rfl, q H1 F1 (Same.refl _) s1 H1 F1 (Same.refl _) s1 H1 F1 (Same.refl _) s1 _ (.bl _)⟩⟩
theorem ev_ifE {tt : Den Bool} (he : PE X e (tIf (tT g W tt) (tE g W f) (tE g W h))) : PE X e (tE g W (dIf tt f h)) := he.imp fun σ H Q ⟨P, F, st, s, o⟩ =>
  ⟨P, F, st, s, o.bind.imp fun x st1 H1 F1 le1 s1 o1 => by
    cases x with
    | true => exact ⟨P, F1, st1, s1, o1⟩
    | false => exact ⟨P, F1, st1, s1, o1⟩⟩
theorem chain_imp {r r' : R2} {op op' : D → D → Option D} (vo : VO2 g r op) (vo' : VO2 g r' op') {Q : VK} {σ : L2.St} {H : Hp} (q : tE g W (dChain op op' f h k) σ H Q) : tChain r r' (tE g W f) (tE g W h) (tE g W k) σ H Q := by
  obtain ⟨P, F, st, s, o⟩ := q
  refine ⟨P, F, st, s, o.bind.imp fun x st1 H1 F1 le1 s1 o1 v rx => ⟨P, F1, st1, s1, o1.bind.imp fun y st2 H2 F2 le2 s2 o2 u ry => ?_⟩⟩
  obtain ⟨z, ez, q2⟩ := Out.lift o2.bind
  refine vo H2 F2 v u x y z s2.le (.inl (rx.mono le2)) (.inl ry) ez _ fun v' H' F' gr rv => ?_
  have q3 := q2 H' F' gr.f (s2.grow gr)
  obtain ⟨kb, ek, q4⟩ := Out.lift q3.bind
  cases asB_some ek
  cases rv
  refine ⟨kb, rfl, ?_⟩
  have q5 := q4 H' F' (Same.refl _) (s2.grow gr)
  cases kb with
  | true => exact ⟨P, F', st2, s2.grow gr, q5.bind.imp fun w st3 H3 F3 le3 s3 o3 vw rw' => fin2 vo' s3 (.inl ((ry.mono gr.f).mono le3)) (.inl rw') o3⟩
  | false => exact q5 H' F' (Same.refl _) (s2.grow gr) _ (.bl false)
theorem ev_chain {r r' : R2} {op op' : D → D → Option D} (vo : VO2 g r op) (vo' : VO2 g r' op') (he : PE X e (tChain r r' (tE g W f) (tE g W h) (tE g W k))) : PE X e (tE g W (dChain op op' f h k)) := he.imp fun _ _ _ q => chain_imp vo vo' q
theorem et_chain {r r' : R2} {op op' : D → D → Option D} (vo : VO2 g r op) (vo' : VO2 g r' op') (he : PT X e (tTest (tChain r r' (tE g W f) (tE g W h) (tE g W k)))) : PT X e (tT g W (dTst (dChain op op' f h k))) := et_tst (he.imp fun _ _ _ q => chain_imp vo vo' q)
/-- a comparison as a test -/
theorem et2 {r : R2} {op : D → D → Option D} (vo : VO2 g r op) (he : PT X e (tTest (tOp r (tE g W f) (tE g W h)))) : PT X e (tT g W (dTst (dOp2 op f h))) := et_tst (he.imp fun σ H Q ⟨P, F, st, s, o⟩ =>
  ⟨P, F, st, s, o.bind.imp fun x st1 H1 F1 le1 s1 o1 v rx => ⟨P, F1, st1, s1, o1.bind.imp fun y st2 H2 F2 le2 s2 o2 u ry => fin2 vo s2 (.inl (rx.mono le2)) (.inl ry) o2⟩⟩)
theorem et2m {r : R2} {j : Nat} {op : D → D → Option D} (vo : VO2 g r op) (he : PT X e (tTest (tOp r (tE g W f) (tVar j)))) : PT X e (tT g W (dTst (dOp2m op f j))) := et_tst (he.imp fun σ H Q ⟨P, F, st, s, o⟩ =>
  ⟨P, F, st, s, o.bind.imp fun x st1 H1 F1 le1 s1 o1 v rx => by
    obtain ⟨v', d', hv', ry, o3⟩ := o1.rd s1
    exact ⟨v', hv', fin2 vo s1 (.inl rx) ry o3⟩⟩)
end
end DL

namespace DL
open PySem PySem.Spec PyProof.Rows L2

/-! ### statements -/
inductive Fl where
  | nx | ret (d : D) | brk | cnt
abbrev DS := Den Fl
def OutS (g : G) (W : WX) (P : Par) (F : Hp) (r : Res Fl) (E : Ends) : Prop := match r with
  | .ok fl st' => ∀ σ' H' F', Same F F' → SR g P σ' H' F' st' → match fl with
    | .nx => E.nx σ' H'
    | .brk => E.bk σ' H'
    | .cnt => E.ct σ' H'
    | .ret d => ∀ v, Rv g F' v d → E.rt v H'
  | .exn c fs st' => ∀ cls dd σ' H' F', Same F F' → SR g P σ' H' F' st' → RepX g F' H' c fs cls dd → W cls dd σ' H'
  | .stuck => False
def tS (g : G) (W : WX) (f : DS) : TS := fun D σ H => ∃ P F st, SR g P σ H F st ∧ OutS g W P F (f st) D

@[simp] def slotSet (i : Nat) (s : Slot) (st : DSt) : Option DSt := match st[i]? with
  | some _ => some (st.set i s)
  | none => none
@[simp] def sExpr (f : Den D) : DS := bindD f fun _ => retD .nx
@[simp] def sRet (f : Den D) : DS := bindD f fun d => retD (.ret d)
@[simp] def sRetN : DS := retD (.ret .non)
@[simp] def sPass : DS := retD .nx
@[simp] def sBrk : DS := retD .brk
@[simp] def sCnt : DS := retD .cnt
@[simp] def putD (i : Nat) (s : Slot) : DS := fun st => match slotSet i s st with
  | some st' => .ok .nx st'
  | none => .stuck
@[simp] def sSet (i : Nat) (f : Den D) : DS := bindD f fun d => putD i (.sh d)
@[simp] def sOwn (i : Nat) (f : Den (List D)) : DS := bindD f fun ds => putD i (.ow ds)
@[simp] def sIf (t : Den Bool) (a b : DS) : DS := bindD t fun x => if x then a else b
@[simp] def sSeq (a b : DS) : DS := fun st => match a st with
  | .ok .nx st' => b st'
  | r => r
def sRaise (c : Str) (fs : List (Str × Den D)) : DS := fun _ => .stuck

/-- targets: one name, some names -/
inductive Tg where
  | nm (i : Nat) | nms (is : List Nat)
def Tg.is : Tg → List Nat
  | .nm i => [i]
  | .nms is => is
@[simp] def setAll : List Nat → List D → DSt → Option DSt
  | [], [], st => some st
  | i :: is, d :: ds, st => match slotSet i (.sh d) st with
    | some st' => setAll is ds st'
    | none => none
  | _, _, _ => none
@[simp] def setT (t : Tg) (d : D) (st : DSt) : Option DSt := match t with
  | .nm i => slotSet i (.sh d) st
  | .nms is => match d with
    | .tup ds => setAll is ds st
    | _ => none
def setσ : List Nat → List V → L2.St → L2.St
  | i :: is, x :: xs, σ => setσ is xs (σ.set i (some x))
  | _, _, σ => σ
def tG (g : G) (t : Tg) : TG := fun v σ H Q => ∃ P F st d, SR g P σ H F st ∧ Rv g F v d ∧ ∃ st', setT t d st = some st' ∧ ∀ xs, SR g P (setσ t.is xs σ) H F st' → Q (setσ t.is xs σ) H

def loop (t : Tg) (body : DS) : List D → DS
  | [] => retD .nx
  | d :: ds => fun st => match setT t d st with
    | none => .stuck
    | some st1 => match body st1 with
      | .ok .nx st2 => loop t body ds st2
      | .ok .cnt st2 => loop t body ds st2
      | .ok .brk st2 => .ok .nx st2
      | r => r
@[simp] def sFor (t : Tg) (fi : Den (List D)) (body : DS) : DS := bindD fi fun ds => loop t body ds
def sWhile (t : Den Bool) (body : DS) : Nat → DS
  | 0 => fun _ => .stuck
  | n + 1 => fun st => match t st with
    | .ok true st1 => match body st1 with
      | .ok .nx st2 => sWhile t body n st2
      | .ok .cnt st2 => sWhile t body n st2
      | .ok .brk st2 => .ok .nx st2
      | r => r
    | .ok false st1 => .ok .nx st1
    | .exn c fs st' => .exn c fs st'
    | .stuck => .stuck

section
variable {X : Cx} {g : G} {W : WX} {P : Par} {σ : L2.St} {H F : Hp} {st : DSt} {e : Expr} {s : Stmt} {ss : List Stmt} {f : Den D} {t : Den Bool} {a b : DS}

theorem OutS.weak {r : Res Fl} {E : Ends} {F' : Hp} (e : Same F F') (h : OutS g W P F r E) : OutS g W P F' r E := by
  cases r with
  | ok a st' => exact fun σ' H' F2 e2 s => h σ' H' F2 (e.trans e2) s
  | exn c fs st' => exact fun cls dd σ' H' F2 e2 s => h cls dd σ' H' F2 (e.trans e2) s
  | stuck => exact h
theorem OutS.bind {α : Type} {a : Den α} {k : α → DS} {E : Ends} (h : OutS g W P F (bindD a k st) E) : Out g W P σ F (a st) (fun x st1 _ F1 => OutS g W P F1 (k x st1) E) := by
  unfold bindD at h
  revert h
  cases a st with
  | ok x st' => exact fun h H' F' e s => OutS.weak e h
  | exn c fs st' => exact fun h cls dd H' F' e s => h cls dd σ H' F' e s
  | stuck => exact fun h => h

/-- a slot is stored -/
theorem slotSet_some {i : Nat} {sl : Slot} {st' : DSt} (h : slotSet i sl st = some st') : i < st.length ∧ st' = st.set i sl := by
  unfold slotSet at h
  split at h
  · rename_i x hx
    cases h
    refine ⟨?_, rfl⟩
    rcases Nat.lt_or_ge i st.length with q | q
    · exact q
    · rw [List.getElem?_eq_none q] at hx; cases hx
  · cases h
theorem SR.put {i : Nat} {v : V} {d : D} (s : SR g P σ H F st) (r : Rv g F v d) (hi : i < st.length) : SR g P (σ.set i (some v)) H F (st.set i (.sh d)) := by
  obtain ⟨O, c⟩ := s
  refine ⟨fun b => if O b = some i then none else O b, c.le, c.rr, fun b j e => ?_, c.no, by rw [List.length_set, List.length_set]; exact c.len, fun j s ov e1 e2 => ?_⟩
  · by_cases hb : O b = some i
    · simp [hb] at e
    · simp only [if_neg hb] at e; exact c.oo b j e
  · by_cases hj : j = i
    · subst hj
      rw [List.getElem?_set_self hi] at e1
      rw [List.getElem?_set_self (by rw [c.len]; exact hi)] at e2
      cases e1; cases e2
      exact ⟨v, rfl, r⟩
    · rw [List.getElem?_set_ne (Ne.symm hj)] at e1 e2
      have q := c.sl j s ov e1 e2
      cases s with
      | no => trivial
      | sh d => exact q
      | ow ds =>
        obtain ⟨b, ws, e, o, n, h1, r⟩ := q
        exact ⟨b, ws, e, by show (if O b = some i then none else O b) = some j; rw [if_neg (by rw [o]; intro z; exact hj (Option.some.inj z))]; exact o, n, h1, r⟩
      | rf k ds =>
        obtain ⟨b, ws, e, bb, o, h1, r⟩ := q
        exact ⟨b, ws, e, bb, by show (if O b = some i then none else O b) = some j; rw [if_neg (by rw [o]; intro z; exact hj (Option.some.inj z))]; exact o, h1, r⟩
      | oi k c ns ds =>
        obtain ⟨b, C, dx, ws, e, bb, o, m, l, h1, r⟩ := q
        exact ⟨b, C, dx, ws, e, bb, by show (if O b = some i then none else O b) = some j; rw [if_neg (by rw [o]; intro z; exact hj (Option.some.inj z))]; exact o, m, l, h1, r⟩
theorem SRx.own {p : Addr} {i : Nat} {vs : List V} {ds : List D} (s : SRx g P σ H F st p) (h : H p = some (.lst vs)) (r : Rl g F vs ds) (hi : i < st.length) : SR g P (σ.set i (some (.ref p))) H F (st.set i (.ow ds)) := by
  obtain ⟨O, c, o0, f0, r0, n0⟩ := s
  refine ⟨fun b => if b = p then some i else if O b = some i then none else O b, c.le, c.rr, fun b j e => ?_, c.no, by rw [List.length_set, List.length_set]; exact c.len, fun j s ov e1 e2 => ?_⟩
  · by_cases hp : b = p
    · subst hp; exact ⟨f0, r0, by rw [h]; simp⟩
    · simp only [if_neg hp] at e
      by_cases hb : O b = some i
      · simp [hb] at e
      · simp only [if_neg hb] at e; exact c.oo b j e
  · by_cases hj : j = i
    · subst hj
      rw [List.getElem?_set_self hi] at e1
      rw [List.getElem?_set_self (by rw [c.len]; exact hi)] at e2
      cases e1; cases e2
      exact ⟨p, vs, rfl, by simp, n0, h, r⟩
    · rw [List.getElem?_set_ne (Ne.symm hj)] at e1 e2
      have q := c.sl j s ov e1 e2
      cases s with
      | no => trivial
      | sh d => exact q
      | ow ds =>
        obtain ⟨b, ws, e, o, n, h1, r⟩ := q
        have hp : b ≠ p := fun z => by rw [z, o0] at o; cases o
        exact ⟨b, ws, e, by simp only [if_neg hp]; rw [if_neg (by rw [o]; intro z; exact hj (Option.some.inj z))]; exact o, n, h1, r⟩
      | rf k ds =>
        obtain ⟨b, ws, e, bb, o, h1, r⟩ := q
        have hp : b ≠ p := fun z => by rw [z, o0] at o; cases o
        exact ⟨b, ws, e, bb, by simp only [if_neg hp]; rw [if_neg (by rw [o]; intro z; exact hj (Option.some.inj z))]; exact o, h1, r⟩
      | oi k c ns ds =>
        obtain ⟨b, C, dx, ws, e, bb, o, m, l, h1, r⟩ := q
        have hp : b ≠ p := fun z => by rw [z, o0] at o; cases o
        exact ⟨b, C, dx, ws, e, bb, by simp only [if_neg hp]; rw [if_neg (by rw [o]; intro z; exact hj (Option.some.inj z))]; exact o, m, l, h1, r⟩

theorem es_expr (he : PS X s (tDrop (tE g W f))) : PS X s (tS g W (sExpr f)) := he.imp fun D σ H ⟨P, F, st, s, o⟩ =>
  ⟨P, F, st, s, o.bind.imp fun x st1 H1 F1 le1 s1 o1 v rx => o1 σ H1 F1 (Same.refl _) s1⟩
theorem es_ret (he : PS X s (tRet (tE g W f))) : PS X s (tS g W (sRet f)) := he.imp fun D σ H ⟨P, F, st, s, o⟩ =>
  ⟨P, F, st, s, o.bind.imp fun x st1 H1 F1 le1 s1 o1 v rx => o1 σ H1 F1 (Same.refl _) s1 v rx⟩
theorem es_retN (he : PS X s tRetN) : PS X s (tS g W sRetN) := he.imp fun D σ H ⟨P, F, st, s, o⟩ => o σ H F (Same.refl _) s .non .non
theorem es_pass (he : PS X s tNext) : PS X s (tS g W sPass) := he.imp fun D σ H ⟨P, F, st, s, o⟩ => o σ H F (Same.refl _) s
theorem es_brk (he : PS X s tBreak) : PS X s (tS g W sBrk) := he.imp fun D σ H ⟨P, F, st, s, o⟩ => o σ H F (Same.refl _) s
theorem es_cnt (he : PS X s tCont) : PS X s (tS g W sCnt) := he.imp fun D σ H ⟨P, F, st, s, o⟩ => o σ H F (Same.refl _) s
theorem es_never : PS X s (tS g W fun _ => .stuck) := (ps_never (X := X) (st := s)).imp fun D σ H ⟨P, F, st, s, o⟩ => o
theorem es_set {i : Nat} (he : PS X s (tAsg (tE g W f) (gName i))) : PS X s (tS g W (sSet i f)) := he.imp fun D σ H ⟨P, F, st, s, o⟩ =>
  ⟨P, F, st, s, o.bind.imp fun x st1 H1 F1 le1 s1 o1 v rx => by
    unfold putD at o1
    split at o1
    · rename_i st' h
      obtain ⟨hi, rfl⟩ := slotSet_some h
      exact o1 _ H1 F1 (Same.refl _) (s1.put rx hi)
    · exact o1.elim⟩
theorem es_own {i : Nat} {fn : Den (List D)} (he : PS X s (tAsg (tN g W fn) (gName i))) : PS X s (tS g W (sOwn i fn)) := he.imp fun D σ H ⟨P, F, st, s, o⟩ => by
  refine ⟨P, F, st, s, ?_⟩
  unfold sOwn bindD at o
  revert o
  cases fn st with
  | ok ds st' =>
    intro o H' F' p vs le sx hp r
    have o : OutS g W P F (putD i (.ow ds) st') D := o
    unfold putD at o
    split at o
    · rename_i st2 h
      obtain ⟨hi, rfl⟩ := slotSet_some h
      exact o _ H' F' le (sx.own hp r hi)
    · exact o.elim
  | exn c fs st' => exact fun o cls dd H' F' e s => o cls dd σ H' F' e s
  | stuck => exact fun o => o
theorem es_if (he : PS X s (tIfS (tT g W t) (tS g W a) (tS g W b))) : PS X s (tS g W (sIf t a b)) := he.imp fun D σ H ⟨P, F, st, s, o⟩ =>
  ⟨P, F, st, s, o.bind.imp fun x st1 H1 F1 le1 s1 o1 => by
    cases x with
    | true => exact ⟨P, F1, st1, s1, o1⟩
    | false => exact ⟨P, F1, st1, s1, o1⟩⟩
theorem seq_imp {D : Ends} (q : tS g W (sSeq a b) D σ H) : tSeq (tS g W a) (tS g W b) D σ H := by
  obtain ⟨P, F, st, s, o⟩ := q
  refine ⟨P, F, st, s, ?_⟩
  unfold sSeq at o
  revert o
  cases a st with
  | ok fl st' =>
    cases fl with
    | nx => exact fun o σ' H' F' le s' => ⟨P, F', st', s', OutS.weak le o⟩
    | ret d => exact fun o => o
    | brk => exact fun o => o
    | cnt => exact fun o => o
  | exn c fs st' => exact fun o => o
  | stuck => exact fun o => o
theorem ess_cons (h1 : PS X s (tS g W a)) (h2 : PSs X ss (tS g W b)) : PSs X (s :: ss) (tS g W (sSeq a b)) := (pss_cons h1 h2).imp fun _ _ _ q => seq_imp q
theorem ess_one (h1 : PS X s (tS g W a)) : PSs X [s] (tS g W a) := pss_one h1
theorem ess_nil : PSs X [] (tS g W sPass) := (pss_nil (X := X)).imp fun D σ H ⟨P, F, st, s, o⟩ => o σ H F (Same.refl _) s

/-! targets -/
theorem _root_.L2.PG.imp {X : Cx} {e : Expr} {t t' : TG} (h : PG X e t) (i : ∀ v σ H Q, t' v σ H Q → t v σ H Q) : PG X e t' := ⟨fun pins s σ H v u Q I r q => h.run pins s σ H v u Q I r (i v σ H Q q)⟩
theorem eg_nm {i : Nat} (h : PG X e (gName i)) : PG X e (tG g (.nm i)) := h.imp fun v σ H Q ⟨P, F, st, d, s, r, st', e, q⟩ => by
  obtain ⟨hi, rfl⟩ := slotSet_some e
  exact q [v] (s.put r hi)
def gNames : List Nat → TGs
  | [] => gNil
  | i :: is => gCons (gName i) (gNames is)
theorem gNames_imp : ∀ (is : List Nat) (vs : List V) (ds : List D) (σ : L2.St) (H F : Hp) (st st' : DSt) (Q : L2.St → Hp → Prop), SR g P σ H F st → Rl g F vs ds → setAll is ds st = some st' → (∀ xs, SR g P (setσ is xs σ) H F st' → Q (setσ is xs σ) H) → gNames is vs σ H Q
  | [], vs, ds, σ, H, F, st, st', Q, s, r, e, q => by
    cases ds with
    | nil => cases r; cases e; exact ⟨rfl, q [] s⟩
    | cons d ds => cases e
  | i :: is, vs, ds, σ, H, F, st, st', Q, s, r, e, q => by
    cases ds with
    | nil => cases e
    | cons d ds =>
      cases r with
      | cons r1 rs =>
        unfold setAll at e
        split at e
        · rename_i st1 h1
          obtain ⟨hi, rfl⟩ := slotSet_some h1
          exact ⟨_, _, rfl, gNames_imp is _ ds _ H F _ st' Q (s.put r1 hi) rs e fun xs => q (_ :: xs)⟩
        · cases e
theorem setAll_length : ∀ {is : List Nat} {ds : List D} {st st' : DSt}, setAll is ds st = some st' → ds.length = is.length
  | [], [], _, _, _ => rfl
  | [], _ :: _, _, _, e => by cases e
  | _ :: _, [], _, _, e => by cases e
  | i :: is, d :: ds, st, st', e => by
    unfold setAll at e
    split at e
    · rw [List.length_cons, List.length_cons, setAll_length e]
    · cases e
theorem eg_nms {is : List Nat} {n : Nat} (h : PG X e (gTup g.K n (gNames is))) (hn : n = is.length) : PG X e (tG g (.nms is)) := h.imp fun v σ H Q ⟨P, F, st, d, s, r, st', e, q⟩ => by
  cases d with
  | tup ds =>
    obtain ⟨a, vs, rfl, h1, r1⟩ := Br.tup s.le (.inl r)
    exact ⟨a, vs, rfl, h1, by rw [r1.length, setAll_length e, hn], gNames_imp is vs ds σ H F st st' Q s r1 e q⟩
  | _ => cases e

/-! what a loop walks -/
structure Wk (g : G) (J : It) (F : Hp) (ds : List D) : Prop where
  stop : ∀ H', Same F H' → J.stop ds.length H'
  go : ∀ i H', Same F H' → i < ds.length → J.go i H'
  yld : ∀ i H' x H'', Same F H' → i < ds.length → J.yld i H' x H'' → H'' = H' ∧ ∃ d, ds[i]? = some d ∧ Rv g F x d
def tI (g : G) (W : WX) (fi : Den (List D)) : TI := fun σ H R => ∃ P F st, SR g P σ H F st ∧ Out g W P σ F (fi st) fun ds _ H' F' => ∀ J, Wk g J F' ds → R J H'
theorem _root_.L2.PI.imp {X : Cx} {tg it : Expr} {w w' : TI} (h : PI X tg it w) (i : ∀ σ H R, w' σ H R → w σ H R) : PI X tg it w' := ⟨fun pins s σ H R I q => h.run pins s σ H R I (i σ H R q)⟩
@[simp] def itemsOf : D → Option (List D)
  | .lst xs => some xs
  | .tup xs => some xs
  | _ => none
@[simp] def dItems (f : Den D) : Den (List D) := bindD f fun d => liftO (itemsOf d)
@[simp] def rangeL (n : Int) : Option (List D) := if n.natAbs ≤ big then some ((List.range n.toNat).map fun k : Nat => D.int (k : Int)) else none
@[simp] def rangeL2 (m n : Int) : Option (List D) := if m.natAbs ≤ big ∧ n.natAbs ≤ big then some ((List.range (n - m).toNat).map fun k => D.int (m + (k : Nat))) else none
@[simp] def rngD : D → Option (List D)
  | .int n => rangeL n
  | _ => none
@[simp] def rngD2 : D → D → Option (List D)
  | .int m, .int n => rangeL2 m n
  | _, _ => none
@[simp] def dRng (f : Den D) : Den (List D) := bindD f fun d => liftO (rngD d)
@[simp] def dRng2 (f h : Den D) : Den (List D) := bindD f fun d => bindD h fun d2 => liftO (rngD2 d d2)
theorem wk_l {F : Hp} {a : Addr} {vs : List V} {ds : List D} (h : F a = some (.lst vs)) (r : Rl g F vs ds) : Wk g (Itl g.K a) F ds where
  stop := fun H' le => ⟨vs, sqL_of (le _ _ h), by rw [r.length]; exact Nat.le_refl _⟩
  go := fun i H' le hi => ⟨vs, vs[i]'(by rw [r.length]; exact hi), sqL_of (le _ _ h), by simp [r.length, hi]⟩
  yld := fun i H' x H'' le hi y => by
    obtain ⟨e, y⟩ := y
    refine ⟨e, ?_⟩
    exact r.get' (y vs (sqL_of (le _ _ h)))
theorem wk_t {F : Hp} {a : Addr} {vs : List V} {ds : List D} (h : SqT g.K F a vs) (r : Rl g F vs ds) : Wk g (Itt g.K a) F ds where
  stop := fun H' le => ⟨vs, sqT_mono le h, by rw [r.length]; exact Nat.le_refl _⟩
  go := fun i H' le hi => ⟨vs, vs[i]'(by rw [r.length]; exact hi), sqT_mono le h, by simp [r.length, hi]⟩
  yld := fun i H' x H'' le hi y => by
    obtain ⟨e, y⟩ := y
    refine ⟨e, ?_⟩
    exact r.get' (y vs (sqT_mono le h))
theorem wk_r (F : Hp) (lo : Int) (n : Nat) : Wk g (Itr lo n) F ((List.range n).map fun k => D.int (lo + (k : Nat))) where
  stop := fun H' le => by show n ≤ _; simp
  go := fun i H' le hi => by show i < n; simpa using hi
  yld := fun i H' x H'' le hi y => by
    obtain ⟨e, y⟩ := y
    refine ⟨e, .int (lo + i), ?_, ?_⟩
    · have : i < n := by simpa using hi
      simp [this]
    · rw [y]; exact .int _
def iAny (K : PySem.W.Frag) (tl : TE) : TI := fun σ H R => tl σ H fun x H1 => ∃ a, x = .ref a ∧ (((∃ xs, SqL K H1 a xs) ∧ R (Itl K a) H1) ∨ ((∃ xs, SqT K H1 a xs) ∧ R (Itt K a) H1))
theorem pi_any {tg l : Expr} {tl : TE} (hl : PE X l tl) : PI X tg l (iAny X.K tl) := by
  refine ⟨fun pins s σ H R I h => ?_⟩
  refine thn (hl.run pins s σ H _ I h) fun v s1 ⟨x, H1, I1, r1, q1⟩ => ?_
  obtain ⟨a, e, q1⟩ := q1
  subst e
  cases r1
  rcases q1 with ⟨⟨xs, hq⟩, q⟩ | ⟨⟨xs, hq⟩, q⟩
  · obtain ⟨its, rv, p, hz⟩ := I1.list hq
    refine wpAny_pyIter_list p.isList ?_
    refine ⟨s1.heap.objs.size, [s1.heap.objs.size], _, _, H1, rfl, I1.kept (t' := s1.toks) fun b o e => Heap.get?_push_of_some _ e, turn_list a _, ⟨_, Heap.get?_push_size _ rfl, rfl, rfl⟩, fun b hb => ?_, q⟩
    have e : b = s1.heap.objs.size := by simpa using hb
    subst e
    exact I1.fpOk (Nat.le_refl _) (I1.hok.fresh (Nat.le_refl _))
  · obtain ⟨its, rv, p, hz⟩ := I1.tuple hq
    refine wpAny_pyIter_tuple (show s1.heap.IsTuple a its.toArray from p) ?_
    refine ⟨s1.heap.objs.size, [s1.heap.objs.size], _, _, H1, rfl, I1.kept (t' := s1.toks) fun b o e => Heap.get?_push_of_some _ e, turn_tuple a _, ⟨_, Heap.get?_push_size _ rfl, rfl, rfl⟩, fun b hb => ?_, q⟩
    have e : b = s1.heap.objs.size := by simpa using hb
    subst e
    exact I1.fpOk (Nat.le_refl _) (I1.hok.fresh (Nat.le_refl _))
theorem ei_any {tg it : Expr} (h : PI X tg it (iAny g.K (tE g W f))) : PI X tg it (tI g W (dItems f)) := h.imp fun σ H R ⟨P, F, st, s, o⟩ =>
  ⟨P, F, st, s, o.bind.imp fun d st1 H1 F1 le1 s1 o1 v rx => by
    obtain ⟨ds, ez, q⟩ := o1.lift
    have q := q H1 F1 (Same.refl _) s1
    cases d with
    | lst xs =>
      cases ez
      obtain ⟨a, vs, rfl, h1, r1⟩ := Br.lst (H := F1) (Same.refl _) (.inl rx)
      exact ⟨a, rfl, .inl ⟨⟨vs, sqL_of (s1.le _ _ h1)⟩, q _ (wk_l h1 r1)⟩⟩
    | tup xs =>
      cases ez
      obtain ⟨a, vs, rfl, h1, r1⟩ := Br.tup (H := F1) (Same.refl _) (.inl rx)
      exact ⟨a, rfl, .inr ⟨⟨vs, sqT_mono s1.le h1⟩, q _ (wk_t h1 r1)⟩⟩
    | _ => cases ez⟩
theorem ei_rng {tg it : Expr} (h : PI X tg it (iRng1 (tCons (tE g W f) tNil))) : PI X tg it (tI g W (dRng f)) := h.imp fun σ H R ⟨P, F, st, s, o⟩ =>
  ⟨P, F, st, s, o.bind.imp fun d st1 H1 F1 le1 s1 o1 v rx => by
    obtain ⟨ds, ez, q⟩ := o1.lift
    have q := q H1 F1 (Same.refl _) s1
    cases d with
    | int n =>
      cases rx
      simp only [rngD, rangeL] at ez
      split at ez
      · rename_i hn
        cases ez
        have hb : big = 16777216 := rfl
        have := wk_r (g := g) F1 0 n.toNat
        simp only [Int.zero_add] at this
        exact ⟨n, rfl, by omega, by omega, q _ this⟩
      · cases ez
    | _ => cases ez⟩
theorem ei_rng2 {tg it : Expr} {h2 : Den D} (h : PI X tg it (iRng2 (tCons (tE g W f) (tCons (tE g W h2) tNil)))) : PI X tg it (tI g W (dRng2 f h2)) := h.imp fun σ H R ⟨P, F, st, s, o⟩ =>
  ⟨P, F, st, s, o.bind.imp fun d st1 H1 F1 le1 s1 o1 v rx => ⟨P, F1, st1, s1, o1.bind.imp fun d2 st2 H2 F2 le2 s2 o2 v2 rx2 => by
    obtain ⟨ds, ez, q⟩ := o2.lift
    have q := q H2 F2 (Same.refl _) s2
    cases d with
    | int m =>
      cases d2 with
      | int n =>
        cases rx; cases rx2
        simp only [rngD2, rangeL2] at ez
        split at ez
        · rename_i hn
          cases ez
          have hb : big = 16777216 := rfl
          obtain ⟨hn1, hn2⟩ := hn
          exact ⟨m, n, rfl, ⟨by omega, by omega, by omega, by omega⟩, q _ (wk_r (g := g) F2 m (n - m).toNat)⟩
        · cases ez
      | _ => cases ez
    | _ => cases ez⟩⟩

/-! for, while -/
theorem es_for {tgt : Tg} {fi : Den (List D)} (he : PS X s (tFor (tI g W fi) (tG g tgt) (tS g W a))) : PS X s (tS g W (sFor tgt fi a)) := he.imp fun E σ H ⟨P, F, st, s, o⟩ =>
  ⟨P, F, st, s, o.bind.imp fun ds st1 H1 F1 le1 s1 o1 J wk => by
    refine ⟨fun i m σ H => m = ds.length - i ∧ i ≤ ds.length ∧ ∃ F' st', Same F1 F' ∧ SR g P σ H F' st' ∧ OutS g W P F' (loop tgt a (ds.drop i) st') E, ⟨ds.length, by simp, Nat.zero_le _, F1, st1, Same.refl _, s1, by simpa using o1⟩, ?_⟩
    rintro i m σ H ⟨rfl, hi, F', st', le, s', o'⟩
    by_cases hlt : i < ds.length
    · refine .inr ⟨wk.go i H (le.trans s'.le) hlt, fun σ H => ∃ F' st', Same F1 F' ∧ SR g P σ H F' st' ∧ OutS g W P F' (loop tgt a (ds.drop (i + 1)) st') E, fun σ' H' p' => ⟨ds.length - (i + 1), by omega, rfl, hlt, p'⟩, fun x H' y => ?_⟩
      obtain ⟨rfl, d, hd, rd⟩ := wk.yld i H x H' (le.trans s'.le) hlt y
      have hdr : ds.drop i = d :: ds.drop (i + 1) := by
        rw [List.drop_eq_getElem_cons hlt]
        have : ds[i] = d := by
          have := List.getElem?_eq_getElem hlt
          rw [hd] at this; exact (Option.some.inj this).symm
        rw [this]
      rw [hdr] at o'
      unfold loop at o'
      split at o'
      · exact o'.elim
      · rename_i st2 h2
        refine ⟨P, F', st', d, s', rd.mono le, st2, h2, fun xs s2 => ⟨P, F', st2, s2, ?_⟩⟩
        revert o'
        cases a st2 with
        | ok fl st3 =>
          cases fl with
          | nx => exact fun o' σ3 H3 F3 le3 s3 => ⟨F3, st3, le.trans le3, s3, OutS.weak le3 o'⟩
          | cnt => exact fun o' σ3 H3 F3 le3 s3 => ⟨F3, st3, le.trans le3, s3, OutS.weak le3 o'⟩
          | brk => exact fun o' => o'
          | ret d => exact fun o' => o'
        | exn c fs st3 => exact fun o' => o'
        | stuck => exact fun o' => o'
    · have e : i = ds.length := by omega
      subst e
      rw [List.drop_length] at o'
      exact .inl ⟨wk.stop H (le.trans s'.le), o' σ H F' (Same.refl _) s'⟩⟩
theorem es_while {n : Nat} (he : PS X s (tWhile (tT g W t) (tS g W a))) : PS X s (tS g W (sWhile t a n)) := he.imp fun E σ H ⟨P, F, st, s, o⟩ => by
  refine ⟨fun m σ H => ∃ F' st', SR g P σ H F' st' ∧ OutS g W P F' (sWhile t a m st') E, ⟨n, F, st, s, o⟩, ?_⟩
  rintro m σ H ⟨F', st', s', o'⟩
  cases m with
  | zero => exact o'.elim
  | succ m =>
    refine ⟨P, F', st', s', ?_⟩
    unfold sWhile at o'
    revert o'
    cases t st' with
    | ok b st1 =>
      cases b with
      | true =>
        intro o' H1 F1 le1 s1
        show ∃ N : L2.St → Hp → Prop, _ ∧ _
        refine ⟨fun σ H => ∃ F' st', SR g P σ H F' st' ∧ OutS g W P F' (sWhile t a m st') E, fun σ' H' p' => ⟨m, Nat.lt_succ_self _, p'⟩, P, F1, st1, s1, ?_⟩
        revert o'
        simp only
        cases a st1 with
        | ok fl st3 =>
          cases fl with
          | nx => exact fun o' σ3 H3 F3 le3 s3 => ⟨F3, st3, s3, OutS.weak (le1.trans le3) o'⟩
          | cnt => exact fun o' σ3 H3 F3 le3 s3 => ⟨F3, st3, s3, OutS.weak (le1.trans le3) o'⟩
          | brk => exact fun o' => OutS.weak le1 o'
          | ret d => exact fun o' => OutS.weak le1 o'
        | exn c fs st3 => exact fun o' => OutS.weak le1 o'
        | stuck => exact fun o' => o'
      | false => exact fun o' H1 F1 le1 s1 => o' σ H1 F1 le1 s1
    | exn c fs st1 => exact fun o' cls dd H1 F1 le1 s1 => o' cls dd σ H1 F1 le1 s1
    | stuck => exact fun o' => o'
end
end DL

namespace DL
open PySem PySem.Spec PyProof.Rows L2

/-! ### an owned list changed -/
@[simp] def dOw (i : Nat) : Den (List D) := fun st => match st[i]? with
  | some (.ow ds) => .ok ds st
  | some (.rf _ ds) => .ok ds st
  | _ => .stuck
@[simp] def setOw (i : Nat) (ds : List D) : Den Unit := fun st => match st[i]? with
  | some (.ow _) => .ok () (st.set i (.ow ds))
  | some (.rf k _) => .ok () (st.set i (.rf k ds))
  | _ => .stuck
@[simp] def mutD {α : Type} (i : Nat) (fn : List D → Option (α × List D)) : Den α := bindD (dOw i) fun ds => bindD (liftO (fn ds)) fun r => bindD (setOw i r.2) fun _ => retD r.1
@[simp] def dAppend (i : Nat) (f : Den D) : Den D := bindD (dOw i) fun _ => bindD f fun y => mutD i fun ds => if ds.length < big then some (.non, ds ++ [y]) else none
@[simp] def popAt (ds : List D) (i : Int) : Option (D × List D) := match seqIndex? i ds.length with
  | some k => match ds[k]? with | some y => if i.natAbs ≤ big then some (y, ds.eraseIdx k) else none | none => none
  | none => none
@[simp] def dPopAt (i : Nat) (f : Den D) : Den D := bindD (dOw i) fun _ => bindD f fun y => match y with
  | .int k => mutD i fun ds => popAt ds k
  | _ => fun _ => .stuck
@[simp] def dPop (i : Nat) : Den D := mutD i fun ds => match ds[ds.length - 1]? with | some y => some (y, ds.dropLast) | none => none
@[simp] def sStore (i : Nat) (ix e : Den D) : DS := bindD e fun v => bindD (dRd i) fun _ => bindD ix fun k => match k with
  | .int k => bindD (mutD i fun ds => match ixN ds.length k with | some j => some ((), ds.set j v) | none => none) fun _ => retD .nx
  | _ => fun _ => .stuck

section
variable {X : Cx} {g : G} {W : WX} {P : Par} {σ : L2.St} {H F : Hp} {st : DSt} {e : Expr} {s : Stmt} {ss : List Stmt} {f h : Den D} {t : Den Bool} {a b : DS}

/-- what an owned slot is; it may be changed -/
theorem SR.owned {i : Nat} {ds : List D} {st' : DSt} (s : SR g P σ H F st) (e : dOw i st = .ok ds st') : st' = st ∧ ∃ a vs, σ[i]? = some (some (.ref a)) ∧ H a = some (.lst vs) ∧ Rl g F vs ds ∧ F a = none ∧ P.R a = none ∧
    ∀ (H' F' : Hp) (vs' : List V) (ds' : List D), Same F F' → Same F' H' → (∀ b, H b ≠ none → F b = none → F' b = none) → (∀ b o, b ≠ a → H b = some o → H' b = some o) → H' a = some (.lst vs') → F' a = none → Rl g F' vs' ds' →
      ∃ st2, setOw i ds' st = .ok () st2 ∧ SR g P σ H' F' st2 := by
  have key : ∀ (mk : List D → Slot) (ds0 : List D), st[i]? = some (mk ds0) → (mk = .ow ∨ ∃ k, mk = .rf k) → ∃ a vs, σ[i]? = some (some (.ref a)) ∧ H a = some (.lst vs) ∧ Rl g F vs ds0 ∧ F a = none ∧ P.R a = none ∧
      ∀ (H' F' : Hp) (vs' : List V) (ds' : List D), Same F F' → Same F' H' → (∀ b, H b ≠ none → F b = none → F' b = none) → (∀ b o, b ≠ a → H b = some o → H' b = some o) → H' a = some (.lst vs') → F' a = none → Rl g F' vs' ds' →
        SR g P σ H' F' (st.set i (mk ds')) := by
    intro mk ds0 hd hk
    obtain ⟨ov, hov⟩ := SRc.nth s hd
    obtain ⟨O, c⟩ := s
    have q0 := c.sl i _ _ hd hov
    have hi : i < st.length := by
      rcases Nat.lt_or_ge i st.length with q | q
      · exact q
      · rw [List.getElem?_eq_none q] at hd; cases hd
    have ⟨a, vs, e1, ho, ha, r, mkok⟩ : ∃ a vs, ov = some (.ref a) ∧ O a = some i ∧ H a = some (.lst vs) ∧ Rl g F vs ds0 ∧ ∀ F' H' vs' ds', H' a = some (.lst vs') → Rl g F' vs' ds' → SlotOk g P O F' H' i (mk ds') ov := by
      rcases hk with rfl | ⟨k, rfl⟩
      · obtain ⟨a, vs, rfl, ho, hn, ha, r⟩ := q0
        exact ⟨a, vs, rfl, ho, ha, r, fun F' H' vs' ds' h1 h2 => ⟨a, vs', rfl, ho, hn, h1, h2⟩⟩
      · obtain ⟨a, vs, rfl, hb, ho, ha, r⟩ := q0
        exact ⟨a, vs, rfl, ho, ha, r, fun F' H' vs' ds' h1 h2 => ⟨a, vs', rfl, hb, ho, h1, h2⟩⟩
    subst e1
    refine ⟨a, vs, hov, ha, r, (c.oo a i ho).1, (c.oo a i ho).2.1, fun H' F' vs' ds' sf sfh nf sh hva fa rr => ⟨O, sfh, fun b o e => ?_, fun b j e => ?_, fun b n => ?_, by rw [List.length_set]; exact c.len, fun j s ov e1 e2 => ?_⟩⟩
    · have hb : b ≠ a := fun z => by rw [z, (c.oo a i ho).2.1] at e; cases e
      exact sh b o hb (c.rr _ _ e)
    · refine ⟨nf b (c.oo b j e).2.2 (c.oo b j e).1, (c.oo b j e).2.1, ?_⟩
      by_cases hb : b = a
      · subst hb; rw [hva]; simp
      · obtain ⟨u, hu⟩ := ne_some (c.oo b j e).2.2
        rw [sh b u hb hu]; simp
    · refine ⟨nf b (c.no b n).2 (c.no b n).1, ?_⟩
      by_cases hb : b = a
      · subst hb; rw [hva]; simp
      · obtain ⟨u, hu⟩ := ne_some (c.no b n).2
        rw [sh b u hb hu]; simp
    · by_cases hj : j = i
      · subst hj
        rw [List.getElem?_set_self hi] at e1
        cases e1
        rw [hov] at e2; cases e2
        exact mkok F' H' vs' ds' hva rr
      · rw [List.getElem?_set_ne (Ne.symm hj)] at e1
        have q := c.sl j s ov e1 e2
        cases s with
        | no => trivial
        | sh d => obtain ⟨v, e, r⟩ := q; exact ⟨v, e, r.mono sf⟩
        | ow ds =>
          obtain ⟨b, ws, e, o, n, h1, r⟩ := q
          have hb : b ≠ a := fun z => hj (by rw [z, ho] at o; exact (Option.some.inj o).symm)
          exact ⟨b, ws, e, o, n, sh b _ hb h1, r.mono sf⟩
        | rf k ds =>
          obtain ⟨b, ws, e, bb, o, h1, r⟩ := q
          have hb : b ≠ a := fun z => hj (by rw [z, ho] at o; exact (Option.some.inj o).symm)
          exact ⟨b, ws, e, bb, o, sh b _ hb h1, r.mono sf⟩
        | oi k c ns ds =>
          obtain ⟨b, C, dx, ws, e, bb, o, m, l, h1, r⟩ := q
          have hb : b ≠ a := fun z => hj (by rw [z, ho] at o; exact (Option.some.inj o).symm)
          exact ⟨b, C, dx, ws, e, bb, o, m, l, sh b _ hb h1, r.mono sf⟩
  unfold dOw at e
  split at e
  · rename_i ds0 hd
    cases e
    obtain ⟨a, vs, h1, h2, h3, h4, h5, h6⟩ := key .ow ds hd (.inl rfl)
    exact ⟨rfl, a, vs, h1, h2, h3, h4, h5, fun H' F' vs' ds' a1 a2 a3 a4 a5 a6 a7 => ⟨_, by unfold setOw; rw [hd], h6 H' F' vs' ds' a1 a2 a3 a4 a5 a6 a7⟩⟩
  · rename_i k ds0 hd
    cases e
    obtain ⟨a, vs, h1, h2, h3, h4, h5, h6⟩ := key (.rf k) ds hd (.inr ⟨k, rfl⟩)
    exact ⟨rfl, a, vs, h1, h2, h3, h4, h5, fun H' F' vs' ds' a1 a2 a3 a4 a5 a6 a7 => ⟨_, by unfold setOw; rw [hd], h6 H' F' vs' ds' a1 a2 a3 a4 a5 a6 a7⟩⟩
  · cases e
theorem dOw_no {i : Nat} {c : Str} {fs : List (Str × D)} {st st' : DSt} : dOw i st ≠ .exn c fs st' := by
  unfold dOw
  split <;> exact fun h => by cases h
theorem Out.ow {i : Nat} {α : Type} {kk : List D → Den α} {K : α → DSt → Hp → Hp → Prop} (o : Out g W P σ F (bindD (dOw i) kk st) K) : ∃ ds, dOw i st = .ok ds st ∧ Out g W P σ F (kk ds st) K := by
  unfold bindD at o
  cases e : dOw i st with
  | ok d st' =>
    rw [e] at o
    have : st' = st := by
      unfold dOw at e
      split at e <;> cases e <;> rfl
    subst this
    exact ⟨d, rfl, o⟩
  | exn c fs st' => exact (dOw_no e).elim
  | stuck => rw [e] at o; exact o.elim
/-- a list changed in place, nothing else -/
theorem Out.mut {α : Type} {i : Nat} {fn : List D → Option (α × List D)} {K : α → DSt → Hp → Hp → Prop} (s : SR g P σ H F st) (o : Out g W P σ F (mutD i fn st) K) :
    ∃ a vs ds r, σ[i]? = some (some (.ref a)) ∧ H a = some (.lst vs) ∧ Rl g F vs ds ∧ fn ds = some r ∧ ∀ vs', Rl g F vs' r.2 → ∃ st2, SR g P σ (upd H a (.lst vs')) F st2 ∧ K r.1 st2 (upd H a (.lst vs')) F := by
  obtain ⟨ds, e, o1⟩ := Out.ow o
  obtain ⟨_, a, vs, h1, h2, h3, h4, h5, h6⟩ := s.owned e
  have o1 : Out g W P σ F (bindD (liftO (fn ds)) (fun r => bindD (setOw i r.2) fun _ => retD r.1) st) K := o1
  cases er : fn ds with
  | none => rw [er] at o1; exact o1.elim
  | some r =>
    rw [er] at o1
    refine ⟨a, vs, ds, r, h1, h2, h3, er, fun vs' rr => ?_⟩
    have sfh : Same F (upd H a (.lst vs')) := fun b o e => by
      rw [upd_ne (fun z => by subst z; rw [h4] at e; cases e)]; exact s.le _ _ e
    obtain ⟨st2, e2, s2⟩ := h6 (upd H a (.lst vs')) F vs' r.2 (Same.refl _) sfh (fun b _ h => h) (fun b o hb e => by rw [upd_ne hb]; exact e) upd_same h4 rr
    refine ⟨st2, s2, ?_⟩
    have o2 : Out g W P σ F (bindD (setOw i r.2) (fun _ => retD r.1) st) K := o1
    unfold bindD at o2
    rw [e2] at o2
    exact o2 _ _ (Same.refl _) s2
theorem ev_append {i : Nat} (he : PE X e (tBM g.K "list" rAppend (tVar i) (tCons (tE g W f) tNil))) : PE X e (tE g W (dAppend i f)) := he.imp fun σ H Q ⟨P, F, st, s, o⟩ => by
  obtain ⟨ds, e, o1⟩ := Out.ow o
  obtain ⟨_, a, vs, h1, h2, h3, h4, h5, h6⟩ := s.owned e
  refine ⟨_, h1, .inl ⟨rfl, vs, sqL_of h2⟩, P, F, st, s, o1.bind.imp fun y st1 H1 F1 le1 s1 o2 v rv => ?_⟩
  obtain ⟨a', vs', ds', r, g1, g2, g3, g4, g5⟩ := Out.mut s1 o2
  rw [h1] at g1; cases g1
  split at g4
  · rename_i hl
    cases g4
    obtain ⟨st2, s2, k⟩ := g5 (vs' ++ [v]) (g3.append (.cons rv .nil))
    exact ⟨a, vs', v, rfl, rfl, g2, by rw [g3.length, ← big_eq]; exact hl, k _ .non⟩
  · cases g4
theorem ev_popAt {i : Nat} (he : PE X e (tBM g.K "list" rPopAt (tVar i) (tCons (tE g W f) tNil))) : PE X e (tE g W (dPopAt i f)) := he.imp fun σ H Q ⟨P, F, st, s, o⟩ => by
  obtain ⟨ds, e, o1⟩ := Out.ow o
  obtain ⟨_, a, vs, h1, h2, h3, h4, h5, h6⟩ := s.owned e
  refine ⟨_, h1, .inl ⟨rfl, vs, sqL_of h2⟩, P, F, st, s, o1.bind.imp fun y st1 H1 F1 le1 s1 o2 v rv => ?_⟩
  cases y with
  | int k =>
    cases rv
    obtain ⟨a', vs', ds', r, g1, g2, g3, g4, g5⟩ := Out.mut s1 o2
    rw [h1] at g1; cases g1
    unfold popAt at g4
    split at g4
    · rename_i j hj
      split at g4
      · rename_i y hy
        split at g4
        · rename_i hk
          cases g4
          have hb : big = 16777216 := rfl
          obtain ⟨w, hw, rw'⟩ := g3.get hy
          obtain ⟨st2, s2, kk⟩ := g5 (vs'.eraseIdx j) (g3.eraseIdx j)
          exact ⟨a, vs', k, j, w, rfl, rfl, g2, by omega, by omega, by rw [g3.length]; exact hj, hw, kk _ rw'⟩
        · cases g4
      · cases g4
    · cases g4
  | _ => exact o2.elim
theorem ev_pop {i : Nat} (he : PE X e (tBM0 g.K "list" rPop (tVar i))) : PE X e (tE g W (dPop i)) := he.imp fun σ H Q ⟨P, F, st, s, o⟩ => by
  obtain ⟨a', vs', ds', r, g1, g2, g3, g4, g5⟩ := Out.mut s o
  split at g4
  · rename_i y hy
    cases g4
    obtain ⟨w, hw, rw'⟩ := g3.get hy
    obtain ⟨st2, s2, kk⟩ := g5 vs'.dropLast (by rw [List.dropLast_eq_take, List.dropLast_eq_take, g3.length]; exact g3.take _)
    exact ⟨_, g1, .inl ⟨rfl, vs', sqL_of g2⟩, a', vs', w, rfl, rfl, g2, by rw [g3.length]; exact hw, kk _ rw'⟩
  · cases g4
theorem es_store {i : Nat} (he : PS X s (tAsg (tE g W f) (gSub (tVar i) (tE g W h) rSetL))) : PS X s (tS g W (sStore i h f)) := he.imp fun D σ H ⟨P, F, st, s, o⟩ =>
  ⟨P, F, st, s, o.bind.imp fun x st1 H1 F1 le1 s1 o1 v rx => by
    have o1 : OutS g W P F1 (bindD (dRd i) (fun _ => bindD h fun k => match k with
      | .int k => bindD (mutD i fun ds => match ixN ds.length k with | some j => some ((), ds.set j x) | none => none) fun _ => retD .nx
      | _ => fun _ => .stuck) st1) D := o1
    obtain ⟨v0, d0, hv0, _, o2⟩ := Out.rd s1 (OutS.bind o1 (σ := σ) |> fun (q : Out g W P σ F1 (dRd i st1) _) => (by
      revert q
      unfold bindD
      cases ed : dRd i st1 with
      | ok d st' => exact fun q => q
      | exn c fs st' => exact fun q => q
      | stuck => exact fun q => q : Out g W P σ F1 (bindD (dRd i) (fun d => retD d) st1) (fun d st' _ F1 => OutS g W P F1 ((bindD h fun k => match k with
      | .int k => bindD (mutD i fun ds => match ixN ds.length k with | some j => some ((), ds.set j x) | none => none) fun _ => retD .nx
      | _ => fun _ => .stuck) st') D)))
    have o3 := o2 H1 F1 (Same.refl _) s1
    refine ⟨v0, hv0, P, F1, st1, s1, o3.bind.imp fun k st2 H2 F2 le2 s2 o4 vk rk => ?_⟩
    cases k with
    | int k =>
      cases rk
      have o5 := OutS.bind o4 (σ := σ)
      obtain ⟨a', vs', ds', r, g1, g2, g3, g4, g5⟩ := Out.mut s2 o5
      rw [hv0] at g1; cases g1
      split at g4
      · rename_i j hj
        cases g4
        obtain ⟨st3, s3, kk⟩ := g5 (vs'.set j v) (g3.set (rx.mono le2) j)
        exact ⟨a', vs', k, j, rfl, rfl, g2, by rw [g3.length]; exact hj, kk σ _ F2 (Same.refl _) s3⟩
      · cases g4
    | _ => exact o4.elim⟩

/-! ### calls of own functions -/
def spD (g : G) (df : List D → M D) : Sp := fun vs H Q E => ∃ F ds, Same F H ∧ Rl g F vs ds ∧ match df ds with
  | .ok d => ∀ v H' F', Grow H F H' F' → Rv g F' v d → Q v H'
  | .exn c fs => ∀ cls dd H' F', Grow H F H' F' → RepX g F' H' c fs cls dd → E cls dd H'
  | .stuck => False
@[simp] def dCall (df : List D → M D) (fa : Den (List D)) : Den D := bindD fa fun ds => liftM' (df ds)
theorem call_fin {df : List D → M D} {vs : List V} {ds : List D} {Q : VK} {E : XK} (s : SR g P σ H F st) (r : Rl g F vs ds) (hE : ∀ cls dd H', W cls dd σ H' → E cls dd H') (o : Out g W P σ F (liftM' (df ds) st) fun d _ H' F' => ∀ v, Rv g F' v d → Q v H') : spD g df vs H Q E := by
  refine ⟨F, ds, s.le, r, ?_⟩
  revert o
  unfold liftM'
  cases df ds with
  | ok d => exact fun o v H' F' gr rv => o H' F' gr.f (s.grow gr) v rv
  | exn c fs => exact fun o cls dd H' F' gr rx => hE _ _ _ (o cls dd H' F' gr.f (s.grow gr) rx)
  | stuck => exact fun o => o
theorem ev_call {df : List D → M D} {fa : Den (List D)} (he : PE X e (tCallS (spD g df) (WE W) (tA g W fa))) : PE X e (tE g W (dCall df fa)) := he.imp fun σ H Q ⟨P, F, st, s, o⟩ =>
  ⟨P, F, st, s, o.bind.imp fun ds st1 H1 F1 le1 s1 o1 vs rs => call_fin s1 rs (fun _ _ _ h => h) o1⟩

/-- .. whose first argument is a list that the function changes -/
def spR (g : G) (df : List D → List D → M (D × List D)) : Sp := fun vs H Q _ => ∃ F a ws ss us ds, vs = .ref a :: us ∧ Same F H ∧ F a = none ∧ H a = some (.lst ws) ∧ Rl g F ws ss ∧ Rl g F us ds ∧ match df ss ds with
  | .ok r => ∀ v H' F' ws', Same F F' → Same F' H' → (∀ b, H b ≠ none → F b = none → F' b = none) → (∀ b o, b ≠ a → H b = some o → H' b = some o) → H' a = some (.lst ws') → F' a = none → Rl g F' ws' r.2 → Rv g F' v r.1 → Q v H'
  | _ => False
@[simp] def dCallR (df : List D → List D → M (D × List D)) (i : Nat) (fa : Den (List D)) : Den D := bindD (dOw i) fun _ => bindD fa fun ds => bindD (dOw i) fun ss => bindD (liftM' (df ss ds)) fun r => bindD (setOw i r.2) fun _ => retD r.1
theorem ev_callR {df : List D → List D → M (D × List D)} (nox : ∀ ss ds c fs, df ss ds ≠ .exn c fs) {i : Nat} {fa : Den (List D)} (he : PE X e (tCallS (spR g df) (WE W) (tCons (tVar i) (tA g W fa)))) : PE X e (tE g W (dCallR df i fa)) := he.imp fun σ H Q ⟨P, F, st, s, o⟩ => by
  obtain ⟨ds0, e0, o1⟩ := Out.ow o
  obtain ⟨_, a, vs, h1, h2, h3, h4, h5, h6⟩ := s.owned e0
  refine ⟨_, h1, P, F, st, s, o1.bind.imp fun ds st1 H1 F1 le1 s1 o2 us ru => ?_⟩
  obtain ⟨ss, e1, o3⟩ := Out.ow o2
  obtain ⟨_, a', ws, g1, g2, g3, g4, g5, g6⟩ := s1.owned e1
  rw [h1] at g1; cases g1
  refine ⟨F1, a, ws, ss, us, ds, rfl, s1.le, g4, g2, g3, ru, ?_⟩
  have nx := nox ss ds
  revert o3 nx
  cases df ss ds with
  | ok r =>
    intro o3 nx v H' F' ws' a1 a2 a3 a4 a5 a6 a7 rv
    obtain ⟨st2, e2, s2⟩ := g6 H' F' ws' r.2 a1 a2 a3 a4 a5 a6 a7
    have o4 : Out g W P σ F1 (bindD (setOw i r.2) (fun _ => retD r.1) st1) fun d _ H' F' => ∀ v, Rv g F' v d → Q v H' := o3
    unfold bindD at o4
    rw [e2] at o4
    exact o4 H' F' a1 s2 v rv
  | exn c fs => exact fun _ nx => (nx c fs rfl).elim
  | stuck => exact fun o3 => o3.elim

/-! ### a def's body -/
/-- a body's meaning as a function of its arguments: n slots -/
def runF (m n : Nat) (f : DS) (ds : List D) : M D := if ds.length = m then match f (ds.map Slot.sh ++ List.replicate (n - ds.length) .no) with
  | .ok (.ret d) _ => .ok d
  | .ok .nx _ => .ok .non
  | .exn c fs _ => .exn c fs
  | _ => .stuck
  else .stuck
theorem getElem_start {N : List Str} {vs : List V} {i : Nat} {ov : Option V} (h : (L2.start N vs)[i]? = some ov) : ∀ v, vs[i]? = some v → ov = some v := by
  intro v hv
  unfold L2.start at h
  have hi : i < vs.length := by
    rcases Nat.lt_or_ge i vs.length with q | q
    · exact q
    · rw [List.getElem?_eq_none q] at hv; cases hv
  rw [List.getElem?_append_left (by simpa using hi), List.getElem?_map, hv] at h
  exact (Option.some.inj h).symm
theorem init_sl {O : Addr → Option Nat} {N : List Str} {vs : List V} {ds : List D} (r : Rl g F vs ds) (n : Nat) : ∀ i s ov, (ds.map Slot.sh ++ List.replicate n Slot.no)[i]? = some s → (L2.start N vs)[i]? = some ov → SlotOk g P O F H i s ov := by
  intro i s ov e1 e2
  rcases Nat.lt_or_ge i ds.length with hi | hi
  · rw [List.getElem?_append_left (by simpa using hi), List.getElem?_map, List.getElem?_eq_getElem hi] at e1
    cases e1
    obtain ⟨v, hv, rv⟩ := r.get (List.getElem?_eq_getElem hi)
    exact ⟨v, getElem_start e2 v hv, rv⟩
  · rw [List.getElem?_append_right (by simpa using hi)] at e1
    have : s = Slot.no := by
      have := List.mem_of_getElem? e1
      exact (List.mem_replicate.mp this).2
    subst this
    trivial
/-- THE RULE for a def of data -/
theorem body_ok {N ps : List Str} {f : DS} {n : Nat} {vs : List V} {Q : VK} {E : XK} (hn : n = N.length) (hp : ps.length ≤ N.length) (hl : vs.length = ps.length) (h : spD g (runF ps.length n f) vs H Q E) :
    tS g (fun cls dd _ H => E cls dd H) f { nx := fun _ H' => Q .non H', rt := Q } (L2.start N vs) H := by
  obtain ⟨F, ds, le, r, h⟩ := h
  refine ⟨⟨[], H, fun a => H a ≠ none ∧ F a = none⟩, F, ds.map Slot.sh ++ List.replicate (n - ds.length) .no, ⟨fun _ => none, le, Same.refl _, (fun _ _ e => nomatch e), fun a h => ⟨h.2, h.1⟩, ?_, init_sl r _⟩, ?_⟩
  · have := r.length
    unfold L2.start
    simp only [List.length_append, List.length_map, List.length_replicate]
    omega
  · have gr : ∀ {σ' : L2.St} {H' F' : Hp} {st' : DSt}, Same F F' → SR g ⟨[], H, fun a => H a ≠ none ∧ F a = none⟩ σ' H' F' st' → Grow H F H' F' := fun le ⟨O, c⟩ => ⟨c.rr, le, c.le, fun a h1 h2 => (c.no a ⟨h1, h2⟩).1⟩
    unfold runF at h
    rw [if_pos (by rw [← r.length]; exact hl)] at h
    revert h
    cases f (ds.map Slot.sh ++ List.replicate (n - ds.length) .no) with
    | ok fl st' =>
      cases fl with
      | nx => exact fun h σ' H' F' le s => h .non H' F' (gr le s) .non
      | ret d => exact fun h σ' H' F' le s v rv => h v H' F' (gr le s) rv
      | brk => exact fun h => h.elim
      | cnt => exact fun h => h.elim
    | exn c fs st' => exact fun h cls dd σ' H' F' le s rx => h cls dd H' F' (gr le s) rx
    | stuck => exact fun h => h.elim
/-- .. with a list that it changes, its first argument -/
def runR (m n : Nat) (f : DS) (ss : List D) (ds : List D) : M (D × List D) := if ds.length + 1 = m then match f (.rf 0 ss :: (ds.map Slot.sh ++ List.replicate (n - ds.length - 1) .no)) with
  | .ok (.ret d) (.rf 0 ss' :: _) => .ok (d, ss')
  | .ok .nx (.rf 0 ss' :: _) => .ok (.non, ss')
  | _ => .stuck
  else .stuck
theorem runR_nox (m n : Nat) (f : DS) : ∀ ss ds c fs, runR m n f ss ds ≠ .exn c fs := by
  intro ss ds c fs h
  unfold runR at h
  split at h
  · split at h <;> cases h
  · cases h
theorem start_cons {x : Str} {N : List Str} {v : V} {vs : List V} : L2.start (x :: N) (v :: vs) = some v :: L2.start N vs := by
  unfold L2.start
  simp
theorem body_okR {x : Str} {N ps : List Str} {f : DS} {n : Nat} {vs : List V} {Q : VK} {E : XK} (hn : n = (x :: N).length) (hp : ps.length ≤ (x :: N).length) (hl : vs.length = ps.length) (h : spR g (runR ps.length n f) vs H Q E) :
    tS g (fun cls dd _ H => E cls dd H) f { nx := fun _ H' => Q .non H', rt := Q } (L2.start (x :: N) vs) H := by
  obtain ⟨F, a, ws, ss, us, ds, rfl, le, fa, ha, rs, r, h⟩ := h
  have hln := r.length
  rw [start_cons]
  refine ⟨⟨[a], fun b => if b = a then none else H b, fun b => H b ≠ none ∧ F b = none⟩, F, .rf 0 ss :: (ds.map Slot.sh ++ List.replicate (n - ds.length - 1) .no), ⟨fun b => if b = a then some 0 else none, le, fun b o e => ?_, fun b i e => ?_, fun a h => ⟨h.2, h.1⟩, ?_, fun i s ov e1 e2 => ?_⟩, ?_⟩
  · by_cases hb : b = a
    · subst hb; simp at e
    · simpa [hb] using e
  · by_cases hb : b = a
    · subst hb; exact ⟨fa, by simp, by rw [ha]; simp⟩
    · simp [hb] at e
  · unfold L2.start
    simp only [List.length_append, List.length_map, List.length_replicate, List.length_cons] at *
    omega
  · cases i with
    | zero =>
      simp at e1 e2
      subst e1; subst e2
      exact ⟨a, ws, rfl, rfl, by simp, ha, rs⟩
    | succ i =>
      have q := init_sl (P := ⟨[a], fun b => if b = a then none else H b, fun b => H b ≠ none ∧ F b = none⟩) (H := H) (O := fun b => if b = a then some 0 else none) (N := N) r (n - ds.length - 1) i s ov (by simpa using e1) (by simpa using e2)
      have hs : s = .no ∨ ∃ d, s = .sh d := by
        have e1 : (ds.map Slot.sh ++ List.replicate (n - ds.length - 1) Slot.no)[i]? = some s := by simpa using e1
        rcases List.mem_append.mp (List.mem_of_getElem? e1) with h | h
        · obtain ⟨d, _, e⟩ := List.mem_map.mp h
          exact .inr ⟨d, e.symm⟩
        · exact .inl (List.mem_replicate.mp h).2
      rcases hs with rfl | ⟨d, rfl⟩
      · trivial
      · exact q
  · have gr : ∀ {σ' : L2.St} {H' F' : Hp} {ss' : List D} {st' : DSt} {d : D}, Same F F' → SR g ⟨[a], fun b => if b = a then none else H b, fun b => H b ≠ none ∧ F b = none⟩ σ' H' F' (.rf 0 ss' :: st') →
        (∀ v H' F' ws', Same F F' → Same F' H' → (∀ b, H b ≠ none → F b = none → F' b = none) → (∀ b o, b ≠ a → H b = some o → H' b = some o) → H' a = some (.lst ws') → F' a = none → Rl g F' ws' ss' → Rv g F' v d → Q v H') → ∀ v, Rv g F' v d → Q v H' := fun {σ' H' F' ss' st' d} le s k v rv => by
      obtain ⟨ov, hov⟩ := SRc.nth (i := 0) s rfl
      obtain ⟨O, c⟩ := s
      obtain ⟨a', ws', e1, e2, e3, e4, e5⟩ := c.sl 0 _ _ rfl hov
      have : a' = a := by simpa using e2.symm
      subst this
      refine k v H' F' ws' le c.le (fun b h1 h2 => (c.no b ⟨h1, h2⟩).1) (fun b o hb e => c.rr b o (by simp [hb, e])) e4 (c.oo _ _ e3).1 e5 rv
    unfold runR at h
    rw [if_pos (by simp only [List.length_cons] at hl; omega)] at h
    revert h
    cases f (.rf 0 ss :: (ds.map Slot.sh ++ List.replicate (n - ds.length - 1) .no)) with
    | ok fl st' =>
      cases fl with
      | nx =>
        cases st' with
        | nil => exact fun h => h.elim
        | cons s0 st' =>
          cases s0 with
          | rf k ss' =>
            cases k with
            | zero => exact fun h σ' H' F' le s => gr le s h .non .non
            | succ k => exact fun h => h.elim
          | _ => exact fun h => h.elim
      | ret d =>
        cases st' with
        | nil => exact fun h => h.elim
        | cons s0 st' =>
          cases s0 with
          | rf k ss' =>
            cases k with
            | zero => exact fun h σ' H' F' le s v rv => gr le s h v rv
            | succ k => exact fun h => h.elim
          | _ => exact fun h => h.elim
      | brk => exact fun h => h.elim
      | cnt => exact fun h => h.elim
    | exn c fs st' => exact fun h => h.elim
    | stuck => exact fun h => h.elim
theorem spD_len {m n : Nat} {f : DS} {vs : List V} {Q : VK} {E : XK} (h : spD g (runF m n f) vs H Q E) : vs.length = m := by
  obtain ⟨F, ds, le, r, h⟩ := h
  rw [r.length]
  by_cases hm : ds.length = m
  · exact hm
  · unfold runF at h
    rw [if_neg hm] at h
    exact h.elim
theorem spR_len {m n : Nat} {f : DS} {vs : List V} {Q : VK} {E : XK} (h : spR g (runR m n f) vs H Q E) : vs.length = m := by
  obtain ⟨F, a, ws, ss, us, ds, rfl, le, fa, ha, rs, r, h⟩ := h
  rw [List.length_cons, r.length]
  by_cases hm : ds.length + 1 = m
  · exact hm
  · unfold runR at h
    rw [if_neg hm] at h
    exact h.elim
end
end DL

namespace DL
open PySem PySem.Spec PyProof.Rows L2

/-! ### list comprehensions -/
def wipeD (st : DSt) : List Nat → DSt
  | [] => st
  | v :: vs => (wipeD st vs).set v .no
/-- the names of the block have their old content again -/
def backD (st0 st : DSt) : List Nat → DSt
  | [] => st
  | v :: vs => (backD st0 st vs).set v ((st0[v]?).getD .no)
def plainAt (st : DSt) (v : Nat) : Bool := match st[v]? with
  | some .no => true
  | some (.sh _) => true
  | _ => false
def compGo (vs : List Nat) (t : Tg) (test : Den Bool) (elt : Den D) : List D → Den (List D)
  | [] => retD []
  | d :: ds => fun st => match setT t d st with
    | none => .stuck
    | some st1 => match test st1 with
      | .ok true st2 => match elt st2 with
        | .ok y st3 => match compGo vs t test elt ds (wipeD st3 vs) with
          | .ok ys st4 => .ok (y :: ys) st4
          | _ => .stuck
        | _ => .stuck
      | .ok false st2 => compGo vs t test elt ds (wipeD st2 vs)
      | _ => .stuck
def dComp (vs : List Nat) (t : Tg) (fi : Den (List D)) (test : Den Bool) (elt : Den D) : Den (List D) := bindD fi fun ds => fun st =>
  if ds.length ≤ big ∧ vs.all (plainAt st) = true then
    match compGo vs t test elt ds (wipeD st vs) with
    | .ok ys st' => .ok ys (backD st st' vs)
    | _ => .stuck
  else .stuck
def WN : WX := fun _ _ _ _ => False
@[simp] def dYes : Den Bool := retD true

section
variable {X : Cx} {g : G} {W : WX} {P : Par} {σ : L2.St} {H F : Hp} {st : DSt} {e : Expr}

theorem wipeD_length (st : DSt) : ∀ vs : List Nat, (wipeD st vs).length = st.length
  | [] => rfl
  | v :: vs => by unfold wipeD; rw [List.length_set, wipeD_length st vs]
theorem backD_length (st0 st : DSt) : ∀ vs : List Nat, (backD st0 st vs).length = st.length
  | [] => rfl
  | v :: vs => by unfold backD; rw [List.length_set, backD_length st0 st vs]
theorem wipeD_in {st : DSt} {i : Nat} : ∀ {vs : List Nat}, i ∈ vs → ∀ s, (wipeD st vs)[i]? = some s → s = .no
  | v :: vs, h, s, e => by
    unfold wipeD at e
    by_cases hv : v = i
    · subst hv
      by_cases hl : v < (wipeD st vs).length
      · rw [List.getElem?_set_self hl] at e; cases e; rfl
      · rw [List.getElem?_eq_none (by simpa using hl)] at e; cases e
    · rw [List.getElem?_set_ne hv] at e
      rcases List.mem_cons.mp h with h | h
      · exact absurd h.symm hv
      · exact wipeD_in h s e
theorem wipeD_out {st : DSt} {i : Nat} : ∀ {vs : List Nat}, i ∉ vs → (wipeD st vs)[i]? = st[i]?
  | [], _ => rfl
  | v :: vs, h => by
    unfold wipeD
    rw [List.getElem?_set_ne (fun z => h (by rw [← z]; exact List.mem_cons_self))]
    exact wipeD_out fun z => h (List.mem_cons_of_mem _ z)
theorem wipe_out {σ : L2.St} {i : Nat} : ∀ {vs : List Nat}, i ∉ vs → (wipe σ vs)[i]? = σ[i]?
  | [], _ => rfl
  | v :: vs, h => by
    unfold wipe
    rw [List.getElem?_set_ne (fun z => h (by rw [← z]; exact List.mem_cons_self))]
    exact wipe_out fun z => h (List.mem_cons_of_mem _ z)
theorem backD_out {st0 st : DSt} {i : Nat} : ∀ {vs : List Nat}, i ∉ vs → (backD st0 st vs)[i]? = st[i]?
  | [], _ => rfl
  | v :: vs, h => by
    unfold backD
    rw [List.getElem?_set_ne (fun z => h (by rw [← z]; exact List.mem_cons_self))]
    exact backD_out fun z => h (List.mem_cons_of_mem _ z)
theorem backD_in {st0 st : DSt} {i : Nat} : ∀ {vs : List Nat}, i ∈ vs → ∀ s, (backD st0 st vs)[i]? = some s → s = (st0[i]?).getD .no
  | v :: vs, h, s, e => by
    unfold backD at e
    by_cases hv : v = i
    · subst hv
      by_cases hl : v < (backD st0 st vs).length
      · rw [List.getElem?_set_self hl] at e; cases e; rfl
      · rw [List.getElem?_eq_none (by simpa using hl)] at e; cases e
    · rw [List.getElem?_set_ne hv] at e
      rcases List.mem_cons.mp h with h | h
      · exact absurd h.symm hv
      · exact backD_in h s e
theorem SR.wipe (s : SR g P σ H F st) (vs : List Nat) : SR g P (wipe σ vs) H F (wipeD st vs) := by
  obtain ⟨O, c⟩ := s
  refine ⟨O, c.le, c.rr, c.oo, c.no, by rw [wipe_length, wipeD_length]; exact c.len, fun i s ov e1 e2 => ?_⟩
  by_cases hi : i ∈ vs
  · rw [wipeD_in hi s e1]; trivial
  · rw [wipeD_out hi] at e1
    rw [wipe_out hi] at e2
    exact c.sl i s ov e1 e2
theorem wipe_set {σ : L2.St} {i : Nat} {x : Option V} : ∀ {vs : List Nat}, i ∈ vs → wipe (σ.set i x) vs = wipe σ vs := by
  intro vs hi
  apply List.ext_getElem?
  intro j
  by_cases hj : j ∈ vs
  · have key : ∀ (τ : L2.St) (vs : List Nat), j ∈ vs → (L2.wipe τ vs)[j]? = if j < τ.length then some none else none := by
      intro τ vs
      induction vs with
      | nil => intro h; cases h
      | cons v vs ih =>
        intro h
        unfold L2.wipe
        by_cases hv : v = j
        · subst hv
          by_cases hl : v < τ.length
          · rw [List.getElem?_set_self (by rw [wipe_length]; exact hl), if_pos hl]
          · rw [List.getElem?_eq_none (by simp [wipe_length]; omega), if_neg hl]
        · rw [List.getElem?_set_ne hv]
          rcases List.mem_cons.mp h with h | h
          · exact absurd h.symm hv
          · exact ih h
    rw [key _ _ hj, key _ _ hj, List.length_set]
  · have hij : i ≠ j := fun z => hj (z ▸ hi)
    rw [wipe_out hj, wipe_out hj, List.getElem?_set_ne hij]
theorem wipe_setσ : ∀ {is : List Nat} {xs : List V} {σ : L2.St} {vs : List Nat}, (∀ i ∈ is, i ∈ vs) → wipe (setσ is xs σ) vs = wipe σ vs
  | [], xs, σ, vs, _ => by unfold setσ; rfl
  | i :: is, [], σ, vs, _ => by unfold setσ; rfl
  | i :: is, x :: xs, σ, vs, h => by
    unfold setσ
    rw [wipe_setσ fun j hj => h j (List.mem_cons_of_mem _ hj), wipe_set (h i List.mem_cons_self)]
theorem wipe_wipe (σ : L2.St) (vs : List Nat) : L2.wipe (L2.wipe σ vs) vs = L2.wipe σ vs := by
  have key : ∀ (τ : L2.St) (ws : List Nat), (∀ v ∈ ws, v ∈ vs) → L2.wipe (L2.wipe τ ws) vs = L2.wipe τ vs := by
    intro τ ws
    induction ws with
    | nil => intro _; rfl
    | cons w ws ih =>
      intro h
      show L2.wipe ((L2.wipe τ ws).set w none) vs = _
      rw [wipe_set (h w List.mem_cons_self)]
      exact ih fun v hv => h v (List.mem_cons_of_mem _ hv)
  exact key σ vs fun _ h => h

/-- the new list is guarded while the elements are worked out -/
def gd (P : Par) (D : Addr) (acc : List V) : Par := ⟨P.B, upd P.R D (.lst acc), fun a => P.N a ∨ a = D⟩
theorem SR.guard {D : Addr} {o : HO} {acc : List V} (s : SR g P σ H F st) (h : H D = none) : SR g (gd P D acc) σ (upd H D (.lst acc)) F st := by
  obtain ⟨O, c, o0, f0, r0, n0⟩ := s.newx (o := .lst acc) h
  refine ⟨O, c.le, fun b u e => ?_, fun b i e => ⟨(c.oo b i e).1, ?_, (c.oo b i e).2.2⟩, fun b n => ?_, c.len, fun i s ov e1 e2 => ?_⟩
  · have e : upd P.R D (.lst acc) b = some u := e
    by_cases hb : b = D
    · subst hb; rw [upd_same] at e; rw [← e]; exact upd_same
    · rw [upd_ne hb] at e; exact c.rr b u e
  · have hb : b ≠ D := fun z => by rw [z, o0] at e; cases e
    show upd P.R D (.lst acc) b = none
    rw [upd_ne hb]; exact (c.oo b i e).2.1
  · rcases n with n | rfl
    · exact c.no b n
    · exact ⟨f0, by rw [upd_same]; simp⟩
  · have q := c.sl i s ov e1 e2
    cases s with
    | no => trivial
    | sh d => exact q
    | ow ds =>
      obtain ⟨b, ws, e, o, n, h1, r⟩ := q
      exact ⟨b, ws, e, o, (fun z => Or.elim z n fun z => by rw [z, o0] at o; cases o), h1, r⟩
    | rf k ds => exact q
    | oi k c ns ds => exact q
theorem SR.guard_at {D : Addr} {acc : List V} (s : SR g (gd P D acc) σ H F st) : H D = some (.lst acc) := by
  obtain ⟨O, c⟩ := s
  exact c.rr D _ upd_same
theorem SR.reguard {D : Addr} {acc acc' : List V} (s : SR g (gd P D acc) σ H F st) : SR g (gd P D acc') σ (upd H D (.lst acc')) F st := by
  obtain ⟨O, c⟩ := s
  have o0 : O D = none := by
    cases e : O D with
    | none => rfl
    | some i =>
      have := (c.oo D i e).2.1
      have z : upd P.R D (.lst acc) D = none := this
      rw [upd_same] at z; cases z
  have f0 := (c.no D (.inr rfl)).1
  refine ⟨O, fun b u e => ?_, fun b u e => ?_, fun b i e => ?_, fun b n => ?_, c.len, fun i s ov e1 e2 => ?_⟩
  · rw [upd_ne (fun z => by rw [z, f0] at e; cases e)]; exact c.le b u e
  · have e : upd P.R D (.lst acc') b = some u := e
    by_cases hb : b = D
    · subst hb; rw [upd_same] at e; rw [← e]; exact upd_same
    · rw [upd_ne hb] at e ⊢
      exact c.rr b u (by show upd P.R D (.lst acc) b = some u; rw [upd_ne hb]; exact e)
  · have hb : b ≠ D := fun z => by rw [z, o0] at e; cases e
    obtain ⟨h1, h2, h3⟩ := c.oo b i e
    have h2 : upd P.R D (.lst acc) b = none := h2
    rw [upd_ne hb] at h2
    exact ⟨h1, by show upd P.R D (.lst acc') b = none; rw [upd_ne hb]; exact h2, by rw [upd_ne hb]; exact h3⟩
  · refine ⟨(c.no b n).1, ?_⟩
    by_cases hb : b = D
    · subst hb; rw [upd_same]; simp
    · rw [upd_ne hb]; exact (c.no b n).2
  · have q := c.sl i s ov e1 e2
    cases s with
    | no => trivial
    | sh d => exact q
    | ow ds =>
      obtain ⟨b, ws, e, o, n, h1, r⟩ := q
      have hb : b ≠ D := fun z => by rw [z, o0] at o; cases o
      exact ⟨b, ws, e, o, n, by rw [upd_ne hb]; exact h1, r⟩
    | rf k ds =>
      obtain ⟨b, ws, e, bb, o, h1, r⟩ := q
      have hb : b ≠ D := fun z => by rw [z, o0] at o; cases o
      exact ⟨b, ws, e, bb, o, by rw [upd_ne hb]; exact h1, r⟩
    | oi k c' ns ds =>
      obtain ⟨b, C, dx, ws, e, bb, o, m, l, h1, r⟩ := q
      have hb : b ≠ D := fun z => by rw [z, o0] at o; cases o
      exact ⟨b, C, dx, ws, e, bb, o, m, l, by rw [upd_ne hb]; exact h1, r⟩
/-- behind the comprehension -/
theorem SR.unguard {D : Addr} {acc : List V} {H0 F0 : Hp} {st0 : DSt} {vs : List Nat} (s : SR g (gd P D acc) (L2.wipe σ vs) H F st) (s0 : SR g P σ H0 F0 st0) (h0 : H0 D = none) (le : Same F0 F) (hl : st.length = st0.length) (hp : vs.all (plainAt st0) = true) :
    SRx g P σ H F (backD st0 st vs) D := by
  obtain ⟨O, c⟩ := s
  have o0 : O D = none := by
    cases e : O D with
    | none => rfl
    | some i =>
      have z : upd P.R D (.lst acc) D = none := (c.oo D i e).2.1
      rw [upd_same] at z; cases z
  obtain ⟨_, _, _, _, r0, n0⟩ := s0.newx (o := .lst acc) h0
  refine ⟨O, ⟨c.le, fun b u e => ?_, fun b i e => ?_, fun b n => c.no b (.inl n), ?_, fun i sl ov e1 e2 => ?_⟩, o0, (c.no D (.inr rfl)).1, r0, n0⟩
  · have hb : b ≠ D := fun z => by rw [z, r0] at e; cases e
    exact c.rr b u (by show upd P.R D (.lst acc) b = some u; rw [upd_ne hb]; exact e)
  · have hb : b ≠ D := fun z => by rw [z, o0] at e; cases e
    obtain ⟨h1, h2, h3⟩ := c.oo b i e
    have h2 : upd P.R D (.lst acc) b = none := h2
    rw [upd_ne hb] at h2
    exact ⟨h1, h2, h3⟩
  · rw [backD_length]
    have := c.len
    rw [wipe_length] at this
    exact this
  · by_cases hi : i ∈ vs
    · have es := backD_in hi sl e1
      have hpl := List.all_eq_true.mp hp i hi
      unfold plainAt at hpl
      cases e0 : st0[i]? with
      | none => rw [e0] at es; subst es; trivial
      | some s0' =>
        rw [e0] at es hpl
        simp only [Option.getD_some] at es
        subst es
        cases sl with
        | no => trivial
        | sh d =>
          obtain ⟨O0, c0⟩ := s0
          obtain ⟨v, ev, r⟩ := c0.sl i _ ov e0 e2
          exact ⟨v, ev, r.mono le⟩
        | ow ds => cases hpl
        | rf k ds => cases hpl
        | oi k c ns ds => cases hpl
    · rw [backD_out hi] at e1
      have q := c.sl i sl ov e1 (by rw [wipe_out hi]; exact e2)
      cases sl with
      | no => trivial
      | sh d => exact q
      | ow ds =>
        obtain ⟨b, ws, e, o, n, h1, r⟩ := q
        exact ⟨b, ws, e, o, fun z => n (.inl z), h1, r⟩
      | rf k ds => exact q
      | oi k c' ns ds => exact q
theorem compGo_length {vs : List Nat} {t : Tg} {test : Den Bool} {elt : Den D} (K : ∀ d st st', setT t d st = some st' → st'.length = st.length) : True := trivial

theorem comp_imp {vs : List Nat} {t : Tg} {fi : Den (List D)} {test : Den Bool} {elt : Den D} {Q : VK} (hv : ∀ i ∈ t.is, i ∈ vs) (q : tN g W (dComp vs t fi test elt) σ H Q) :
    tLc (tI g W fi) (tG g t) (tT g WN test) (tE g WN elt) vs σ H Q := by
  obtain ⟨P, F, st, s, o⟩ := q
  refine ⟨P, F, st, s, o.bind.imp fun ds st1 H1 F1 le1 s1 o1 J wk D hD => ?_⟩
  split at o1
  · rename_i hc
    obtain ⟨hbig, hpl⟩ := hc
    -- the rest of the walk, from the i-th turn on
    refine ⟨fun i m H => m = ds.length - i ∧ i ≤ ds.length ∧ ∃ F' st' accV acc, Same F1 F' ∧ SR g (gd P D accV) (L2.wipe σ vs) H F' st' ∧ Rl g F' accV acc ∧ acc.length ≤ i ∧ st'.length = st1.length ∧
      ∃ ys stE, compGo vs t test elt (ds.drop i) st' = .ok ys stE ∧ compGo vs t test elt ds (wipeD st1 vs) = .ok (acc ++ ys) stE, ?_, ?_⟩
    · split at o1
      · rename_i ys stE hgo
        exact ⟨ds.length, by simp, Nat.zero_le _, F1, wipeD st1 vs, [], [], Same.refl _, ((s1.wipe vs).guard (o := .lst []) hD), .nil, Nat.zero_le _, wipeD_length _ _, ys, stE, by simpa using hgo, by simpa using hgo⟩
      · exact o1.elim
    · rintro i m H2 ⟨rfl, hi, F', st', accV, acc, le, s', racc, hacc, hlen, ys, stE, hgo, hall⟩
      by_cases hlt : i < ds.length
      · obtain ⟨d0, hd0⟩ : ∃ d, ds[i]? = some d := ⟨ds[i], List.getElem?_eq_getElem hlt⟩
        have hdr : ds.drop i = d0 :: ds.drop (i + 1) := by
          rw [List.drop_eq_getElem_cons hlt]
          have := List.getElem?_eq_getElem hlt
          rw [hd0] at this; rw [← Option.some.inj this]
        rw [hdr] at hgo
        refine .inr ⟨wk.go i H2 (le.trans s'.le) hlt, fun H => ∃ F' st' accV acc, Same F1 F' ∧ SR g (gd P D accV) (L2.wipe σ vs) H F' st' ∧ Rl g F' accV acc ∧ acc.length ≤ i + 1 ∧ st'.length = st1.length ∧
          ∃ ys stE, compGo vs t test elt (ds.drop (i + 1)) st' = .ok ys stE ∧ compGo vs t test elt ds (wipeD st1 vs) = .ok (acc ++ ys) stE, fun H' nx => ⟨ds.length - (i + 1), by omega, rfl, hlt, nx⟩, fun x H' y => ?_⟩
        obtain ⟨rfl, d, hd, rd⟩ := wk.yld i H2 x H' (le.trans s'.le) hlt y
        rw [hd0] at hd; cases hd
        unfold compGo at hgo
        cases hset : setT t d0 st' with
        | none => rw [hset] at hgo; cases hgo
        | some st2 =>
          rw [hset] at hgo
          refine ⟨gd P D accV, F', st', d0, s', rd.mono le, st2, hset, fun xs s2 => ⟨?_, ?_⟩⟩
          · rw [wipe_setσ hv, wipe_wipe]
          · refine ⟨gd P D accV, F', st2, s2, ?_⟩
            simp only at hgo
            have lenW : ∀ {σ' : L2.St} {H' F' : Hp} {st3 : DSt}, SR g (gd P D accV) (setσ t.is xs (L2.wipe σ vs)) H' F' st3 → (wipeD st3 vs).length = st1.length := fun {σ' H' F' st3} s3 => by
              rw [wipeD_length]
              have a1 := s3.len
              have a2 := s2.len
              have a3 := s'.len
              have a4 : st2.length = st'.length := by
                have : ∀ is ds (st st' : DSt), setAll is ds st = some st' → st'.length = st.length := by
                  intro is
                  induction is with
                  | nil => intro ds st st' e; cases ds with | nil => cases e; rfl | cons d ds => cases e
                  | cons i is ih =>
                    intro ds st st' e
                    cases ds with
                    | nil => cases e
                    | cons d ds =>
                      unfold setAll at e
                      split at e
                      · rename_i sti hsi
                        obtain ⟨_, rfl⟩ := slotSet_some hsi
                        rw [ih _ _ _ e, List.length_set]
                      · cases e
                unfold setT at hset
                cases t with
                | nm i => obtain ⟨_, rfl⟩ := slotSet_some hset; rw [List.length_set]
                | nms is =>
                  cases d0 with
                  | tup ds => exact this _ _ _ _ hset
                  | _ => cases hset
              omega
            have wp : ∀ {H' F' : Hp} {st3 : DSt}, SR g (gd P D accV) (setσ t.is xs (L2.wipe σ vs)) H' F' st3 → SR g (gd P D accV) (L2.wipe σ vs) H' F' (wipeD st3 vs) := fun {H' F' st3} s3 => by
              have := s3.wipe vs
              rw [wipe_setσ hv, wipe_wipe] at this
              exact this
            revert hgo
            cases test st2 with
            | ok b st3 =>
              intro hgo H3 F3 le3 s3
              cases b with
              | true =>
                rw [if_pos rfl]
                refine ⟨gd P D accV, F3, st3, s3, ?_⟩
                simp only at hgo
                revert hgo
                cases elt st3 with
                | ok y st4 =>
                  intro hgo H4 F4 le4 s4 v rv
                  simp only at hgo
                  have hD4 := s4.guard_at
                  have hb : big = sizeLine := big_eq
                  refine ⟨accV, hD4, by rw [racc.length, ← hb]; omega, F4, wipeD st4 vs, accV ++ [v], acc ++ [y], (le.trans le3).trans le4, (wp s4).reguard, (racc.mono (le3.trans le4)).append (.cons rv .nil), by simp; omega, lenW (σ' := σ) s4, ?_⟩
                  revert hgo
                  cases hr : compGo vs t test elt (ds.drop (i + 1)) (wipeD st4 vs) with
                  | ok ys' st5 =>
                    intro hgo
                    simp only at hgo
                    cases hgo
                    exact ⟨ys', _, rfl, by rw [List.append_assoc]; exact hall⟩
                  | exn c fs st5 => intro hgo; cases hgo
                  | stuck => intro hgo; cases hgo
                | exn c fs st4 => intro hgo; cases hgo
                | stuck => intro hgo; cases hgo
              | false =>
                rw [if_neg Bool.false_ne_true]
                exact ⟨F3, wipeD st3 vs, accV, acc, le.trans le3, wp s3, racc.mono le3, by omega, lenW (σ' := σ) s3, ys, stE, hgo, hall⟩
            | exn c fs st3 => intro hgo; cases hgo
            | stuck => intro hgo; cases hgo
      · have e : i = ds.length := by omega
        subst e
        rw [List.drop_length] at hgo
        cases hgo
        refine .inl ⟨wk.stop H2 (le.trans s'.le), ?_⟩
        rw [hall] at o1
        rw [List.append_nil] at o1
        exact o1 H2 F' D accV le (s'.unguard s1 hD le hlen hpl) s'.guard_at racc
  · exact o1.elim
theorem ev_comp {vs : List Nat} {t : Tg} {fi : Den (List D)} {test : Den Bool} {elt : Den D} (he : PE X e (tLc (tI g W fi) (tG g t) (tT g WN test) (tE g WN elt) vs)) (hv : ∀ i ∈ t.is, i ∈ vs := by decide) : PE X e (tN g W (dComp vs t fi test elt)) := he.imp fun _ _ _ q => comp_imp hv q
end
end DL

namespace DL
open PySem PySem.Spec PyProof.Rows L2

/-! ### isinstance -/
def tyName : D → Option String
  | .non => some "NoneType"
  | .bl _ => some "bool"
  | .int _ => some "int"
  | .str _ => some "str"
  | .lst _ => some "list"
  | .tup _ => some "tuple"
  | _ => none
/-- the built-in type T of a value; a truth value is an int -/
@[simp] def isTy (T : String) : D → Option Bool
  | .non => some (T == "NoneType")
  | .bl _ => some (T == "bool" || T == "int")
  | .int _ => some (T == "int")
  | .str _ => some (T == "str")
  | .lst _ => some (T == "list")
  | .tup _ => some (T == "tuple")
  | _ => none
def okTy (T : String) : Bool := T == "int" || T == "bool" || T == "str" || T == "list" || T == "tuple"
theorem kit_tys {T : String} (h : okTy T = true) {d : D} {b : Bool} (e : isTy T d = some b) : ∃ tn, tyName d = some tn ∧ ∀ K, PySem.W.kitOne K (.type tn) (.type T) = some b := by
  have hT : T = "int" ∨ T = "bool" ∨ T = "str" ∨ T = "list" ∨ T = "tuple" := by
    simpa [okTy, or_assoc] using h
  have key : ∀ tn b, kitB tn T = some b → ∀ K, PySem.W.kitOne K (.type tn) (.type T) = some b := fun tn b h K => kit_ty h
  rcases hT with rfl | rfl | rfl | rfl | rfl <;> cases d <;> cases e <;> first
    | exact ⟨_, rfl, key _ _ (by decide +kernel)⟩
theorem tyX_of {g : G} {H F : Hp} {v : V} {d : D} {tn : String} (l : Same F H) (r : Br g F H v d) (e : tyName d = some tn) : TyX g.K H v (.type tn) := by
  cases d with
  | non => cases e; cases r.non; exact .base .non
  | bl b => cases e; cases r.bl; exact .base (.bl b)
  | int b => cases e; cases r.int; exact .base (.int b)
  | str b => cases e; cases r.str; exact .base (.str b)
  | lst xs => cases e; obtain ⟨a, vs, rfl, h, _⟩ := r.lst l; exact .base (.lst h)
  | tup xs =>
    cases e
    obtain ⟨a, vs, rfl, h, _⟩ := r.tup l
    rcases h with (h | ⟨o, h⟩) | ⟨o, its, n, h1, h2, _⟩
    · exact .base (.tup h)
    · exact .fTuple h
    · exact .kTuple h1 h2
  | ins c ns ds => cases e
  | scr ns => cases e
@[simp] def opIsi (T : String) (d : D) : Option D := match isTy T d with | some b => some (.bl b) | none => none
theorem vo_isi {g : G} {T : String} (h : okTy T = true) : VO1 g (fun v => rIsi g.K [v, .ty T]) (opIsi T) := by
  intro H F v d z l rd hz Q q
  unfold opIsi at hz
  split at hz
  · rename_i b hb
    cases hz
    obtain ⟨tn, e1, e2⟩ := kit_tys h hb
    exact ⟨v, .ty T, .type tn, .type T, b, rfl, .ty T, tyX_of l rd e1, e2 _, q _ _ _ (Grow.refl l) (.bl _)⟩
  · cases hz
@[simp] def opIsi2 (T U : String) (d : D) : Option D := match isTy T d, isTy U d with | some b, some c => some (.bl (b || c)) | _, _ => none
theorem vo_isi2 {g : G} {T U : String} (h : okTy T = true) (h' : okTy U = true) : ∀ (H F : Hp) (v : V) (d z : D), Same F H → Br g F H v d → opIsi2 T U d = some z → ∀ Q : VK, (∀ H' F', Grow H F H' F' → ∀ v', Rv g F' v' z → Q v' H') → ∀ p, H p = none → rIsiT g.K [v, .ref p] (upd H p (.tup [.ty T, .ty U])) Q := by
  intro H F v d z l rd hz Q q p hp
  unfold opIsi2 at hz
  split at hz
  · rename_i b c hb hc
    cases hz
    obtain ⟨tn, e1, e2⟩ := kit_tys h hb
    obtain ⟨tn', e1', e2'⟩ := kit_tys h' hc
    rw [e1] at e1'; cases e1'
    have gr := Grow.new0 (o := .tup [.ty T, .ty U]) l hp
    have rd' : Br g F (upd H p (.tup [.ty T, .ty U])) v d := by
      rcases rd with rd | ⟨a, vs, ds, e1, e2, h1, r⟩
      · exact .inl rd
      · exact .inr ⟨a, vs, ds, e1, e2, gr.h _ _ h1, r⟩
    refine ⟨v, p, [.ty T, .ty U], .type tn, [.type T, .type U], b || c, rfl, upd_same, .cons (.ty T) (.cons (.ty U) .nil), tyX_of gr.i rd' e1, ?_, q _ _ gr _ (.bl _)⟩
    refine kitAny_cons (e2 _) (fun hb => kitAny_cons (e2' _) (fun hc => by rw [hb, hc]; exact kitAny_nil) fun hc => by rw [hc]; simp) fun hb => by rw [hb]; rfl
  · cases hz
/-- an own class c at C: what isinstance asks -/
structure IsF (g : G) (c : Str) (C : Addr) : Prop where
  gC : g.mg c = some (.ref C)
  cl : Cls g.K C
  ha : PySem.W.findIn g.K (.ref C) "__class__" = some (some (.builtin "object.__class__"))
  hn : PySem.W.specialIn g.K (.builtin "object.__class__") "__get__" = some (some (.builtin "getset_descriptor.__get__"))
  htk : PySem.W.takesIn g.K (.builtin "object.__class__") = some true
  hm : PySem.W.mroIn g.K C (.type "object") = some true
  tys : ∀ tn ∈ ["NoneType", "bool", "int", "str", "list", "tuple"], PySem.W.kitOne g.K (.type tn) (.ref C) = some false
@[simp] def opIsC (c : Str) : D → Option D
  | .ins c' _ _ => if c' = c then some (.bl true) else none
  | d => match tyName d with | some _ => some (.bl false) | none => none
theorem vo_isC {g : G} {c : Str} {C : Addr} (f : IsF g c C) : VO1 g (fun v => rIsi g.K [v, .ref C]) (opIsC c) := by
  intro H F v d z l rd hz Q q
  have other : ∀ tn, tyName d = some tn → tn ∈ ["NoneType", "bool", "int", "str", "list", "tuple"] → z = .bl false → rIsi g.K [v, .ref C] H Q := fun tn e hm hz => by
    subst hz
    exact ⟨v, .ref C, .type tn, .ref C, false, rfl, .own C, tyX_of l rd e, f.tys tn hm, q _ _ _ (Grow.refl l) (.bl _)⟩
  cases d with
  | ins c' ns ds =>
    simp only [opIsC] at hz
    split at hz
    · rename_i hc
      cases hz
      subst hc
      rcases rd with rd | ⟨_, _, _, _, e, _⟩
      · cases rd with
        | ins h1 h2 h3 h4 =>
          rw [f.gC] at h2
          cases h2
          refine ⟨_, .ref _, .ref C, .ref C, true, rfl, .own C, .base (.ins (l _ _ h1) f.cl f.ha f.hn f.htk f.hm), ?_, q _ _ _ (Grow.refl l) (.bl _)⟩
          unfold PySem.W.kitOne
          rw [if_pos (by simp)]
      · cases e
    · cases hz
  | scr ns => cases hz
  | _ => exact other _ rfl (by simp) (by cases hz; rfl)

/-! ### fields -/
@[simp] def getN : List Str → List D → Str → Option D
  | n :: ns, d :: ds, f => if f == n then some d else getN ns ds f
  | _, _, _ => none
theorem getN_rl {g : G} {F : Hp} {f : Str} {z : D} : ∀ {ns : List Str} {vs : List V} {ds : List D}, Rl g F vs ds → getN ns ds f = some z → ∃ v, (ns.zip vs).lookup f = some v ∧ Rv g F v z
  | [], _, _, _, e => by cases e
  | n :: ns, _, _, .nil, e => by cases e
  | n :: ns, v :: vs, d :: ds, .cons r t, e => by
    unfold getN at e
    rw [List.zip_cons_cons, List.lookup_cons]
    cases hf : f == n with
    | true => rw [hf] at e; cases e; exact ⟨v, rfl, r⟩
    | false => rw [hf] at e; exact getN_rl t e
@[simp] def opFld (c f : Str) : D → Option D
  | .ins c' ns ds => if c' = c then getN ns ds f else none
  | _ => none
structure ClsF (g : G) (c : Str) (C : Addr) : Prop where
  gC : g.mg c = some (.ref C)
  cl : Cls g.K C
theorem vo_fld {g : G} {c f : Str} {C : Addr} (k : ClsF g c C) (na : NoAttr g.K C f) {H F : Hp} {v : V} {d z : D} (l : Same F H) (rd : Rv g F v d) (hz : opFld c f d = some z) :
    ∃ a dx fs v', v = .ref a ∧ H a = some (.ins C dx fs) ∧ fs.lookup f = some v' ∧ Rv g F v' z := by
  cases d with
  | ins c' ns ds =>
    simp only [opFld] at hz
    split at hz
    · rename_i hc
      subst hc
      cases rd with
      | ins h1 h2 h3 h4 =>
        rw [k.gC] at h2
        cases h2
        obtain ⟨v', e1, e2⟩ := getN_rl h4 hz
        exact ⟨_, _, _, v', rfl, l _ _ h1, e1, e2⟩
    · cases hz
  | _ => cases hz
section
variable {X : Cx} {g : G} {W : WX} {P : Par} {σ : L2.St} {H F : Hp} {st : DSt} {e : Expr} {s : Stmt} {ss : List Stmt} {f h : Den D}
theorem ev_fld {c n : Str} {C : Addr} (k : ClsF g c C) (na : NoAttr g.K C n) (he : PE X e (tFld g.K (tE g W f) n)) : PE X e (tE g W (dOp1 (opFld c n) f)) := he.imp fun σ H Q ⟨P, F, st, s, o⟩ =>
  ⟨P, F, st, s, o.bind.imp fun x st1 H1 F1 le1 s1 o1 v rx => by
    obtain ⟨z, ez, q⟩ := o1.lift
    obtain ⟨a, dx, fs, v', rfl, h1, h2, h3⟩ := vo_fld k na s1.le rx ez
    exact ⟨a, C, dx, fs, v', rfl, h1, k.cl, na, h2, q H1 F1 (Same.refl _) s1 v' h3⟩⟩
/-- isinstance(x, T), isinstance(x, (T, U)), isinstance(x, C) -/
theorem ev_isi {T : String} (h : okTy T = true) (he : PE X e (tCB (rIsi g.K) (tCons (tE g W f) (tCons (tC (.ty T)) tNil)))) : PE X e (tE g W (dOp1 (opIsi T) f)) := he.imp fun σ H Q ⟨P, F, st, s, o⟩ =>
  ⟨P, F, st, s, o.bind.imp fun x st1 H1 F1 le1 s1 o1 v rx => fin1 (vo_isi h) s1 (.inl rx) o1⟩
theorem ev_isC {c : Str} {C : Addr} (k : IsF g c C) (he : PE X e (tCB (rIsi g.K) (tCons (tE g W f) (tCons (tC (.ref C)) tNil)))) : PE X e (tE g W (dOp1 (opIsC c) f)) := he.imp fun σ H Q ⟨P, F, st, s, o⟩ =>
  ⟨P, F, st, s, o.bind.imp fun x st1 H1 F1 le1 s1 o1 v rx => fin1 (vo_isC k) s1 (.inl rx) o1⟩
theorem ev_isi2 {T U : String} (h : okTy T = true) (h' : okTy U = true) (he : PE X e (tCB (rIsiT g.K) (tCons (tE g W f) (tCons (tTup (tCons (tC (.ty T)) (tCons (tC (.ty U)) tNil))) tNil)))) : PE X e (tE g W (dOp1 (opIsi2 T U) f)) := he.imp fun σ H Q ⟨P, F, st, s, o⟩ =>
  ⟨P, F, st, s, o.bind.imp fun x st1 H1 F1 le1 s1 o1 v rx => by
    obtain ⟨z, ez, q⟩ := o1.lift
    exact ⟨by show 2 ≤ sizeLine; decide, fun p hp => vo_isi2 h h' H1 F1 v x z s1.le (.inl rx) ez Q (fun H' F' gr v' rv => q H' F' gr.f (s1.grow gr) v' rv) p hp⟩⟩

/-! ### slices -/
def tO (g : G) (W : WX) (fo : Den (Option Int)) : TO := fun σ H Q => ∃ P F st, SR g P σ H F st ∧ Out g W P σ F (fo st) fun o _ H' _ => Q o H'
@[simp] def asI : D → Option Int
  | .int i => some i
  | _ => none
@[simp] def dNoP : Den (Option Int) := retD none
@[simp] def dPart (f : Den D) : Den (Option Int) := bindD f fun d => liftO (match asI d with | some i => some (some i) | none => none)
theorem _root_.L2.PO.imp {X : Cx} {e : Option Expr} {t t' : TO} (h : PO X e t) (i : ∀ σ H Q, t' σ H Q → t σ H Q) : PO X e t' := ⟨fun pins s σ H Q I q => h.run pins s σ H Q I (i σ H Q q)⟩
theorem eo_none : PO X none (tO g W dNoP) := (po_none (X := X)).imp fun σ H Q ⟨P, F, st, s, o⟩ => o H F (Same.refl _) s
theorem eo_some {e : Expr} (he : PE X e (tE g W f)) : PO X (some e) (tO g W (dPart f)) := (po_some he).imp fun σ H Q ⟨P, F, st, s, o⟩ =>
  ⟨P, F, st, s, o.bind.imp fun x st1 H1 F1 le1 s1 o1 v rx => by
    obtain ⟨z, ez, q⟩ := o1.lift
    cases x with
    | int i => cases ez; cases rx; exact ⟨i, rfl, q H1 F1 (Same.refl _) s1⟩
    | _ => cases ez⟩
def cutD {α : Type} (xs : List α) (lo hi : Option Int) : List α := (xs.drop (HT.sIx xs.length 0 lo)).take (HT.sIx xs.length xs.length hi - HT.sIx xs.length 0 lo)
theorem cut_rl {vs : List V} {ds : List D} (lo hi : Option Int) (r : Rl g F vs ds) : Rl g F (cutV vs lo hi) (cutD ds lo hi) := by
  unfold cutV cutD
  rw [r.length]
  exact (r.drop _).take _
@[simp] def opSl (d : D) (lo hi : Option Int) : Option D := match d with
  | .lst xs => some (.lst (cutD xs lo hi))
  | .tup xs => some (.tup (cutD xs lo hi))
  | .scr ns => some (.lst (cutD (ns.map D.int) lo hi))
  | _ => none
def rSlD (K : PySem.W.Frag) : V → Option Int → Option Int → Hp → VK → Prop := fun x lo hi H Q => rSlL K x lo hi H Q ∨ rSlA K x lo hi H Q
theorem sl_D : SlR X (rSlD X.K) := sl_list.or sl_tupA
theorem fin_sl {v : V} {x : D} {lo hi : Option Int} {Q : VK} (s : SR g P σ H F st) (rx : Br g F H v x) (o : Out g W P σ F (liftO (opSl x lo hi) st) fun d _ H' F' => ∀ v, Rv g F' v d → Q v H') : rSlD g.K v lo hi H Q := by
  obtain ⟨z, ez, q⟩ := o.lift
  cases x with
  | lst xs =>
    cases ez
    obtain ⟨a, vs, rfl, h1, r1⟩ := rx.lst s.le
    exact .inl ⟨a, vs, rfl, sqL_of h1, fun p hp => q _ _ (Grow.new s.le hp).f (s.grow (Grow.new s.le hp)) _ (.lst upd_same ((cut_rl lo hi r1).mono (Grow.new s.le hp).f))⟩
  | tup xs =>
    cases ez
    obtain ⟨a, vs, rfl, h1, r1⟩ := rx.tup s.le
    refine .inr ⟨a, vs, rfl, h1, fun hw => ?_, fun _ p hp => q _ _ (Grow.new s.le hp).f (s.grow (Grow.new s.le hp)) _ (.tup (.inl (.inl upd_same)) ((cut_rl lo hi r1).mono (Grow.new s.le hp).f))⟩
    rw [r1.length] at hw
    have e : cutD xs lo hi = xs := by
      unfold cutD
      rw [hw.1, hw.2]
      simp
    rw [e] at q
    rcases rx with rx | ⟨_, _, _, _, z, _⟩
    · exact q H F (Same.refl _) s _ rx
    · cases z
  | scr ns =>
    cases ez
    rcases rx with rx | ⟨_, _, _, _, z, _⟩
    · cases rx with
      | scr h1 =>
        exact .inl ⟨_, _, rfl, sqL_mono s.le h1, fun p hp => q _ _ (Grow.new s.le hp).f (s.grow (Grow.new s.le hp)) _ (.lst upd_same (cut_rl lo hi (Rl.of_ints ns)))⟩
    · cases z
  | _ => cases ez
@[simp] def dSl (a : Den D) (lo hi : Den (Option Int)) : Den D := bindD a fun x => bindD lo fun l => bindD hi fun u => liftO (opSl x l u)
@[simp] def dSln (i : Nat) (lo hi : Den (Option Int)) : Den D := bindD (dRd i) fun _ => bindD lo fun l => bindD hi fun u => bindD (dRd i) fun x => liftO (opSl x l u)
theorem ev_sl {lo hi : Den (Option Int)} (he : PE X e (tSl (rSlD g.K) (tE g W f) (tO g W lo) (tO g W hi))) : PE X e (tE g W (dSl f lo hi)) := he.imp fun σ H Q ⟨P, F, st, s, o⟩ =>
  ⟨P, F, st, s, o.bind.imp fun x st1 H1 F1 le1 s1 o1 v rx => ⟨P, F1, st1, s1, o1.bind.imp fun l st2 H2 F2 le2 s2 o2 => ⟨P, F2, st2, s2, o2.bind.imp fun u st3 H3 F3 le3 s3 o3 => fin_sl s3 (.inl ((rx.mono le2).mono le3)) o3⟩⟩⟩
theorem ev_sln {i : Nat} {lo hi : Den (Option Int)} (he : PE X e (tSl (rSlD g.K) (tVar i) (tO g W lo) (tO g W hi))) : PE X e (tE g W (dSln i lo hi)) := he.imp fun σ H Q ⟨P, F, st, s, o⟩ => by
  obtain ⟨v, d, hv, _, o1⟩ := o.rd s
  refine ⟨v, hv, P, F, st, s, o1.bind.imp fun l st2 H2 F2 le2 s2 o2 => ⟨P, F2, st2, s2, o2.bind.imp fun u st3 H3 F3 le3 s3 o3 => ?_⟩⟩
  obtain ⟨v', d', hv', rx, o4⟩ := o3.rd s3
  rw [hv] at hv'; cases hv'
  exact fin_sl s3 rx o4

/-! ### list(range(..)), tuple(range(..)) -/
theorem rgV_rl (F : Hp) (a b : Int) : Rl g F (rgV a b) ((List.range (b - a).toNat).map fun k => D.int (a + (k : Nat))) := by
  unfold rgV
  generalize List.range (b - a).toNat = l
  induction l with
  | nil => exact .nil
  | cons x l ih => exact .cons (.int _) ih
def tRg (g : G) (W : WX) (f : Den (Int × Int)) : L2.St → Hp → (Int → Int → Hp → Prop) → Prop := fun σ H Q => ∃ P F st, SR g P σ H F st ∧ Out g W P σ F (f st) fun r _ H' _ => Q r.1 r.2 H'
@[simp] def dRg1 (f : Den D) : Den (Int × Int) := bindD f fun d => liftO (match asI d with | some n => if n.natAbs ≤ big then some (0, n) else none | none => none)
@[simp] def dRg2 (f h : Den D) : Den (Int × Int) := bindD f fun d => bindD h fun e => liftO (match asI d, asI e with | some m, some n => if 0 ≤ m ∧ m ≤ big ∧ 0 ≤ n ∧ n ≤ big then some (m, n) else none | _, _ => none)
def rgL (r : Int × Int) : List D := (List.range (r.2 - r.1).toNat).map fun k => D.int (r.1 + (k : Nat))
@[simp] def dLstRg (f : Den (Int × Int)) : Den (List D) := bindD f fun r => if r.2 ≤ big then retD (rgL r) else fun _ => .stuck
@[simp] def dTupRg (f : Den (Int × Int)) : Den D := bindD f fun r => if r.2 ≤ big then retD (.tup (rgL r)) else fun _ => .stuck
theorem rg_ok {r : Int × Int} (h0 : r.1 = 0 ∧ r.2.natAbs ≤ big ∨ 0 ≤ r.1 ∧ r.1 ≤ big ∧ 0 ≤ r.2 ∧ r.2 ≤ big) : RgOk r.1 r.2 := by
  have : big = 16777216 := rfl
  rcases h0 with ⟨h0, h1⟩ | ⟨h0, h1, h2, h3⟩
  · rw [h0]; exact ⟨by omega, by omega, by omega, by omega, by omega⟩
  · exact ⟨by omega, by omega, by omega, by omega, by omega⟩
def PRgImp (X : Cx) (e : Expr) (t t' : L2.St → Hp → (Int → Int → Hp → Prop) → Prop) (h : PRg X e t) (i : ∀ σ H Q, t' σ H Q → t σ H Q) : PRg X e t' := fun pins s σ H Q I q => h pins s σ H Q I (i σ H Q q)
/-- .. with what makes them good -/
def tRgK (g : G) (W : WX) (f : Den (Int × Int)) : L2.St → Hp → (Int → Int → Hp → Prop) → Prop := fun σ H Q => ∃ P F st, SR g P σ H F st ∧ Out g W P σ F (f st) fun r _ H' _ => RgOk r.1 r.2 → Q r.1 r.2 H'
theorem erg1 (he : PRg X e (tRg1 (tE g W f))) : PRg X e (tRgK g W (dRg1 f)) := PRgImp X e _ _ he fun σ H Q ⟨P, F, st, s, o⟩ =>
  ⟨P, F, st, s, o.bind.imp fun x st1 H1 F1 le1 s1 o1 v rx => by
    obtain ⟨z, ez, q⟩ := o1.lift
    cases x with
    | int n =>
      simp only [asI] at ez
      split at ez
      · rename_i hn
        cases ez; cases rx
        exact ⟨n, rfl, q H1 F1 (Same.refl _) s1 (rg_ok (.inl ⟨rfl, hn⟩))⟩
      · cases ez
    | _ => cases ez⟩
theorem erg2 (he : PRg X e (tRg2 (tE g W f) (tE g W h))) : PRg X e (tRgK g W (dRg2 f h)) := PRgImp X e _ _ he fun σ H Q ⟨P, F, st, s, o⟩ =>
  ⟨P, F, st, s, o.bind.imp fun x st1 H1 F1 le1 s1 o1 v rx => ⟨P, F1, st1, s1, o1.bind.imp fun y st2 H2 F2 le2 s2 o2 u ry => by
    obtain ⟨z, ez, q⟩ := o2.lift
    cases x with
    | int m =>
      cases y with
      | int n =>
        simp only [asI] at ez
        split at ez
        · rename_i hn
          cases ez; cases rx; cases ry
          exact ⟨m, n, rfl, rfl, q H2 F2 (Same.refl _) s2 (rg_ok (.inr hn))⟩
        · cases ez
      | _ => cases ez
    | _ => cases ez⟩⟩
theorem evN_rg {fr : Den (Int × Int)} (he : PE X e (tLstRg (tRgK g W fr))) : PE X e (tN g W (dLstRg fr)) := he.imp fun σ H Q ⟨P, F, st, s, o⟩ =>
  ⟨P, F, st, s, o.bind.imp fun r st1 H1 F1 le1 s1 o1 ok => ⟨ok, fun p hp => by
    split at o1
    · exact o1 _ F1 p _ (Same.refl _) (s1.newx hp) upd_same (rgV_rl F1 r.1 r.2)
    · exact o1.elim⟩⟩
theorem ev_tupRg {fr : Den (Int × Int)} (he : PE X e (tTupRg (tRgK g W fr))) : PE X e (tE g W (dTupRg fr)) := he.imp fun σ H Q ⟨P, F, st, s, o⟩ =>
  ⟨P, F, st, s, o.bind.imp fun r st1 H1 F1 le1 s1 o1 ok => ⟨ok, fun p hp => by
    split at o1
    · exact o1 _ _ (Grow.new s1.le hp).f (s1.grow (Grow.new s1.le hp)) _ (.tup (.inl (.inl upd_same)) (rgV_rl _ r.1 r.2))
    · exact o1.elim⟩⟩

/-! ### methods of data -/
@[simp] def dMeth (c : Str) (m : Str) (df : List D → M D) (a : Den D) (fa : Den (List D)) : Den D := bindD a fun x => match x with
  | .ins c' ns ds => if c' = c ∧ (getN ns ds m).isNone ∧ ns.length = ds.length then bindD fa fun ys => fun st => match df (x :: ys) with | .ok d => .ok d st | _ => .stuck else fun _ => .stuck
  | _ => fun _ => .stuck
theorem getN_none {ns : List Str} {f : Str} : ∀ {vs : List V} {ds : List D}, Rl g F vs ds → ns.length = ds.length → getN ns ds f = none → (ns.zip vs).lookup f = none := by
  induction ns with
  | nil => intro vs ds _ _ _; rfl
  | cons n ns ih =>
    intro vs ds r hl e
    cases r with
    | nil => cases hl
    | cons r t =>
      unfold getN at e
      rw [List.zip_cons_cons, List.lookup_cons]
      cases hf : f == n with
      | true => rw [hf] at e; cases e
      | false => rw [hf] at e; exact ih t (by simpa using hl) e
theorem ev_meth {c m : Str} {C : Addr} {df : List D → M D} {fa : Den (List D)} (k : ClsF g c C) (he : PE X e (tMeth C m (spD g df) [] E0 (tE g W f) (tA g W fa))) : PE X e (tE g W (dMeth c m df f fa)) := he.imp fun σ H Q ⟨P, F, st, s, o⟩ =>
  ⟨P, F, st, s, o.bind.imp fun x st1 H1 F1 le1 s1 o1 v rx => by
    cases x with
    | ins c' ns ds =>
      simp only at o1
      split at o1
      · rename_i hc
        obtain ⟨rfl, hno, hlen⟩ := hc
        cases rx with
        | ins h1 h2 h3 h4 =>
          rw [k.gC] at h2
          cases h2
          refine ⟨_, _, _, rfl, s1.le _ _ h1, getN_none h4 hlen (by simpa using hno), P, F1, st1, s1, o1.bind.imp fun ys st2 H2 F2 le2 s2 o2 us rus => ?_⟩
          refine ⟨F2, _, s2.le, .cons (.ins (le2 _ _ h1) k.gC h3 (h4.mono le2)) (by rw [List.append_nil]; exact rus), ?_⟩
          revert o2
          cases df (.ins c' ns ds :: ys) with
          | ok d => exact fun o2 v H' F' gr rv => o2 H' F' gr.f (s2.grow gr) v rv
          | exn c fs => exact fun o2 => o2.elim
          | stuck => exact fun o2 => o2.elim
      · exact o1.elim
    | _ => exact o1.elim⟩
end

/-! ### a def -/
section
variable {P : Program} {w : World} {K : PySem.W.Frag} {mg : Str → Option Value} {base : Heap} {x qual : Str} {params : Arguments} {body : List Stmt} {scope : Scope} {f : Addr} {fd : FuncData} {N ps : List Str} {k : Nat}
theorem fn_data {b : DS} (F : FunD K x qual params body scope [] [] f fd) (S : FnScope N ps scope) (hp : ps.length ≤ N.length)
    (hbody : ∀ (cdv : Value) (A : Around) (outer : List Env) (s : Shared) (H : Hp) (E : XK), Room k (A.deeper (envOfC qual scope s.heap.objs.size f cdv)) →
      Takes (cxOf (L2.CX P w) P w K mg base N qual scope f cdv A outer s H E) (fun cls dd _ H => E cls dd H) →
      PassesOwn (model P w) (cxOf (L2.CX P w) P w K mg base N qual scope f cdv A outer s H E).A (cxOf (L2.CX P w) P w K mg base N qual scope f cdv A outer s H E).env (cxOf (L2.CX P w) P w K mg base N qual scope f cdv A outer s H E).xe →
      PSs (cxOf (L2.CX P w) P w K mg base N qual scope f cdv A outer s H E) body (tS ⟨K, mg⟩ (fun cls dd _ H => E cls dd H) b)) :
    FnOk P w K mg base (L2.CX P w) (k + 1) f fd ps (spD ⟨K, mg⟩ (runF ps.length N.length b)) :=
  F.ok S (fun vs H Q E h => spD_len h) fun cdv A outer s H vs Q E hr h => ⟨_, hbody cdv A outer s H E hr (takes_of rfl rfl rfl rfl) (passes_of rfl), body_ok rfl hp (spD_len h) h⟩
theorem fn_dataR {y : Str} {b : DS} (F : FunD K x qual params body scope [] [] f fd) (S : FnScope (y :: N) ps scope) (hp : ps.length ≤ (y :: N).length)
    (hbody : ∀ (cdv : Value) (A : Around) (outer : List Env) (s : Shared) (H : Hp) (E : XK), Room k (A.deeper (envOfC qual scope s.heap.objs.size f cdv)) →
      Takes (cxOf (L2.CX P w) P w K mg base (y :: N) qual scope f cdv A outer s H E) (fun cls dd _ H => E cls dd H) →
      PassesOwn (model P w) (cxOf (L2.CX P w) P w K mg base (y :: N) qual scope f cdv A outer s H E).A (cxOf (L2.CX P w) P w K mg base (y :: N) qual scope f cdv A outer s H E).env (cxOf (L2.CX P w) P w K mg base (y :: N) qual scope f cdv A outer s H E).xe →
      PSs (cxOf (L2.CX P w) P w K mg base (y :: N) qual scope f cdv A outer s H E) body (tS ⟨K, mg⟩ (fun cls dd _ H => E cls dd H) b)) :
    FnOk P w K mg base (L2.CX P w) (k + 1) f fd ps (spR ⟨K, mg⟩ (runR ps.length (y :: N).length b)) :=
  F.ok S (fun vs H Q E h => spR_len h) fun cdv A outer s H vs Q E hr h => ⟨_, hbody cdv A outer s H E hr (takes_of rfl rfl rfl rfl) (passes_of rfl), body_okR rfl hp (spR_len h) h⟩
end
end DL

namespace DL
open PySem PySem.Spec PyProof.Rows L2

/-! ### instances: __init__ and the call of the class -/
@[simp] def sSelf (i : Nat) (cn n : Str) (f : Den D) : DS := bindD f fun v => fun st => match st[i]? with
  | some (.oi k c ns ds) => if c ≠ cn ∨ n ∈ ns ∨ ns.length ≠ ds.length ∨ 100 ≤ ns.length then .stuck else .ok .nx (st.set i (.oi k c (ns ++ [n]) (ds ++ [v])))
  | _ => .stuck
theorem putF_new {f : Str} {v : V} : ∀ {ns : List Str} {vs : List V}, f ∉ ns → ns.length = vs.length → putF f v (ns.zip vs) = (ns ++ [f]).zip (vs ++ [v])
  | [], [], _, _ => rfl
  | n :: ns, [], _, e => by cases e
  | [], v :: vs, _, e => by cases e
  | n :: ns, u :: vs, h, e => by
    have hn : n ≠ f := fun z => h (by rw [z]; exact List.mem_cons_self)
    show putF f v ((n, u) :: ns.zip vs) = (n, u) :: ((ns ++ [f]).zip (vs ++ [v]))
    unfold putF
    rw [if_neg hn, putF_new (fun z => h (List.mem_cons_of_mem _ z)) (by simpa using e)]
def spI (g : G) (c : Str) (df : List D → M (List Str × List D)) : Sp := fun vs H Q E => ∃ F a C dx us ds, vs = .ref a :: us ∧ Same F H ∧ F a = none ∧ g.mg c = some (.ref C) ∧ H a = some (.ins C dx []) ∧ Rl g F us ds ∧ match df ds with
  | .ok r => ∀ H' F' ws' dx', Same F F' → Same F' H' → (∀ b, H b ≠ none → F b = none → F' b = none) → (∀ b o, b ≠ a → H b = some o → H' b = some o) → H' a = some (.ins C dx' (r.1.zip ws')) → F' a = none → r.1.length = ws'.length → Rl g F' ws' r.2 → Q .non H'
  | .exn c fs => ∀ cls dd H' F', Same F F' → Same F' H' → (∀ b, H b ≠ none → F b = none → F' b = none) → (∀ b o, b ≠ a → H b = some o → H' b = some o) → RepX g F' H' c fs cls dd → E cls dd H'
  | .stuck => False
def runI (c : Str) (m n : Nat) (f : DS) (ds : List D) : M (List Str × List D) := if ds.length + 1 = m then match f (.oi 0 c [] [] :: (ds.map Slot.sh ++ List.replicate (n - ds.length - 1) .no)) with
  | .ok .nx (.oi 0 c' ns xs :: _) => if c' = c then .ok (ns, xs) else .stuck
  | .exn c fs _ => .exn c fs
  | _ => .stuck
  else .stuck
@[simp] def makeM (c : Str) (df : List D → M (List Str × List D)) (ds : List D) : M D := match df ds with
  | .ok r => .ok (.ins c r.1 r.2)
  | .exn c fs => .exn c fs
  | .stuck => .stuck
section
variable {X : Cx} {g : G} {W : WX} {P : Par} {σ : L2.St} {H F : Hp} {st : DSt} {e : Expr} {s : Stmt} {ss : List Stmt} {f h : Den D}
theorem spI_len {c : Str} {m n : Nat} {f : DS} {vs : List V} {Q : VK} {E : XK} (h : spI g c (runI c m n f) vs H Q E) : vs.length = m := by
  obtain ⟨F, a, C, dx, us, ds, rfl, le, fa, hc, ha, r, h⟩ := h
  rw [List.length_cons, r.length]
  by_cases hm : ds.length + 1 = m
  · exact hm
  · unfold runI at h
    rw [if_neg hm] at h
    exact h.elim
theorem es_self {i : Nat} {n c : Str} {C : Addr} (k : ClsF g c C) (na : NoAttr g.K C n) (he : PS X s (sFld g.K (tVar i) (tE g W f) n)) : PS X s (tS g W (sSelf i c n f)) := he.imp fun D σ H ⟨P, F, st, s, o⟩ => by
  refine ⟨P, F, st, s, OutS.bind o |>.imp fun v st1 H1 F1 le1 s1 o1 vv rv => ?_⟩
  split at o1
  · rename_i k1 c1 ns ds h1
    split at o1
    · exact o1.elim
    · rename_i hns
      have hcc : c1 = c := by
        rcases Classical.em (c1 = c) with z | z
        · exact z
        · exact absurd (.inl z) hns
      have hn1 : n ∉ ns := fun z => hns (.inr (.inl z))
      have hn2 : ns.length = ds.length := by
        rcases Nat.decEq ns.length ds.length with z | z
        · exact absurd (.inr (.inr (.inl z))) hns
        · exact z
      have hn3 : ns.length < 100 := by
        rcases Nat.lt_or_ge ns.length 100 with z | z
        · exact z
        · exact absurd (.inr (.inr (.inr z))) hns
      obtain ⟨ov, hov⟩ := SRc.nth s1 h1
      obtain ⟨O, c0⟩ := id s1
      obtain ⟨a, C1, dx, vs, rfl, hb, ho, hm, hl, ha, r⟩ := c0.sl i _ _ h1 hov
      subst hcc
      rw [k.gC] at hm
      cases hm
      refine ⟨_, hov, a, C, dx, ns.zip vs, rfl, ha, k.cl, na, ?_, ?_⟩
      · rw [List.length_zip]; omega
      · rw [putF_new hn1 hl]
        have gr : ∀ b o, b ≠ a → H1 b = some o → upd H1 a (.ins C dx ((ns ++ [n]).zip (vs ++ [vv]))) b = some o := fun b o hb e => by rw [upd_ne hb]; exact e
        refine o1 σ _ F1 (Same.refl _) ⟨O, fun b o e => ?_, fun b o e => ?_, fun b j e => ?_, fun b nb => ?_, by rw [List.length_set]; exact c0.len, fun j sl ov e1 e2 => ?_⟩
        · rw [upd_ne (fun z => by subst z; rw [(c0.oo b i ho).1] at e; cases e)]; exact c0.le b o e
        · rw [upd_ne (fun z => by subst z; rw [(c0.oo b i ho).2.1] at e; cases e)]; exact c0.rr b o e
        · refine ⟨(c0.oo b j e).1, (c0.oo b j e).2.1, ?_⟩
          by_cases hb : b = a
          · subst hb; rw [upd_same]; simp
          · rw [upd_ne hb]; exact (c0.oo b j e).2.2
        · refine ⟨(c0.no b nb).1, ?_⟩
          by_cases hb : b = a
          · subst hb; rw [upd_same]; simp
          · rw [upd_ne hb]; exact (c0.no b nb).2
        · have hi : i < st1.length := by
            rcases Nat.lt_or_ge i st1.length with q | q
            · exact q
            · rw [List.getElem?_eq_none q] at h1; cases h1
          by_cases hj : j = i
          · subst hj
            rw [List.getElem?_set_self hi] at e1
            cases e1
            rw [hov] at e2; cases e2
            exact ⟨a, C, dx, vs ++ [vv], rfl, hb, ho, k.gC, by simp [hl], upd_same, r.append (.cons rv .nil)⟩
          · rw [List.getElem?_set_ne (Ne.symm hj)] at e1
            have q := c0.sl j sl ov e1 e2
            cases sl with
            | no => trivial
            | sh d => exact q
            | ow ds =>
              obtain ⟨b, ws, e, o, n, h1, r⟩ := q
              have hb : b ≠ a := fun z => hj (by rw [z, ho] at o; exact (Option.some.inj o).symm)
              exact ⟨b, ws, e, o, n, gr b _ hb h1, r⟩
            | rf k ds =>
              obtain ⟨b, ws, e, bb, o, h1, r⟩ := q
              have hb : b ≠ a := fun z => hj (by rw [z, ho] at o; exact (Option.some.inj o).symm)
              exact ⟨b, ws, e, bb, o, gr b _ hb h1, r⟩
            | oi k c ns ds =>
              obtain ⟨b, C, dx, ws, e, bb, o, m, l, h1, r⟩ := q
              have hb : b ≠ a := fun z => hj (by rw [z, ho] at o; exact (Option.some.inj o).symm)
              exact ⟨b, C, dx, ws, e, bb, o, m, l, gr b _ hb h1, r⟩
  · exact o1.elim
theorem body_okI {x c : Str} {N ps : List Str} {f : DS} {n : Nat} {vs : List V} {Q : VK} {E : XK} (hn : n = (x :: N).length) (hp : ps.length ≤ (x :: N).length) (hl : vs.length = ps.length) (h : spI g c (runI c ps.length n f) vs H Q E) :
    tS g (fun cls dd _ H => E cls dd H) f { nx := fun _ H' => Q .non H', rt := Q } (L2.start (x :: N) vs) H := by
  obtain ⟨F, a, C, dx, us, ds, rfl, le, fa, hc, ha, r, h⟩ := h
  have hln := r.length
  rw [start_cons]
  refine ⟨⟨[a], fun b => if b = a then none else H b, fun b => H b ≠ none ∧ F b = none⟩, F, .oi 0 c [] [] :: (ds.map Slot.sh ++ List.replicate (n - ds.length - 1) .no), ⟨fun b => if b = a then some 0 else none, le, fun b o e => ?_, fun b i e => ?_, fun a h => ⟨h.2, h.1⟩, ?_, fun i s ov e1 e2 => ?_⟩, ?_⟩
  · by_cases hb : b = a
    · subst hb; simp at e
    · simpa [hb] using e
  · by_cases hb : b = a
    · subst hb; exact ⟨fa, by simp, by rw [ha]; simp⟩
    · simp [hb] at e
  · unfold L2.start
    simp only [List.length_append, List.length_map, List.length_replicate, List.length_cons] at *
    omega
  · cases i with
    | zero =>
      simp at e1 e2
      subst e1; subst e2
      exact ⟨a, C, dx, [], rfl, rfl, by simp, hc, rfl, ha, .nil⟩
    | succ i =>
      have q := init_sl (P := ⟨[a], fun b => if b = a then none else H b, fun b => H b ≠ none ∧ F b = none⟩) (H := H) (O := fun b => if b = a then some 0 else none) (N := N) r (n - ds.length - 1) i s ov (by simpa using e1) (by simpa using e2)
      have hs : s = .no ∨ ∃ d, s = .sh d := by
        have e1 : (ds.map Slot.sh ++ List.replicate (n - ds.length - 1) Slot.no)[i]? = some s := by simpa using e1
        rcases List.mem_append.mp (List.mem_of_getElem? e1) with h | h
        · obtain ⟨d, _, e⟩ := List.mem_map.mp h
          exact .inr ⟨d, e.symm⟩
        · exact .inl (List.mem_replicate.mp h).2
      rcases hs with rfl | ⟨d, rfl⟩
      · trivial
      · exact q
  · unfold runI at h
    rw [if_pos (by simp only [List.length_cons] at hl; omega)] at h
    revert h
    cases f (.oi 0 c [] [] :: (ds.map Slot.sh ++ List.replicate (n - ds.length - 1) .no)) with
    | ok fl st' =>
      cases fl with
      | nx =>
        cases st' with
        | nil => exact fun h => h.elim
        | cons s0 st' =>
          cases s0 with
          | oi k c' ns xs =>
            cases k with
            | zero =>
              intro h σ' H' F' le s
              simp only at h
              split at h
              · rename_i r hr
                split at hr
                · rename_i hcc
                  cases hr
                  subst hcc
                  obtain ⟨ov, hov⟩ := SRc.nth (i := 0) s rfl
                  obtain ⟨O, c0⟩ := s
                  obtain ⟨a', C', dx', ws', e1, e2, e3, e4, e5, e6, e7⟩ := c0.sl 0 _ _ rfl hov
                  have : a' = a := by simpa using e2.symm
                  subst this
                  rw [hc] at e4
                  cases e4
                  exact h H' F' ws' dx' le c0.le (fun b h1 h2 => (c0.no b ⟨h1, h2⟩).1) (fun b o hb e => c0.rr b o (by simp [hb, e])) e6 (c0.oo _ _ e3).1 e5 e7
                · cases hr
              · rename_i hr
                split at hr <;> cases hr
              · exact h.elim
            | succ k => exact fun h => h.elim
          | _ => exact fun h => h.elim
      | ret d => exact fun h => h.elim
      | brk => exact fun h => h.elim
      | cnt => exact fun h => h.elim
    | exn c fs st' =>
      intro h cls dd σ' H' F' le s rx
      obtain ⟨O, c0⟩ := s
      exact h cls dd H' F' le c0.le (fun b h1 h2 => (c0.no b ⟨h1, h2⟩).1) (fun b o hb e => c0.rr b o (by simp [hb, e])) rx
    | stuck => exact fun h => h.elim

theorem run_makeS {k : Nat} {f C : Addr} {fd : FuncData} {ps : List Str} {sp : Sp} {E : L2.St → XK} {pins : List (Addr × Obj)} {σ : L2.St} {H : Hp} {s : Shared} {Q : VK} {us : List Value} {vs : List V} (M : Mk X.K C f) (F : FnOk X.prog X.w X.K X.mg X.base (L2.CX X.prog X.w) k f fd ps sp) (hr : Room (k + 1) X.A) (hb : Binds X.K fd ps [])
    (hx : PassesAt (L2.CX X.prog X.w) X σ (E σ)) (I : Inv X pins σ H s) (r : Vals vs us)
    (h : ∀ x dx, H x = none → H dx = none → dx ≠ x → sp (.ref x :: vs) (upd (upd H dx (.own x)) x (.ins C dx [])) (fun v H2 => v = .non ∧ Q (.ref x) H2) (E σ)) :
    wpAny (model X.prog X.w) X.A (call (.ref C) us) (EP X pins σ Q) X.xe s := by
  have hq := h (s.heap.objs.size + 1) s.heap.objs.size (I.hok.fresh (Nat.le_succ _)) (I.hok.fresh (Nat.le_refl _)) (Nat.ne_of_lt (Nat.lt_succ_self _))
  have I2 := Inv.made (C := C) I
  have r2 : Vals (V.ref (s.heap.objs.size + 1) :: vs) (Value.ref (s.heap.objs.size + 1) :: us) := .cons rfl r
  have hl : (Value.ref (s.heap.objs.size + 1) :: us).length = ps.length := by
    have e := r2.length
    rw [F.len _ _ _ _ hq] at e
    exact e.symm
  have b := hb _ (Value.ref (s.heap.objs.size + 1) :: us) I2.kIn (by rw [List.append_nil]; exact hl)
  rw [List.append_nil] at b
  refine wpAny_call (make_map (f := f) I.kIn M.makes M.init (beq_iff_eq.mp M.fn) (codeAny_mono (F.run _ X.stack _ _ ⟨Value.ref (s.heap.objs.size + 1) :: us, []⟩ (Value.ref (s.heap.objs.size + 1) :: us) _ _ (E σ) (hr.make C us [])
    (I2.env0.make C us []) b r2 hq) fun r s' hq' => ?_))
  cases r with
  | error e => exact hx pins _ _ e s' I2 hq'
  | ok fl =>
    cases fl with
    | ret u =>
      obtain ⟨v, H', I3, rv, ev, q3⟩ := I2.after hq'
      subst ev
      exact ⟨rv, ⟨V.ref (s.heap.objs.size + 1), H', I3, rfl, q3⟩⟩
    | next => exact False.elim hq'
    | brk => exact False.elim hq'
    | cont => exact False.elim hq'
def tMakeS (C : Addr) (sp : Sp) (E : L2.St → XK) (t : TA) : TE := fun σ H Q => t σ H fun vs H1 => ∀ x dx, H1 x = none → H1 dx = none → dx ≠ x →
  sp (.ref x :: vs) (upd (upd H1 dx (.own x)) x (.ins C dx [])) (fun v H2 => v = .non ∧ Q (.ref x) H2) (E σ)
theorem pe_makeS {k : Nat} {f C : Addr} {fd : FuncData} {ps : List Str} {sp : Sp} {E : L2.St → XK} {x : Str} {p pos : Pos} {e : Expr} {es : List Expr} {t : TA} (M : Mk X.K C f) (F : FnOk X.prog X.w X.K X.mg X.base (L2.CX X.prog X.w) k f fd ps sp) (hr : Room (k + 1) X.A) (hg : Gl X x) (hm : X.mg x = some (.ref C)) (hb : Binds X.K fd ps []) (hx : ∀ σ, PassesAt (L2.CX X.prog X.w) X σ (E σ))
    (ha : PA X (e :: es) t) (hdb : (x == ("__debug__" : Str)) = false := by decide) (he : starEach (e :: es) X.env = (false, eval e X.env) :: starEach es X.env := by rfl) (hpl : (backTo pos (starEach es X.env)).any (·.1) = false := by rfl) :
    PE X (.Call (.Name x p) (e :: es) [] pos) (tMakeS C sp E t) := by
  refine ⟨fun pins s σ H Q I h => ?_⟩
  refine wpAny_Call_Name_kw (ld_glob I hg hm ?_ hdb)
  refine PySem.W.callWith_K (h₀ := X.base) I.ok.mod.kin M.kp (thn (ha.run pos pins s σ H _ I h) fun us s1 ⟨vs, H1, I1, r, q⟩ => ⟨I1.kIn, ?_⟩) he hpl
  exact run_makeS M F hr hb (hx σ) I1 r q
theorem ev_make {c : Str} {C : Addr} {df : List D → M (List Str × List D)} {fa : Den (List D)} (k : g.mg c = some (.ref C)) (he : PE X e (tMakeS C (spI g c df) (WE W) (tA g W fa))) : PE X e (tE g W (dCall (makeM c df) fa)) := he.imp fun σ H Q ⟨P, F, st, s, o⟩ =>
  ⟨P, F, st, s, o.bind.imp fun ds st1 H1 F1 le1 s1 o1 vs rs x dx hx hdx hne => by
    have hn1 : ∀ {b : Addr} {o : HO}, H1 b = some o → b ≠ x ∧ b ≠ dx := fun e => ⟨(fun z => by subst z; rw [hx] at e; cases e), (fun z => by subst z; rw [hdx] at e; cases e)⟩
    have up : Same H1 (upd (upd H1 dx (.own x)) x (.ins C dx [])) := fun b o e => by rw [upd_ne (hn1 e).1, upd_ne (hn1 e).2]; exact e
    have f0 : F1 x = none := by
      cases e : F1 x with
      | none => rfl
      | some o => rw [s1.le _ _ e] at hx; cases hx
    have nf : ∀ {b : Addr}, H1 b ≠ none → (upd (upd H1 dx (.own x)) x (.ins C dx [])) b ≠ none := fun h => Same.ne up h
    refine ⟨F1, x, C, dx, vs, ds, rfl, s1.le.trans up, f0, k, upd_same, rs, ?_⟩
    revert o1
    unfold makeM liftM'
    cases df ds with
    | ok r =>
      intro o1 H' F' ws' dx' a1 a2 a3 a4 a5 a6 a7 a8
      refine ⟨rfl, ?_⟩
      have sf : Same F' (upd F' x (.ins C dx' (r.1.zip ws'))) := fun b o e => by rw [upd_ne (fun z => by subst z; rw [a6] at e; cases e)]; exact e
      have gr : Grow H1 F1 H' (upd F' x (.ins C dx' (r.1.zip ws'))) := by
        refine ⟨fun b o e => a4 b o (hn1 e).1 (up b o e), a1.trans sf, fun b o e => ?_, fun b h1 h2 => ?_⟩
        · by_cases hb : b = x
          · subst hb; rw [upd_same] at e; cases e; exact a5
          · rw [upd_ne hb] at e; exact a2 b o e
        · obtain ⟨u, hu⟩ := ne_some h1
          rw [upd_ne (hn1 hu).1]
          exact a3 b (nf h1) h2
      exact o1 H' _ gr.f (s1.grow gr) _ (.ins upd_same k a7 (a8.mono sf))
    | exn c' fs =>
      intro o1 cls dd H' F' a1 a2 a3 a4 rx
      have gr : Grow H1 F1 H' F' := ⟨fun b o e => a4 b o (hn1 e).1 (up b o e), a1, a2, fun b h1 h2 => a3 b (nf h1) h2⟩
      exact o1 cls dd H' F' a1 (s1.grow gr) rx
    | stuck => exact fun o1 => o1.elim⟩

/-! ### targets of assignments -/
@[simp] def sAsg (t : Tg) (f : Den D) : DS := bindD f fun d => fun st => match setT t d st with
  | some st' => .ok .nx st'
  | none => .stuck
theorem es_asg {t : Tg} (he : PS X s (tAsg (tE g W f) (tG g t))) : PS X s (tS g W (sAsg t f)) := he.imp fun D σ H ⟨P, F, st, s, o⟩ =>
  ⟨P, F, st, s, OutS.bind o |>.imp fun d st1 H1 F1 le1 s1 o1 v rv => by
    cases hs : setT t d st1 with
    | none => rw [hs] at o1; exact o1.elim
    | some st2 =>
      rw [hs] at o1
      exact ⟨P, F1, st1, d, s1, rv, st2, hs, fun xs s2 => o1 _ _ F1 (Same.refl _) s2⟩⟩
@[simp] def sPar (i j : Nat) (f h : Den D) : DS := bindD f fun x => bindD h fun y => fun st => match slotSet i (.sh x) st with
  | some st1 => match slotSet j (.sh y) st1 with
    | some st2 => .ok .nx st2
    | none => .stuck
  | none => .stuck
theorem es_par {i j : Nat} (he : PS X s (tPar i j (tCons (tE g W f) (tCons (tE g W h) tNil)))) : PS X s (tS g W (sPar i j f h)) := he.imp fun D σ H ⟨P, F, st, s, o⟩ =>
  ⟨P, F, st, s, OutS.bind o |>.imp fun x st1 H1 F1 le1 s1 o1 v rv => ⟨P, F1, st1, s1, OutS.bind o1 |>.imp fun y st2 H2 F2 le2 s2 o2 u ru => ⟨v, u, rfl, by
    cases hs : slotSet i (.sh x) st2 with
    | none => rw [hs] at o2; exact o2.elim
    | some st3 =>
      rw [hs] at o2
      simp only at o2
      cases hs2 : slotSet j (.sh y) st3 with
      | none => rw [hs2] at o2; exact o2.elim
      | some st4 =>
        rw [hs2] at o2
        obtain ⟨hi, rfl⟩ := slotSet_some hs
        obtain ⟨hj, rfl⟩ := slotSet_some hs2
        exact o2 _ H2 F2 (Same.refl _) ((s2.put (rv.mono le2) hi).put ru hj)⟩⟩⟩
@[simp] def sPar3 (i j l : Nat) (f h k : Den D) : DS := bindD f fun x => bindD h fun y => bindD k fun z => fun st => match slotSet i (.sh x) st with
  | some st1 => match slotSet j (.sh y) st1 with
    | some st2 => match slotSet l (.sh z) st2 with
      | some st3 => .ok .nx st3
      | none => .stuck
    | none => .stuck
  | none => .stuck
theorem es_par3 {i j l : Nat} {k : Den D} (he : PS X s (tPar3 i j l (tCons (tE g W f) (tCons (tE g W h) (tCons (tE g W k) tNil))))) : PS X s (tS g W (sPar3 i j l f h k)) := he.imp fun D σ H ⟨P, F, st, s, o⟩ =>
  ⟨P, F, st, s, OutS.bind o |>.imp fun x st1 H1 F1 le1 s1 o1 v rv => ⟨P, F1, st1, s1, OutS.bind o1 |>.imp fun y st2 H2 F2 le2 s2 o2 u ru => ⟨P, F2, st2, s2, OutS.bind o2 |>.imp fun z st3 H3 F3 le3 s3 o3 w rw' => ⟨v, u, w, rfl, by
    cases hs : slotSet i (.sh x) st3 with
    | none => rw [hs] at o3; exact o3.elim
    | some st4 =>
      rw [hs] at o3
      simp only at o3
      cases hs2 : slotSet j (.sh y) st4 with
      | none => rw [hs2] at o3; exact o3.elim
      | some st5 =>
        rw [hs2] at o3
        simp only at o3
        cases hs3 : slotSet l (.sh z) st5 with
        | none => rw [hs3] at o3; exact o3.elim
        | some st6 =>
          rw [hs3] at o3
          obtain ⟨hi, rfl⟩ := slotSet_some hs
          obtain ⟨hj, rfl⟩ := slotSet_some hs2
          obtain ⟨hl, rfl⟩ := slotSet_some hs3
          exact o3 _ H3 F3 (Same.refl _) (((s3.put ((rv.mono le2).mono le3) hi).put (ru.mono le3) hj).put rw' hl)⟩⟩⟩⟩
end
section
variable {P : Program} {w : World} {K : PySem.W.Frag} {mg : Str → Option Value} {base : Heap} {x qual : Str} {params : Arguments} {body : List Stmt} {scope : Scope} {f : Addr} {fd : FuncData} {N ps : List Str} {k : Nat}
theorem fn_init {y c : Str} {b : DS} (F : FunD K x qual params body scope [] [] f fd) (S : FnScope (y :: N) ps scope) (hp : ps.length ≤ (y :: N).length)
    (hbody : ∀ (cdv : Value) (A : Around) (outer : List Env) (s : Shared) (H : Hp) (E : XK), Room k (A.deeper (envOfC qual scope s.heap.objs.size f cdv)) →
      Takes (cxOf (L2.CX P w) P w K mg base (y :: N) qual scope f cdv A outer s H E) (fun cls dd _ H => E cls dd H) →
      PassesOwn (model P w) (cxOf (L2.CX P w) P w K mg base (y :: N) qual scope f cdv A outer s H E).A (cxOf (L2.CX P w) P w K mg base (y :: N) qual scope f cdv A outer s H E).env (cxOf (L2.CX P w) P w K mg base (y :: N) qual scope f cdv A outer s H E).xe →
      PSs (cxOf (L2.CX P w) P w K mg base (y :: N) qual scope f cdv A outer s H E) body (tS ⟨K, mg⟩ (fun cls dd _ H => E cls dd H) b)) :
    FnOk P w K mg base (L2.CX P w) (k + 1) f fd ps (spI ⟨K, mg⟩ c (runI c ps.length (y :: N).length b)) :=
  F.ok S (fun vs H Q E h => spI_len h) fun cdv A outer s H vs Q E hr h => ⟨_, hbody cdv A outer s H E hr (takes_of rfl rfl rfl rfl) (passes_of rfl), body_okI rfl hp (spI_len h) h⟩
end
end DL

namespace DL
open PySem PySem.Spec PyProof.Rows L2

/-! ### a def that hands back a new list, owned by the caller -/
def tSO (g : G) (W : WX) (a : DS) (fn : Den (List D)) : TS := fun E σ H => ∃ P F st, SR g P σ H F st ∧ match a st with
  | .ok .nx st' => (match fn st' with
    | .ok ds st2 => ∀ σ' H' F' p vs, Same F F' → SRx g P σ' H' F' st2 p → H' p = some (.lst vs) → Rl g F' vs ds → E.rt (.ref p) H'
    | _ => False)
  | _ => False
def runO (m n : Nat) (a : DS) (fn : Den (List D)) (ds : List D) : Option (List D) := if ds.length = m then match a (ds.map Slot.sh ++ List.replicate (n - ds.length) .no) with
  | .ok .nx st' => (match fn st' with
    | .ok zs _ => some zs
    | _ => none)
  | _ => none
  else none
def spO (g : G) (df : List D → Option (List D)) : Sp := fun vs H Q _ => ∃ F ds zs, Same F H ∧ Rl g F vs ds ∧ df ds = some zs ∧ ∀ p vs' H' F', Grow H F H' F' → H p = none → H' p = some (.lst vs') → F' p = none → Rl g F' vs' zs → Q (.ref p) H'
@[simp] def dCallO (df : List D → Option (List D)) (fa : Den (List D)) : Den (List D) := bindD fa fun ds => liftO (df ds)
section
variable {X : Cx} {g : G} {W : WX} {P : Par} {σ : L2.St} {H F : Hp} {st : DSt} {e : Expr} {s : Stmt} {ss : List Stmt} {f h : Den D} {a b : DS} {fn : Den (List D)}
theorem essO_one (he : PS X s (tRet (tN g W fn))) : PSs X [s] (tSO g W sPass fn) := (pss_one he).imp fun E σ H ⟨P, F, st, s, o⟩ => by
  refine ⟨P, F, st, s, ?_⟩
  have o : (match fn st with
    | .ok ds st2 => ∀ σ' H' F' p vs, Same F F' → SRx g P σ' H' F' st2 p → H' p = some (.lst vs) → Rl g F' vs ds → E.rt (.ref p) H'
    | _ => False) := o
  revert o
  unfold OutN
  cases fn st with
  | ok ds st2 => exact fun o H' F' p vs => o σ H' F' p vs
  | exn c fs st2 => exact fun o => o.elim
  | stuck => exact fun o => o.elim
theorem essO_cons (h1 : PS X s (tS g W a)) (h2 : PSs X ss (tSO g W b fn)) : PSs X (s :: ss) (tSO g W (sSeq a b) fn) := (pss_cons h1 h2).imp fun E σ H ⟨P, F, st, s, o⟩ => by
  refine ⟨P, F, st, s, ?_⟩
  unfold sSeq at o
  revert o
  cases a st with
  | ok fl st1 =>
    cases fl with
    | nx =>
      intro o σ1 H1 F1 le1 s1
      refine ⟨P, F1, st1, s1, ?_⟩
      simp only at o
      revert o
      cases b st1 with
      | ok fl st2 =>
        cases fl with
        | nx =>
          simp only
          cases fn st2 with
          | ok ds st3 => exact fun o σ' H' F' p vs le => o σ' H' F' p vs (le1.trans le)
          | exn c fs st3 => exact fun o => o
          | stuck => exact fun o => o
        | _ => exact fun o => o
      | _ => exact fun o => o
    | _ => exact fun o => o.elim
  | _ => exact fun o => o.elim
theorem body_okO {N ps : List Str} {n : Nat} {vs : List V} {Q : VK} {E : XK} (hn : n = N.length) (hp : ps.length ≤ N.length) (hl : vs.length = ps.length) (h : spO g (runO ps.length n a fn) vs H Q E) :
    tSO g (fun cls dd _ H => E cls dd H) a fn { nx := fun _ H' => Q .non H', rt := Q } (L2.start N vs) H := by
  obtain ⟨F, ds, zs, le, r, h, k⟩ := h
  refine ⟨⟨[], H, fun a => H a ≠ none ∧ F a = none⟩, F, ds.map Slot.sh ++ List.replicate (n - ds.length) .no, ⟨fun _ => none, le, Same.refl _, (fun _ _ e => nomatch e), fun a h => ⟨h.2, h.1⟩, ?_, init_sl r _⟩, ?_⟩
  · have := r.length
    unfold L2.start
    simp only [List.length_append, List.length_map, List.length_replicate]
    omega
  · unfold runO at h
    rw [if_pos (by rw [← r.length]; exact hl)] at h
    revert h
    cases a (ds.map Slot.sh ++ List.replicate (n - ds.length) .no) with
    | ok fl st' =>
      cases fl with
      | nx =>
        simp only
        cases fn st' with
        | ok zs' st2 =>
          intro h σ' H' F' p vs' le s hp rr
          cases h
          obtain ⟨O, c, o0, f0, r0, n0⟩ := s
          exact k p vs' H' F' ⟨c.rr, le, c.le, fun a h1 h2 => (c.no a ⟨h1, h2⟩).1⟩ r0 hp f0 rr
        | exn c fs st2 => exact fun h => nomatch h
        | stuck => exact fun h => nomatch h
      | _ => exact fun h => nomatch h
    | exn c fs st2 => exact fun h => nomatch h
    | stuck => exact fun h => nomatch h
theorem ev_callO {df : List D → Option (List D)} {E : L2.St → XK} {fa : Den (List D)} (he : PE X e (tCallS (spO g df) E (tA g W fa))) : PE X e (tN g W (dCallO df fa)) := he.imp fun σ H Q ⟨P, F, st, s, o⟩ =>
  ⟨P, F, st, s, o.bind.imp fun ds st1 H1 F1 le1 s1 o1 vs rs => by
    cases hz : df ds with
    | none => rw [hz] at o1; exact o1.elim
    | some zs =>
      rw [hz] at o1
      refine ⟨F1, ds, zs, s1.le, rs, hz, fun p vs' H' F' gr hp hp' fp rr => o1 H' F' p vs' gr.f ?_ hp' rr⟩
      obtain ⟨O, c⟩ := s1
      refine ⟨O, c.grow gr, ?_, fp, ?_, fun n => (c.no p n).2 hp⟩
      · cases e : O p with
        | none => rfl
        | some i => exact absurd hp (c.oo p i e).2.2
      · cases e : P.R p with
        | none => rfl
        | some u => rw [c.rr _ _ e] at hp; cases hp⟩
theorem spO_len {m n : Nat} {vs : List V} {Q : VK} {E : XK} (h : spO g (runO m n a fn) vs H Q E) : vs.length = m := by
  obtain ⟨F, ds, zs, le, r, h, k⟩ := h
  rw [r.length]
  by_cases hm : ds.length = m
  · exact hm
  · unfold runO at h
    rw [if_neg hm] at h
    cases h
end
section
variable {P : Program} {w : World} {K : PySem.W.Frag} {mg : Str → Option Value} {base : Heap} {x qual : Str} {params : Arguments} {body : List Stmt} {scope : Scope} {f : Addr} {fd : FuncData} {N ps : List Str} {k : Nat}
theorem fn_own {b : DS} {fn : Den (List D)} (F : FunD K x qual params body scope [] [] f fd) (S : FnScope N ps scope) (hp : ps.length ≤ N.length)
    (hbody : ∀ (cdv : Value) (A : Around) (outer : List Env) (s : Shared) (H : Hp) (E : XK), Room k (A.deeper (envOfC qual scope s.heap.objs.size f cdv)) →
      Takes (cxOf (L2.CX P w) P w K mg base N qual scope f cdv A outer s H E) (fun cls dd _ H => E cls dd H) →
      PassesOwn (model P w) (cxOf (L2.CX P w) P w K mg base N qual scope f cdv A outer s H E).A (cxOf (L2.CX P w) P w K mg base N qual scope f cdv A outer s H E).env (cxOf (L2.CX P w) P w K mg base N qual scope f cdv A outer s H E).xe →
      PSs (cxOf (L2.CX P w) P w K mg base N qual scope f cdv A outer s H E) body (tSO ⟨K, mg⟩ (fun cls dd _ H => E cls dd H) b fn)) :
    FnOk P w K mg base (L2.CX P w) (k + 1) f fd ps (spO ⟨K, mg⟩ (runO ps.length N.length b fn)) :=
  F.ok S (fun vs H Q E h => spO_len h) fun cdv A outer s H vs Q E hr h => ⟨_, hbody cdv A outer s H E hr (takes_of rfl rfl rfl rfl) (passes_of rfl), body_okO rfl hp (spO_len h) h⟩
/-- the law: called with the script -/
theorem law_sp {f : DS} {n : Nat} {H : Hp} {a : Addr} {ns : List Int} (hS : SqL K H a (ns.map V.int)) (h : runF 1 n f [.scr ns] = .ok (.bl true)) (E : XK) : spD ⟨K, mg⟩ (runF 1 n f) [.ref a] H (fun v _ => v = .bl true) E := by
  refine ⟨H, [.scr ns], Same.refl _, .cons (.scr hS) .nil, ?_⟩
  rw [h]
  intro v H' F' gr rv
  cases rv
  rfl
theorem cx_no {w : World} {H : Hp} {s : Shared} {e : Value} {s' : Shared} (h : L2.CX P w [] H s (fun _ _ _ => False) e s') : False := by
  obtain ⟨_, _, _, _, _, _, _, _, _, _, _, _, z⟩ := h
  exact z
end
end DL

namespace DL
open PySem PySem.Spec PyProof.Rows L2

/-! ### the head: facts by names, one Bool more -/
abbrev AlB : Type := Bool × List He.FnW
def obsB (fa : List He.Fa) (fn : List He.DefD) (ex : PySem.W.Frag → Bool) (K : PySem.W.Frag) : AlB := ((fa.all fun f => f.ok K) && ((fn.all fun d => d.ok K) && ex K), fn.map fun d => He.fnW K d.at_)
def valB (fn : List He.DefD) : AlB := (true, fn.map He.DefD.val)
structure Says (fa : List He.Fa) (fn : List He.DefD) (ex : PySem.W.Frag → Bool) (K : PySem.W.Frag) : Prop where
  eq : obsB fa fn ex K = valB fn
def obsBG (n : Nat) (fa : List He.Fa) (fn : List He.DefD) (ex : PySem.W.Frag → Bool) (g : Addr → Option Obj) : AlB := obsB fa fn ex (He.frG g (He.asD g n))
def hookB (n : Nat) (fa : List He.Fa) (fn : List He.DefD) (ex : PySem.W.Frag → Bool) : PySem.W.Hook where
  α := AlB
  obs := fun s => obsBG n fa fn ex s.heap.get?
  val := fun _ => valB fn
  says := fun _ h => ∃ K : PySem.W.Frag, K.In h ∧ Says fa fn ex K
  of := fun _ _ e => ⟨_, He.frG_in, ⟨e⟩⟩
  keeps := fun _ _ _ ⟨K, hK, c⟩ k => ⟨K, PySem.W.Frag.In.keeps hK k, c⟩
theorem obsBG_eq {n : Nat} {fa : List He.Fa} {fn : List He.DefD} {ex : PySem.W.Frag → Bool} {g : Addr → Option Obj} {s : Shared} (h : ∀ a, g a = s.heap.get? a) : obsBG n fa fn ex g = (hookB n fa fn ex).obs s := by
  have e : g = s.heap.get? := funext h
  rw [e] <;> rfl
section
variable {fa : List He.Fa} {fn : List He.DefD} {ex : PySem.W.Frag → Bool} {K : PySem.W.Frag}
theorem Says.fact (c : Says fa fn ex K) (i : Nat) {f : He.Fa} (h : fa[i]? = some f := by rfl) : f.ok K = true := by
  have c1 := (He.ba (show ((fa.all fun f => f.ok K) && ((fn.all fun d => d.ok K) && ex K)) = true from congrArg (fun z : AlB => z.1) c.eq)).1
  exact List.all_eq_true.mp c1 f (List.mem_of_getElem? h)
theorem Says.xtra (c : Says fa fn ex K) : ex K = true :=
  (He.ba (He.ba (show ((fa.all fun f => f.ok K) && ((fn.all fun d => d.ok K) && ex K)) = true from congrArg (fun z : AlB => z.1) c.eq)).2).2
theorem Says.def_ (c : Says fa fn ex K) (i : Nat) {d : He.DefD} (h : fn[i]? = some d := by rfl) : ∃ fd, FunD K d.name d.qual d.params d.body d.scope (d.dvs K) (d.kws K) (He.fAd K d.at_) fd := by
  have c2 := (He.ba (He.ba (show ((fa.all fun f => f.ok K) && ((fn.all fun d => d.ok K) && ex K)) = true from congrArg (fun z : AlB => z.1) c.eq)).2).1
  have e : fn.map (fun d => He.fnW K d.at_) = fn.map He.DefD.val := congrArg (fun z : AlB => z.2) c.eq
  have e2 : (fn.map fun d => He.fnW K d.at_)[i]? = (fn.map He.DefD.val)[i]? := by rw [e]
  rw [List.getElem?_map, List.getElem?_map, h] at e2
  exact He.DefD.funD (Option.some.inj e2) (List.all_eq_true.mp c2 d (List.mem_of_getElem? h))
end

/-! ### own defs by name -/
structure Fk (P : Program) (w : World) (K : PySem.W.Frag) (mg : Str → Option Value) (base : Heap) (x : Str) (lvl : Nat) (f : Addr) (ps : List Str) (sp : Sp) : Prop where
  ok : ∃ fd, FnOk P w K mg base (L2.CX P w) lvl f fd ps sp ∧ Binds K fd ps []
  gm : mg x = some (.ref f)
  kp : PySem.W.keepIn K (.ref f) = true
section
variable {X : Cx} {x : Str} {lvl : Nat} {f : Addr} {ps : List Str} {sp : Sp} {W : WX} {e : Expr} {es : List Expr} {t : TA} {p pos : Pos}
theorem Fk.pe (F : Fk X.prog X.w X.K X.mg X.base x lvl f ps sp) (hr : Room lvl X.A) (hg : Gl X x) (tk : Takes X W) (ha : PA X (e :: es) t)
    (hdb : (x == ("__debug__" : Str)) = false := by decide) (he : starEach (e :: es) X.env = (false, eval e X.env) :: starEach es X.env := by rfl) (hpl : (backTo pos (starEach es X.env)).any (·.1) = false := by rfl) :
    PE X (.Call (.Name x p) (e :: es) [] pos) (tCallS sp (WE W) t) := by
  obtain ⟨fd, G, b⟩ := F.ok
  exact pe_callS G hr hg F.gm F.kp b (fun σ => passAt tk σ) ha hdb he hpl
theorem run_fnS0 {k : Nat} {fd : FuncData} {E : L2.St → XK} (F : FnOk X.prog X.w X.K X.mg X.base (L2.CX X.prog X.w) k f fd ps sp) (hr : Room k X.A) (hg : Gl X x) (hm : X.mg x = some (.ref f)) (hk : PySem.W.keepIn X.K (.ref f) = true) (hb : Binds X.K fd ps []) (hx : ∀ σ, PassesAt (L2.CX X.prog X.w) X σ (E σ))
    (hdb : (x == ("__debug__" : Str)) = false := by decide) : PE X (.Call (.Name x p) [] [] pos) (tCallS sp E tNil) := by
  refine ⟨fun pins s σ H Q I h => ?_⟩
  refine wpAny_Call_Name_kw (ld_glob I hg hm ?_ hdb)
  exact PySem.W.callWith_K0 I.kIn hk (run_fnS (us := []) F hr hb (hx σ) I .nil h)
theorem Fk.pe0 (F : Fk X.prog X.w X.K X.mg X.base x lvl f ps sp) (hr : Room lvl X.A) (hg : Gl X x) (tk : Takes X W) (hdb : (x == ("__debug__" : Str)) = false := by decide) : PE X (.Call (.Name x p) [] [] pos) (tCallS sp (WE W) tNil) := by
  obtain ⟨fd, G, b⟩ := F.ok
  exact run_fnS0 G hr hg F.gm F.kp b (fun σ => passAt tk σ) hdb
theorem ev_call0 {g : G} {e : Expr} {df : List D → M D} (he : PE X e (tCallS (spD g df) (WE W) tNil)) : PE X e (tE g W (dCall df dNil)) := he.imp fun σ H Q ⟨P, F, st, s, o⟩ =>
  call_fin s .nil (fun _ _ _ h => h) (o.bind H F (Same.refl _) s)
/-- a method of data -/
structure Mf (P : Program) (w : World) (K : PySem.W.Frag) (mg : Str → Option Value) (base : Heap) (C : Addr) (m : Str) (lvl : Nat) (f : Addr) (ps : List Str) (sp : Sp) : Prop where
  ok : ∃ fd, FnOk P w K mg base (L2.CX P w) lvl f fd ps sp ∧ Binds K fd ps []
  me : Meth K C m f
variable {C : Addr} {m : Str} {o : Expr} {ta : TE} {apos : Pos}
theorem Mf.pe {pl : Sem Bool} (F : Mf X.prog X.w X.K X.mg X.base C m lvl f ps sp) (hr : Room lvl X.A) (c : Cls X.K C) (he : PE X o ta) (ha : PA X (e :: es) t)
    (hst : starEach (e :: es) X.env = (false, eval e X.env) :: starEach es X.env := by rfl) (hpl : (backTo pos (starEach es X.env)).any (·.1) = false := by rfl)
    (ht : eval (.Call (.Attribute o m apos) (e :: es) [] pos) X.env = (do
      let ov ← eval o X.env
      standAt apos.atName
      let (f, first) ← holding [ov] (getMethod ov m pl)
      callWith pos f first (backTo pos (starEach (e :: es) X.env)) (backToKw pos (keywordEach [] X.env))) := by rfl) :
    PE X (.Call (.Attribute o m apos) (e :: es) [] pos) (tMeth C m sp [] E0 ta t) := by
  obtain ⟨fd, G, b⟩ := F.ok
  exact pe_meth he c F.me G hr b .nil passL ha hst hpl ht
theorem Mf.pe0 {pl : Sem Bool} (F : Mf X.prog X.w X.K X.mg X.base C m lvl f ps sp) (hr : Room lvl X.A) (c : Cls X.K C) (he : PE X o ta)
    (ht : eval (.Call (.Attribute o m apos) [] [] pos) X.env = (do
      let ov ← eval o X.env
      standAt apos.atName
      let (f, first) ← holding [ov] (getMethod ov m pl)
      callWith pos f first (backTo pos (starEach [] X.env)) (backToKw pos (keywordEach [] X.env))) := by rfl) :
    PE X (.Call (.Attribute o m apos) [] [] pos) (tMeth C m sp [] E0 ta tNil) := by
  obtain ⟨fd, G, b⟩ := F.ok
  exact pe_meth0 he c F.me G hr b .nil passL ht
theorem ev_meth0 {g : G} {e : Expr} {c m : Str} {C : Addr} {df : List D → M D} {f : Den D} (k : ClsF g c C) (he : PE X e (tMeth C m (spD g df) [] E0 (tE g W f) tNil)) : PE X e (tE g W (dMeth c m df f dNil)) :=
  ev_meth k (he.imp fun σ H Q ⟨P, F, st, s, o⟩ => ⟨P, F, st, s, o.imp fun x st1 H1 F1 le1 s1 o1 v rx => by
    obtain ⟨a, dx, fs, e1, e2, e3, q⟩ := o1 v rx
    obtain ⟨P2, F2, st2, s2, o2⟩ := q
    exact ⟨a, dx, fs, e1, e2, e3, o2 H1 F2 (Same.refl _) s2 [] .nil⟩⟩)
theorem pe_no : PE X e (tE g W fun _ => .stuck) := ⟨fun _ _ _ _ _ _ ⟨_, _, _, _, o⟩ => o.elim⟩
theorem pn_no {g : G} : PE X e (tN g W fun _ => .stuck) := ⟨fun _ _ _ _ _ _ ⟨_, _, _, _, o⟩ => o.elim⟩
theorem pt_no {g : G} : PT X e (tT g W fun _ => .stuck) := ⟨fun _ _ _ _ _ _ ⟨_, _, _, _, o⟩ => o.elim⟩
/-- the calls of a class -/
structure Kf (P : Program) (w : World) (K : PySem.W.Frag) (mg : Str → Option Value) (base : Heap) (c : Str) (lvl : Nat) (C f : Addr) (ps : List Str) (sp : Sp) : Prop where
  ok : ∃ fd, FnOk P w K mg base (L2.CX P w) lvl f fd ps sp ∧ Binds K fd ps []
  mkr : Mk K C f
  gm : mg c = some (.ref C)
theorem Kf.pe {c : Str} (F : Kf X.prog X.w X.K X.mg X.base c lvl C f ps sp) (hr : Room (lvl + 1) X.A) (hg : Gl X c) (tk : Takes X W) (ha : PA X (e :: es) t)
    (hdb : (c == ("__debug__" : Str)) = false := by decide) (he : starEach (e :: es) X.env = (false, eval e X.env) :: starEach es X.env := by rfl) (hpl : (backTo pos (starEach es X.env)).any (·.1) = false := by rfl) :
    PE X (.Call (.Name c p) (e :: es) [] pos) (tMakeS C sp (WE W) t) := by
  obtain ⟨fd, G, b⟩ := F.ok
  exact pe_makeS F.mkr G hr hg F.gm b (fun σ => passAt tk σ) ha hdb he hpl
theorem room_u {k : Nat} {A : Around} (r : Room k A) : A.units + 65 < cLine := by have := r.un; omega
theorem room_u4 {k : Nat} {A : Around} (r : Room k A) : A.units + 64 < cLine := by have := r.un; omega
/-- a comprehension stored under a name -/
theorem es_ownLc {g : G} {s : Stmt} {i : Nat} {vs : List Nat} {t : Tg} {fi : Den (List D)} {test : Den Bool} {elt : Den D} (he : PS X s (tAsg (tLc (tI g W fi) (tG g t) (tT g WN test) (tE g WN elt) vs) (gName i))) (hv : ∀ i ∈ t.is, i ∈ vs := by decide) : PS X s (tS g W (sOwn i (dComp vs t fi test elt))) :=
  es_own (he.imp fun D σ H q => comp_imp hv q)
theorem ets_nil {g : G} : PTs X [] (tT g W dYes) := ⟨fun pins s σ H Q I ⟨P, F, st, s0, o⟩ => pts_nil.run pins s σ H Q I (o H F (Same.refl _) s0)⟩
end
end DL

namespace DL
open PySem PySem.Spec PyProof.Rows L2

/-- the end of a law: its def's promise, over the facts of the head -/
theorem law_end {l : PySem.W.OpenLaw} {k n : Nat} {q : Program} {loose : List Str} {XP : (Str → Option Value) → Heap → Prop} {d : PySem.DefRec} {fa : List He.Fa} {fn : List He.DefD} {ex : PySem.W.Frag → Bool} {f : DS} {H : Nat}
    (hn : l.most = some 63) (hdf : d.params.defaults = []) (hr : Room k callerA) (hname : d.name = ("law" : Str))
    (F : ∀ (w : World) (K : PySem.W.Frag) (mg : Str → Option Value) (h : Heap), K.In h → h.Ns mainGlobals mg → Says fa fn ex K → mg ("law" : Str) = some (.ref (He.fAd K (("law" : Str), none))) ∧
      ∃ fd : FuncData, (∀ (s : Shared) (u : Value), BindsTo s fd ⟨[u], []⟩ [(("_law_script" : Str), u)]) ∧ ∀ base : Heap, FnOk l.prog w K mg base (L2.CX l.prog w) k (He.fAd K (("law" : Str), none)) fd [("_law_script" : Str)] (spD ⟨K, mg⟩ (runF 1 n f)))
    (math : ∀ ns : List Int, runF 1 n f [.scr ns] = .ok (.bl true)) :
    PySem.W.WalkO q loose XP (hookB H fa fn ex).says l.row.toRowW d [] (fun f vs => PySem.call f vs) := by
  refine Att.attach_call hn hdf fun w s₀ s₁ mg mb fa' o pm cd doc a vs ns G Y ho hd hcd hmg hobj hints hlen hg => ?_
  obtain ⟨K, KX, c⟩ := Y
  rw [hname] at hmg
  obtain ⟨g1, fd, hb, hF⟩ := F w K mg _ KX G.T.g c
  rw [hmg] at g1
  cases g1
  exact law_call KX G.T.g G.T.b G.T.builtins G.T.nolimit hg hobj hints (Nat.le_trans hlen (by decide)) hr (fun base _ _ => hF base) hb (fun H hO hS => law_sp hS (math ns) _) fun H e s' h => cx_no h
def isfB (K : PySem.W.Frag) (c : Str) : Bool := He.eqO (PySem.W.findIn K (.ref (He.ga K c)) "__class__") (some (some (.builtin "object.__class__"))) && (He.eqO (PySem.W.specialIn K (.builtin "object.__class__") "__get__") (some (some (.builtin "getset_descriptor.__get__"))) &&
  (decide (PySem.W.takesIn K (.builtin "object.__class__") = some true) && (decide (PySem.W.mroIn K (He.ga K c) (.type "object") = some true) && ["NoneType", "bool", "int", "str", "list", "tuple"].all fun tn => decide (PySem.W.kitOne K (.type tn) (.ref (He.ga K c)) = some false))))
theorem isfB_ok {K : PySem.W.Frag} {mg : Str → Option Value} {c : Str} (k : ClsF ⟨K, mg⟩ c (He.ga K c)) (h : isfB K c = true) : IsF ⟨K, mg⟩ c (He.ga K c) := by
  unfold isfB at h
  obtain ⟨h1, h⟩ := He.ba h
  obtain ⟨h2, h⟩ := He.ba h
  obtain ⟨h3, h⟩ := He.ba h
  obtain ⟨h4, h5⟩ := He.ba h
  exact ⟨k.gC, k.cl, He.eqO_ok h1, He.eqO_ok h2, of_decide_eq_true h3, of_decide_eq_true h4, fun tn ht => of_decide_eq_true (List.all_eq_true.mp h5 tn ht)⟩

theorem ev_gint {X : Cx} {g : G} {W : WX} {x : Str} {i : Int} {pos : Pos} (h : ∃ t, X.mg x = some (.int i t)) (hg : Gl X x) (hd : (x == ("__debug__" : Str)) = false := by decide) : PE X (.Name x pos) (tE g W (dC (.int i))) := by
  obtain ⟨t, h⟩ := h
  exact ev_c (pe_glob (v := .int i) hg h ⟨_, rfl⟩ hd) fun _ => .int _
theorem ev_gstr {X : Cx} {g : G} {W : WX} {x i : Str} {pos : Pos} (h : ∃ t, X.mg x = some (.str i t)) (hg : Gl X x) (hd : (x == ("__debug__" : Str)) = false := by decide) : PE X (.Name x pos) (tE g W (dC (.str i))) := by
  obtain ⟨t, h⟩ := h
  exact ev_c (pe_glob (v := .str i) hg h ⟨_, rfl⟩ hd) fun _ => .str _
/-! ### xs.index(x) -/
section
variable {X : Cx} {g : G} {W : WX} {P : Par} {σ : L2.St} {H F : Hp} {st : DSt} {e : Expr} {s : Stmt} {ss : List Stmt} {f h : Den D}
/-- sorted of ints -/
def insI (x : Int) : List Int → List Int
  | [] => [x]
  | y :: r => if x ≤ y then x :: y :: r else y :: insI x r
def sortI : List Int → List Int
  | [] => []
  | x :: r => insI x (sortI r)
theorem insI_perm (x : Int) : ∀ l, (insI x l).Perm (x :: l)
  | [] => .refl _
  | y :: r => by
    unfold insI
    split
    · exact .refl _
    · exact ((insI_perm x r).cons y).trans (.swap x y r)
theorem sortI_perm : ∀ l, (sortI l).Perm l
  | [] => .refl _
  | x :: r => (insI_perm x _).trans ((sortI_perm r).cons x)
theorem insI_sorted (x : Int) : ∀ l : List Int, l.Pairwise (· ≤ ·) → (insI x l).Pairwise (· ≤ ·)
  | [], _ => by simp [insI]
  | y :: r, h => by
    unfold insI
    split
    · rename_i hx
      refine List.pairwise_cons.mpr ⟨fun z hz => ?_, h⟩
      rcases List.mem_cons.mp hz with rfl | hz
      · exact hx
      · exact Int.le_trans hx ((List.pairwise_cons.mp h).1 z hz)
    · rename_i hx
      obtain ⟨h1, h2⟩ := List.pairwise_cons.mp h
      refine List.pairwise_cons.mpr ⟨fun z hz => ?_, insI_sorted x r h2⟩
      rcases List.mem_cons.mp ((insI_perm x r).mem_iff.mp hz) with rfl | hz
      · omega
      · exact h1 z hz
theorem sortI_sorted : ∀ l, (sortI l).Pairwise (· ≤ ·)
  | [] => .nil
  | x :: r => insI_sorted x _ (sortI_sorted r)
theorem sorted_unique : ∀ {l m : List Int}, l.Perm m → l.Pairwise (· ≤ ·) → m.Pairwise (· ≤ ·) → l = m
  | [], m, p, _, _ => (List.nil_perm.mp p).symm
  | x :: l, m, p, h1, h2 => by
    cases m with
    | nil => exact absurd p.symm (by simp)
    | cons y m =>
      obtain ⟨a1, a2⟩ := List.pairwise_cons.mp h1
      obtain ⟨b1, b2⟩ := List.pairwise_cons.mp h2
      have hxy : x = y := by
        have hx : x ∈ y :: m := p.mem_iff.mp List.mem_cons_self
        have hy : y ∈ x :: l := p.mem_iff.mpr List.mem_cons_self
        rcases List.mem_cons.mp hx with e | hx
        · exact e
        · rcases List.mem_cons.mp hy with e | hy
          · exact e.symm
          · exact Int.le_antisymm (a1 y hy) (b1 x hx)
      subst hxy
      rw [sorted_unique (List.Perm.cons_inv p) a2 b2]
def nSorted : D → Option (List D)
  | .lst ds => match intsOf ds with | some is => some ((sortI is).map D.int) | none => none
  | .tup ds => match intsOf ds with | some is => some ((sortI is).map D.int) | none => none
  | _ => none
end
end DL

namespace LAW
open PySem PySem.Spec PyProof.Rows L2 DL
def topS (i : Nat) : Stmt := PySem.Challenge.pw_reesblocks_k08_monogenic_semigroups.main.body.getD i (.Pass ⟨0, 0, 0, 0⟩)
def fuel : Nat := 1000000
def l1__law_state : DS := (sSeq (sSet 1 (dOp2 opAdd (dOp2 opMul (dVar 1) (dC (.int 1000003))) (dOp1n opAbs 3))) (sSet 2 (dOp2 opMod (dOp1 opInt (dOp2 opAdd (dOp2 opMul (dVar 2) (dC (.int 48271))) (dVar 3))) (dC (.int 2147483647)))))
def b__law_state : DS := (sSeq (sSet 1 (dC (.int 0))) (sSeq (sSet 2 (dC (.int 1))) (sSeq (sFor (.nm 3) (dItems (dSln 0 dNoP (dPart (dC (.int 63))))) l1__law_state) sPass)))
def r__law_state : Den (List D) := (dLst (dCons (dVar 1) (dCons (dVar 2) dNil)))
def d__law_state : List D → Option (List D) := runO 1 4 b__law_state r__law_state
def b_is_integer : DS := (sRet (dIf (dTst (dOp1 (opIsi "int") (dVar 0))) (dVal (dNot (dTst (dOp1 (opIsi "bool") (dVar 0))))) (dC (.bl false))))
def d_is_integer : List D → M D := runF 1 1 b_is_integer
def b_check_count : DS := (sIf (dOr (dNot (dTst (dCall d_is_integer (dCons (dVar 0) dNil)))) (dTst (dOp2 opLt (dVar 0) (dC (.int 1))))) (fun _ => .stuck) sPass)
def d_check_count : List D → M D := runF 1 1 b_check_count
def b_check_counts : DS := (sSeq (sExpr (dCall d_check_count (dCons (dVar 0) dNil))) (sExpr (dCall d_check_count (dCons (dVar 1) dNil))))
def d_check_counts : List D → M D := runF 2 2 b_check_counts
def b_check_size : DS := (sIf (dTst (dOp2 opGt (dVar 0) (dC (.int 24)))) (fun _ => .stuck) sPass)
def d_check_size : List D → M D := runF 1 1 b_check_size
def b_is_item : DS := (sRet (dIf (dTst (dCall d_is_integer (dCons (dVar 0) dNil))) (dChain opLe opLt (dC (.int 0)) (dVar 0) (dVar 1)) (dC (.bl false))))
def d_is_item : List D → M D := runF 2 2 b_is_item
def l1_taken_table : DS := (sIf (dNot (dTst (dCall d_is_item (dCons (dVar 3) (dCons (dOp1n opLen 0) dNil))))) (fun _ => .stuck) sPass)
def l2_taken_table : DS := (sSeq (sIf (dOr (dNot (dTst (dOp1 (opIsi2 "list" "tuple") (dVar 2)))) (dTst (dOp2 opNe (dOp1n opLen 2) (dOp1n opLen 0)))) (fun _ => .stuck) sPass) (sSeq (sFor (.nm 3) (dItems (dVar 2)) l1_taken_table) (sExpr (dAppend 1 (dOp1n opTuple 2)))))
def k3_taken_table : DS := (sRet (dOp1n opTuple 1))
def k2_taken_table : DS := (sSeq (sFor (.nm 2) (dItems (dVar 0)) l2_taken_table) k3_taken_table)
def k1_taken_table : DS := (sSeq (sOwn 1 (dLst dNil)) k2_taken_table)
def b_taken_table : DS := (sSeq (sIf (dOr (dNot (dTst (dOp1 (opIsi2 "list" "tuple") (dVar 0)))) (dTst (dOp2 opEq (dOp1n opLen 0) (dC (.int 0))))) (fun _ => .stuck) sPass) k1_taken_table)
def d_taken_table : List D → M D := runF 1 4 b_taken_table
def e1_is_associative : Den D := (dOp2 opIx (dOp2n opIx 0 (dOp2n opIx 1 (dVar 2))) (dVar 3))
def e2_is_associative : Den D := (dOp2n opIx 1 (dVar 4))
def l1_is_associative : DS := (sIf (dTst (dOp2 opNe (dFrz (dComp [3] (.nm 3) (dRng (dOp1n opLen 0)) dYes e1_is_associative)) (dFrz (dComp [4] (.nm 4) (dItems (dOp2n opIx 0 (dVar 2))) dYes e2_is_associative)))) (sRet (dC (.bl false))) sPass)
def l2_is_associative : DS := (sFor (.nm 2) (dRng (dOp1n opLen 0)) l1_is_associative)
def b_is_associative : DS := (sSeq (sFor (.nm 1) (dItems (dVar 0)) l2_is_associative) (sRet (dC (.bl true))))
def d_is_associative : List D → M D := runF 1 5 b_is_associative
def k4_Semigroup___init__ : DS := (sSelf 0 "Semigroup" "table" (dVar 2))
def k3_Semigroup___init__ : DS := (sSeq (sSelf 0 "Semigroup" "n" (dOp1n opLen 2)) k4_Semigroup___init__)
def k2_Semigroup___init__ : DS := (sSeq (sIf (dNot (dTst (dCall d_is_associative (dCons (dVar 2) dNil)))) (fun _ => .stuck) sPass) k3_Semigroup___init__)
def k1_Semigroup___init__ : DS := (sSeq (sIf (dTst (dOp2 opGt (dOp1n opLen 2) (dC (.int 24)))) (fun _ => .stuck) sPass) k2_Semigroup___init__)
def b_Semigroup___init__ : DS := (sSeq (sSet 2 (dCall d_taken_table (dCons (dVar 1) dNil))) k1_Semigroup___init__)
def d_Semigroup___init__ : List D → M (List Str × List D) := runI "Semigroup" 2 3 b_Semigroup___init__
def e1_monogenic : Den D := (dOp2 opAdd (dOp2 opAdd (dVar 4) (dVar 6)) (dC (.int 2)))
def e2_monogenic : Den D := (dOp2 opSub (dIf (dTst (dOp2 opLe (dVar 7) (dVar 2))) (dVar 7) (dOp2 opAdd (dVar 0) (dOp2 opMod (dOp2 opSub (dVar 7) (dVar 0)) (dVar 1)))) (dC (.int 1)))
def l1_monogenic : DS := (sSeq (sOwn 5 (dComp [6] (.nm 6) (dRng (dVar 2)) dYes e1_monogenic)) (sExpr (dAppend 3 (dFrz (dComp [7] (.nm 7) (dItems (dVar 5)) dYes e2_monogenic)))))
def k5_monogenic : DS := (sRet (dCall (makeM "Semigroup" d_Semigroup___init__) (dCons (dVar 3) dNil)))
def k4_monogenic : DS := (sSeq (sFor (.nm 4) (dRng (dVar 2)) l1_monogenic) k5_monogenic)
def k3_monogenic : DS := (sSeq (sOwn 3 (dLst dNil)) k4_monogenic)
def k2_monogenic : DS := (sSeq (sExpr (dCall d_check_size (dCons (dVar 2) dNil))) k3_monogenic)
def k1_monogenic : DS := (sSeq (sSet 2 (dOp2 opSub (dOp2 opAdd (dVar 0) (dVar 1)) (dC (.int 1)))) k2_monogenic)
def b_monogenic : DS := (sSeq (sExpr (dCall d_check_counts (dCons (dVar 0) (dCons (dVar 1) dNil)))) k1_monogenic)
def d_monogenic : List D → M D := runF 2 8 b_monogenic
def l1_Semigroup_power : DS := (sSet 3 (dOp2 opIx (dOp2 opIx (dOp1 (opFld "Semigroup" "table") (dVar 0)) (dVar 3)) (dVar 1)))
def k2_Semigroup_power : DS := (sRet (dVar 3))
def k1_Semigroup_power : DS := (sSeq (sFor (.nm 4) (dRng (dOp2 opSub (dVar 2) (dC (.int 1)))) l1_Semigroup_power) k2_Semigroup_power)
def b_Semigroup_power : DS := (sSeq (sSet 3 (dVar 1)) k1_Semigroup_power)
def d_Semigroup_power : List D → M D := runF 3 5 b_Semigroup_power
def k2__law_take : DS := (sRet (dOp2 opMod (dOp1 opInt (dOp2 opDiv (dOp2n opIx 0 (dC (.int 1))) (dC (.int 7)))) (dVar 1)))
def k1__law_take : DS := (sSeq (sStore 0 (dC (.int 1)) (dOp2 opMod (dOp1 opInt (dOp2 opAdd (dOp2 opMul (dOp2n opIx 0 (dC (.int 1))) (dC (.int 48271))) (dC (.int 11)))) (dC (.int 2147483647)))) k2__law_take)
def b__law_take : DS := (sSeq (sIf (dTst (dOp2 opGt (dOp2n opIx 0 (dC (.int 0))) (dC (.int 0)))) (sSeq (sSet 2 (dOp2 opMod (dOp1 opInt (dOp2n opIx 0 (dC (.int 0)))) (dVar 1))) (sSeq (sStore 0 (dC (.int 0)) (dOp2 opDiv (dOp2n opIx 0 (dC (.int 0))) (dVar 1))) (sRet (dVar 2)))) sPass) k1__law_take)
def d__law_take : List D → List D → M (D × List D) := runR 2 3 b__law_take
def b_Semigroup_multiply : DS := (sRet (dOp2 opIx (dOp2 opIx (dOp1 (opFld "Semigroup" "table") (dVar 0)) (dVar 1)) (dVar 2)))
def d_Semigroup_multiply : List D → M D := runF 3 3 b_Semigroup_multiply
def l1__law_walked : DS := (sSeq (sSet 3 (dOp2 opAdd (dVar 3) (dC (.int 1)))) (sIf (dTst (dOp2 opEq (dVar 3) (dOp2 opAdd (dVar 0) (dVar 1)))) (sSet 3 (dVar 0)) sPass))
def k2__law_walked : DS := (sRet (dVar 3))
def k1__law_walked : DS := (sSeq (sFor (.nm 4) (dRng (dOp2 opSub (dVar 2) (dC (.int 1)))) l1__law_walked) k2__law_walked)
def b__law_walked : DS := (sSeq (sSet 3 (dC (.int 1))) k1__law_walked)
def d__law_walked : List D → M D := runF 3 5 b__law_walked
def e1_law : Den D := (dMeth "Semigroup" "power" d_Semigroup_power (dVar 4) (dCons (dC (.int 0)) (dCons (dOp2 opAdd (dVar 8) (dC (.int 1))) dNil)))
def l1_law : DS := (sIf (dTst (dOp2 opNe (dMeth "Semigroup" "multiply" d_Semigroup_multiply (dVar 4) (dCons (dVar 6) (dCons (dVar 7) dNil))) (dOp2 opSub (dCall d__law_walked (dCons (dVar 2) (dCons (dVar 3) (dCons (dOp2 opAdd (dOp2 opAdd (dVar 6) (dVar 7)) (dC (.int 2))) dNil)))) (dC (.int 1))))) (sRet (dC (.bl false))) sPass)
def l2_law : DS := (sFor (.nm 7) (dRng (dVar 5)) l1_law)
def k7_law : DS := (sRet (dC (.bl true)))
def k6_law : DS := (sSeq (sFor (.nm 6) (dRng (dVar 5)) l2_law) k7_law)
def k5_law : DS := (sSeq (sIf (dTst (dOp2 opNe (dMeth "Semigroup" "power" d_Semigroup_power (dVar 4) (dCons (dC (.int 0)) (dCons (dOp2 opAdd (dVar 2) (dVar 3)) dNil))) (dOp2 opSub (dVar 2) (dC (.int 1))))) (sRet (dC (.bl false))) sPass) k6_law)
def k4_law : DS := (sSeq (sIf (dOr (dNot (dTst (dOp1 (opIsC "Semigroup") (dVar 4)))) (dOr (dTst (dOp2 opNe (dOp1 (opFld "Semigroup" "n") (dVar 4)) (dVar 5))) (dTst (dOp2 opNe (dFrz (dComp [8] (.nm 8) (dRng (dVar 5)) dYes e1_law)) (dFrz (dLstRg (dRg1 (dVar 5)))))))) (sRet (dC (.bl false))) sPass) k5_law)
def k3_law : DS := (sSeq (sSet 5 (dOp2 opSub (dOp2 opAdd (dVar 2) (dVar 3)) (dC (.int 1)))) k4_law)
def k2_law : DS := (sSeq (sSet 4 (dCall d_monogenic (dCons (dVar 2) (dCons (dVar 3) dNil)))) k3_law)
def k1_law : DS := (sSeq (sPar 2 3 (dOp2 opAdd (dC (.int 1)) (dCallR d__law_take 1 (dCons (dC (.int 6)) dNil))) (dOp2 opAdd (dC (.int 1)) (dCallR d__law_take 1 (dCons (dC (.int 6)) dNil)))) k2_law)
def b_law : DS := (sSeq (sOwn 1 (dCallO d__law_state (dCons (dVar 0) dNil))) k1_law)
def d_law : List D → M D := runF 1 9 b_law
/-! ### the head -/
def dd__law_state : He.DefD := ⟨("_law_state", none), "_law_state", "_law_state", defArgs (topS 19), defBody (topS 19), defScope (topS 19), [], []⟩
def dd_is_integer : He.DefD := ⟨("is_integer", none), "is_integer", "is_integer", defArgs (topS 6), defBody (topS 6), defScope (topS 6), [], []⟩
def dd_check_count : He.DefD := ⟨("check_count", none), "check_count", "check_count", defArgs (topS 14), defBody (topS 14), defScope (topS 14), [], []⟩
def dd_check_counts : He.DefD := ⟨("check_counts", none), "check_counts", "check_counts", defArgs (topS 16), defBody (topS 16), defScope (topS 16), [], []⟩
def dd_check_size : He.DefD := ⟨("check_size", none), "check_size", "check_size", defArgs (topS 15), defBody (topS 15), defScope (topS 15), [], []⟩
def dd_is_item : He.DefD := ⟨("is_item", none), "is_item", "is_item", defArgs (topS 9), defBody (topS 9), defScope (topS 9), [], []⟩
def dd_taken_table : He.DefD := ⟨("taken_table", none), "taken_table", "taken_table", defArgs (topS 10), defBody (topS 10), defScope (topS 10), [], []⟩
def dd_is_associative : He.DefD := ⟨("is_associative", none), "is_associative", "is_associative", defArgs (topS 11), defBody (topS 11), defScope (topS 11), [], []⟩
def dd_Semigroup___init__ : He.DefD := ⟨("Semigroup", some "__init__"), "__init__", "Semigroup.__init__", defArgs (inClass (topS 12) 0), defBody (inClass (topS 12) 0), defScope (inClass (topS 12) 0), [], []⟩
def dd_monogenic : He.DefD := ⟨("monogenic", none), "monogenic", "monogenic", defArgs (topS 17), defBody (topS 17), defScope (topS 17), [], []⟩
def dd_Semigroup_power : He.DefD := ⟨("Semigroup", some "power"), "power", "Semigroup.power", defArgs (inClass (topS 12) 6), defBody (inClass (topS 12) 6), defScope (inClass (topS 12) 6), [], []⟩
def dd__law_take : He.DefD := ⟨("_law_take", none), "_law_take", "_law_take", defArgs (topS 20), defBody (topS 20), defScope (topS 20), [], []⟩
def dd_Semigroup_multiply : He.DefD := ⟨("Semigroup", some "multiply"), "multiply", "Semigroup.multiply", defArgs (inClass (topS 12) 4), defBody (inClass (topS 12) 4), defScope (inClass (topS 12) 4), [], []⟩
def dd__law_walked : He.DefD := ⟨("_law_walked", none), "_law_walked", "_law_walked", defArgs (topS 21), defBody (topS 21), defScope (topS 21), [], []⟩
def dd_law : He.DefD := ⟨("law", none), "law", "law", defArgs (topS 22), defBody (topS 22), defScope (topS 22), [], []⟩
def fn : List He.DefD := [dd__law_state, dd_is_integer, dd_check_count, dd_check_counts, dd_check_size, dd_is_item, dd_taken_table, dd_is_associative, dd_Semigroup___init__, dd_monogenic, dd_Semigroup_power, dd__law_take, dd_Semigroup_multiply, dd__law_walked, dd_law]
def fa : List He.Fa := [.free "abs", .free "bool", .free "int", .free "isinstance", .free "len", .free "list", .free "range", .free "tuple", .int "MOST" 24, .glo "Semigroup", .cls "Semigroup", .noat "Semigroup" "n", .noat "Semigroup" "table", .glo "_law_state", .glo "is_integer", .glo "check_count", .glo "check_counts", .glo "check_size", .glo "is_item", .glo "taken_table", .glo "is_associative", .mkr "Semigroup", .glo "monogenic", .meth "Semigroup" "power", .glo "_law_take", .meth "Semigroup" "multiply", .glo "_law_walked", .glo "law"]
def ex (K : PySem.W.Frag) : Bool := (true && isfB K "Semigroup")

section
variable {P : Program} {w : World} {K : PySem.W.Frag} {mg : Str → Option Value} {base h : Heap}
theorem T_free_abs (KX : K.In h) (G : h.Ns mainGlobals mg) (c : Says fa fn ex K) : mg "abs" = none := He.free_ok KX G (c.fact 0 (f := .free "abs") rfl)
theorem T_free_bool (KX : K.In h) (G : h.Ns mainGlobals mg) (c : Says fa fn ex K) : mg "bool" = none := He.free_ok KX G (c.fact 1 (f := .free "bool") rfl)
theorem T_free_int (KX : K.In h) (G : h.Ns mainGlobals mg) (c : Says fa fn ex K) : mg "int" = none := He.free_ok KX G (c.fact 2 (f := .free "int") rfl)
theorem T_free_isinstance (KX : K.In h) (G : h.Ns mainGlobals mg) (c : Says fa fn ex K) : mg "isinstance" = none := He.free_ok KX G (c.fact 3 (f := .free "isinstance") rfl)
theorem T_free_len (KX : K.In h) (G : h.Ns mainGlobals mg) (c : Says fa fn ex K) : mg "len" = none := He.free_ok KX G (c.fact 4 (f := .free "len") rfl)
theorem T_free_list (KX : K.In h) (G : h.Ns mainGlobals mg) (c : Says fa fn ex K) : mg "list" = none := He.free_ok KX G (c.fact 5 (f := .free "list") rfl)
theorem T_free_range (KX : K.In h) (G : h.Ns mainGlobals mg) (c : Says fa fn ex K) : mg "range" = none := He.free_ok KX G (c.fact 6 (f := .free "range") rfl)
theorem T_free_tuple (KX : K.In h) (G : h.Ns mainGlobals mg) (c : Says fa fn ex K) : mg "tuple" = none := He.free_ok KX G (c.fact 7 (f := .free "tuple") rfl)
theorem T_int_MOST (KX : K.In h) (G : h.Ns mainGlobals mg) (c : Says fa fn ex K) : ∃ t, mg "MOST" = some (.int 24 t) := He.int_ok KX G (c.fact 8 (f := .int "MOST" 24) rfl)
theorem T_cls_Semigroup (KX : K.In h) (G : h.Ns mainGlobals mg) (c : Says fa fn ex K) : ClsF ⟨K, mg⟩ "Semigroup" (He.ga K "Semigroup") := ⟨He.glo_ok KX G (c.fact 9 (f := .glo "Semigroup") rfl), He.cls_ok (c.fact 10 (f := .cls "Semigroup") rfl)⟩
theorem T_noat_Semigroup_n (KX : K.In h) (G : h.Ns mainGlobals mg) (c : Says fa fn ex K) : NoAttr K (He.ga K "Semigroup") "n" := He.noat_ok (c.fact 11 (f := .noat "Semigroup" "n") rfl)
theorem T_noat_Semigroup_table (KX : K.In h) (G : h.Ns mainGlobals mg) (c : Says fa fn ex K) : NoAttr K (He.ga K "Semigroup") "table" := He.noat_ok (c.fact 12 (f := .noat "Semigroup" "table") rfl)
theorem T_isf_Semigroup (KX : K.In h) (G : h.Ns mainGlobals mg) (c : Says fa fn ex K) : IsF ⟨K, mg⟩ "Semigroup" (He.ga K "Semigroup") := isfB_ok (T_cls_Semigroup KX G c) (He.ba c.xtra).2
theorem sc__law_state : FnScope ["_law_script", "_law_seed", "_law_total", "_law_cell"] ["_law_script"] (defScope (topS 19)) := ⟨rfl, rfl, rfl, by decide +kernel, rfl, by decide +kernel, by decide +kernel⟩
theorem ok__law_state (KX : K.In h) (G : h.Ns mainGlobals mg) (c : Says fa fn ex K) : Fk P w K mg base "_law_state" 1 (He.fAd K ("_law_state", none)) ["_law_script"] (spO ⟨K, mg⟩ d__law_state) := by
  obtain ⟨fd, F⟩ := c.def_ 0 (d := dd__law_state) rfl
  have sc := sc__law_state
  refine ⟨⟨fd, fn_own F sc (by decide) fun cdv A outer s H E hr tk po => ?_, F.bindsN (ps := ["_law_script"]) fun _ _ _ _ _ _ us hl => match us, hl with | [_], _ => rfl⟩, He.glo_ok KX G (c.fact 13 (f := .glo "_law_state") rfl), F.kp⟩
  exact (essO_cons (es_set (ps_set (i := 1) sc.nd rfl (by first | exact Or.inl rfl | exact Or.inr rfl) (ev_int pe_int)))
    (essO_cons (es_set (ps_set (i := 2) sc.nd rfl (by first | exact Or.inl rfl | exact Or.inr rfl) (ev_int pe_int)))
    (essO_cons (es_for (ps_for po rfl (ei_any (pi_any (ev_sln (pe_slice sl_D (pv 0) eo_none (eo_some (ev_int pe_int)))))) (eg_nm (pg_name (i := 3) sc.nd rfl (by first | exact .inl rfl | exact .inr rfl))) (ess_cons (es_set (ps_set (i := 1) sc.nd rfl (by first | exact Or.inl rfl | exact Or.inr rfl) (ev2 vo_add (pe_op op_addD (ev2 vo_mul (pe_op op_mulD (ev_var (pv 1)) (ev_int pe_int))) (evc1n vo_abs (pe_callB call_abs (by rfl) (T_free_abs KX G c) (by decide +kernel) (pa_cons (pv 3) pa_nil)))))))
    (ess_one (es_set (ps_set (i := 2) sc.nd rfl (by first | exact Or.inl rfl | exact Or.inr rfl) (ev2 vo_mod (pe_op op_modN (evc1 vo_int (pe_callTy call_int1 (by rfl) (T_free_int KX G c) (by decide +kernel) (pa_cons (ev2 vo_add (pe_op op_addD (ev2 vo_mul (pe_op op_mulD (ev_var (pv 2)) (ev_int pe_int))) (ev_var (pv 3)))) pa_nil))) (ev_int pe_int)))))))))
    (essO_one (ps_ret (evN_lst (pe_lst (ea_cons (ev_var (pv 1)) (ea_cons (ev_var (pv 2)) ea_nil')))))))))
theorem sc_is_integer : FnScope ["value"] ["value"] (defScope (topS 6)) := ⟨rfl, rfl, rfl, by decide +kernel, rfl, by decide +kernel, by decide +kernel⟩
theorem ok_is_integer (KX : K.In h) (G : h.Ns mainGlobals mg) (c : Says fa fn ex K) : Fk P w K mg base "is_integer" 1 (He.fAd K ("is_integer", none)) ["value"] (spD ⟨K, mg⟩ d_is_integer) := by
  obtain ⟨fd, F⟩ := c.def_ 1 (d := dd_is_integer) rfl
  have sc := sc_is_integer
  refine ⟨⟨fd, fn_data F sc (by decide) fun cdv A outer s H E hr tk po => ?_, F.bindsN (ps := ["value"]) fun _ _ _ _ _ _ us hl => match us, hl with | [_], _ => rfl⟩, He.glo_ok KX G (c.fact 14 (f := .glo "is_integer") rfl), F.kp⟩
  exact (ess_one (es_ret (ps_ret (ev_andV (pe_and (ev_isi (by decide) (pe_callB call_isi (by rfl) (T_free_isinstance KX G c) (by decide +kernel) (pa_cons (ev_var (pv 0)) (pa_cons (pe_bltn (by rfl) (T_free_int KX G c) (by decide +kernel) rfl) pa_nil)))) (pe_one (ev_notV (pe_not (ev_isi (by decide) (pe_callB call_isi (by rfl) (T_free_isinstance KX G c) (by decide +kernel) (pa_cons (ev_var (pv 0)) (pa_cons (pe_bltn (by rfl) (T_free_bool KX G c) (by decide +kernel) rfl) pa_nil))))))))))))
theorem sc_check_count : FnScope ["n"] ["n"] (defScope (topS 14)) := ⟨rfl, rfl, rfl, by decide +kernel, rfl, by decide +kernel, by decide +kernel⟩
theorem ok_check_count (KX : K.In h) (G : h.Ns mainGlobals mg) (c : Says fa fn ex K) : Fk P w K mg base "check_count" 2 (He.fAd K ("check_count", none)) ["n"] (spD ⟨K, mg⟩ d_check_count) := by
  obtain ⟨fd, F⟩ := c.def_ 2 (d := dd_check_count) rfl
  have sc := sc_check_count
  refine ⟨⟨fd, fn_data F sc (by decide) fun cdv A outer s H E hr tk po => ?_, F.bindsN (ps := ["n"]) fun _ _ _ _ _ _ us hl => match us, hl with | [_], _ => rfl⟩, He.glo_ok KX G (c.fact 15 (f := .glo "check_count") rfl), F.kp⟩
  exact (ess_one (es_if (ps_if (PW.pt (et_or (pw_or (et_not (pt_not (et_tst (pt_val (ev_call ((ok_is_integer KX G c).pe (hr.mono (by decide)) (by rfl) tk (ea_cons (ev_var (pv 0)) ea_nil'))))))) (pw_or1 (et2 (vo_cmpI _) (pt_cmpR op_lt (ev_var (pv 0)) (ev_int pe_int) (nomark _))))))) (ess_one es_never) ess_nil)))
theorem sc_check_counts : FnScope ["one", "two"] ["one", "two"] (defScope (topS 16)) := ⟨rfl, rfl, rfl, by decide +kernel, rfl, by decide +kernel, by decide +kernel⟩
theorem ok_check_counts (KX : K.In h) (G : h.Ns mainGlobals mg) (c : Says fa fn ex K) : Fk P w K mg base "check_counts" 3 (He.fAd K ("check_counts", none)) ["one", "two"] (spD ⟨K, mg⟩ d_check_counts) := by
  obtain ⟨fd, F⟩ := c.def_ 3 (d := dd_check_counts) rfl
  have sc := sc_check_counts
  refine ⟨⟨fd, fn_data F sc (by decide) fun cdv A outer s H E hr tk po => ?_, F.bindsN (ps := ["one", "two"]) fun _ _ _ _ _ _ us hl => match us, hl with | [_, _], _ => rfl⟩, He.glo_ok KX G (c.fact 16 (f := .glo "check_counts") rfl), F.kp⟩
  exact (ess_cons (es_expr (ps_expr (ev_call ((ok_check_count KX G c).pe (hr.mono (by decide)) (by rfl) tk (ea_cons (ev_var (pv 0)) ea_nil')))))
    (ess_one (es_expr (ps_expr (ev_call ((ok_check_count KX G c).pe (hr.mono (by decide)) (by rfl) tk (ea_cons (ev_var (pv 1)) ea_nil')))))))
theorem sc_check_size : FnScope ["n"] ["n"] (defScope (topS 15)) := ⟨rfl, rfl, rfl, by decide +kernel, rfl, by decide +kernel, by decide +kernel⟩
theorem ok_check_size (KX : K.In h) (G : h.Ns mainGlobals mg) (c : Says fa fn ex K) : Fk P w K mg base "check_size" 1 (He.fAd K ("check_size", none)) ["n"] (spD ⟨K, mg⟩ d_check_size) := by
  obtain ⟨fd, F⟩ := c.def_ 4 (d := dd_check_size) rfl
  have sc := sc_check_size
  refine ⟨⟨fd, fn_data F sc (by decide) fun cdv A outer s H E hr tk po => ?_, F.bindsN (ps := ["n"]) fun _ _ _ _ _ _ us hl => match us, hl with | [_], _ => rfl⟩, He.glo_ok KX G (c.fact 17 (f := .glo "check_size") rfl), F.kp⟩
  exact (ess_one (es_if (ps_if (et2 (vo_cmpI _) (pt_cmpR op_gt (ev_var (pv 0)) (ev_gint (T_int_MOST KX G c) (by rfl)) (nomark _))) (ess_one es_never) ess_nil)))
theorem sc_is_item : FnScope ["value", "n"] ["value", "n"] (defScope (topS 9)) := ⟨rfl, rfl, rfl, by decide +kernel, rfl, by decide +kernel, by decide +kernel⟩
theorem ok_is_item (KX : K.In h) (G : h.Ns mainGlobals mg) (c : Says fa fn ex K) : Fk P w K mg base "is_item" 2 (He.fAd K ("is_item", none)) ["value", "n"] (spD ⟨K, mg⟩ d_is_item) := by
  obtain ⟨fd, F⟩ := c.def_ 5 (d := dd_is_item) rfl
  have sc := sc_is_item
  refine ⟨⟨fd, fn_data F sc (by decide) fun cdv A outer s H E hr tk po => ?_, F.bindsN (ps := ["value", "n"]) fun _ _ _ _ _ _ us hl => match us, hl with | [_, _], _ => rfl⟩, He.glo_ok KX G (c.fact 18 (f := .glo "is_item") rfl), F.kp⟩
  exact (ess_one (es_ret (ps_ret (ev_andV (pe_and (ev_call ((ok_is_integer KX G c).pe (hr.mono (by decide)) (by rfl) tk (ea_cons (ev_var (pv 0)) ea_nil'))) (pe_one (ev_chain (vo_cmpI _) (vo_cmpI _) (pe_chain op_le op_lt (ev_int pe_int) (ev_var (pv 0)) (ev_var (pv 1))))))))))
theorem sc_taken_table : FnScope ["table", "found", "row", "item"] ["table"] (defScope (topS 10)) := ⟨rfl, rfl, rfl, by decide +kernel, rfl, by decide +kernel, by decide +kernel⟩
theorem ok_taken_table (KX : K.In h) (G : h.Ns mainGlobals mg) (c : Says fa fn ex K) : Fk P w K mg base "taken_table" 3 (He.fAd K ("taken_table", none)) ["table"] (spD ⟨K, mg⟩ d_taken_table) := by
  obtain ⟨fd, F⟩ := c.def_ 6 (d := dd_taken_table) rfl
  have sc := sc_taken_table
  refine ⟨⟨fd, fn_data F sc (by decide) fun cdv A outer s H E hr tk po => ?_, F.bindsN (ps := ["table"]) fun _ _ _ _ _ _ us hl => match us, hl with | [_], _ => rfl⟩, He.glo_ok KX G (c.fact 19 (f := .glo "taken_table") rfl), F.kp⟩
  exact (ess_cons (es_if (ps_if (PW.pt (et_or (pw_or (et_not (pt_not (et_tst (pt_val (ev_isi2 (by decide) (by decide) (pe_callB call_isiT (by rfl) (T_free_isinstance KX G c) (by decide +kernel) (pa_cons (ev_var (pv 0)) (pa_cons (pe_tup (pa_cons (pe_bltn (by rfl) (T_free_list KX G c) (by decide +kernel) rfl) (pa_cons (pe_bltn (by rfl) (T_free_tuple KX G c) (by decide +kernel) rfl) pa_nil))) pa_nil)))))))) (pw_or1 (et2 vo_eq (pt_cmpR (op_eqD (room_u4 hr)) (evc1n vo_len (pe_callB call_lenD (by rfl) (T_free_len KX G c) (by decide +kernel) (pa_cons (pv 0) pa_nil))) (ev_int pe_int) (nomark _))))))) (ess_one es_never) ess_nil))
    (ess_cons (es_own (ps_set (i := 1) sc.nd rfl (by first | exact Or.inl rfl | exact Or.inr rfl) (evN_lst (pe_lst ea_nil'))))
    (ess_cons (es_for (ps_for po rfl (ei_any (pi_any (ev_var (pv 0)))) (eg_nm (pg_name (i := 2) sc.nd rfl (by first | exact .inl rfl | exact .inr rfl))) (ess_cons (es_if (ps_if (PW.pt (et_or (pw_or (et_not (pt_not (et_tst (pt_val (ev_isi2 (by decide) (by decide) (pe_callB call_isiT (by rfl) (T_free_isinstance KX G c) (by decide +kernel) (pa_cons (ev_var (pv 2)) (pa_cons (pe_tup (pa_cons (pe_bltn (by rfl) (T_free_list KX G c) (by decide +kernel) rfl) (pa_cons (pe_bltn (by rfl) (T_free_tuple KX G c) (by decide +kernel) rfl) pa_nil))) pa_nil)))))))) (pw_or1 (et2 vo_ne (pt_cmpR (op_neD (room_u4 hr)) (evc1n vo_len (pe_callB call_lenD (by rfl) (T_free_len KX G c) (by decide +kernel) (pa_cons (pv 2) pa_nil))) (evc1n vo_len (pe_callB call_lenD (by rfl) (T_free_len KX G c) (by decide +kernel) (pa_cons (pv 0) pa_nil))) (nomark _))))))) (ess_one es_never) ess_nil))
    (ess_cons (es_for (ps_for po rfl (ei_any (pi_any (ev_var (pv 2)))) (eg_nm (pg_name (i := 3) sc.nd rfl (by first | exact .inl rfl | exact .inr rfl))) (ess_one (es_if (ps_if (et_not (pt_not (et_tst (pt_val (ev_call ((ok_is_item KX G c).pe (hr.mono (by decide)) (by rfl) tk (ea_cons (ev_var (pv 3)) (ea_cons (evc1n vo_len (pe_callB call_lenD (by rfl) (T_free_len KX G c) (by decide +kernel) (pa_cons (pv 0) pa_nil))) ea_nil')))))))) (ess_one es_never) ess_nil)))))
    (ess_one (es_expr (ps_expr (ev_append (pe_bm PySem.F.plainAttrs_list PySem.F.slot_list_append PySem.F.type_list_append mt_append (pv 1) (pa_cons (evc1n vo_tuple (pe_callTy call_tuple_of (by rfl) (T_free_tuple KX G c) (by decide +kernel) (pa_cons (pv 2) pa_nil))) pa_nil))))))))))
    (ess_one (es_ret (ps_ret (evc1n vo_tuple (pe_callTy call_tuple_of (by rfl) (T_free_tuple KX G c) (by decide +kernel) (pa_cons (pv 1) pa_nil)))))))))
theorem sc_is_associative : FnScope ["table", "row", "y", "z", "item"] ["table"] (defScope (topS 11)) := ⟨rfl, rfl, rfl, by decide +kernel, rfl, by decide +kernel, by decide +kernel⟩
theorem ok_is_associative (KX : K.In h) (G : h.Ns mainGlobals mg) (c : Says fa fn ex K) : Fk P w K mg base "is_associative" 1 (He.fAd K ("is_associative", none)) ["table"] (spD ⟨K, mg⟩ d_is_associative) := by
  obtain ⟨fd, F⟩ := c.def_ 7 (d := dd_is_associative) rfl
  have sc := sc_is_associative
  refine ⟨⟨fd, fn_data F sc (by decide) fun cdv A outer s H E hr tk po => ?_, F.bindsN (ps := ["table"]) fun _ _ _ _ _ _ us hl => match us, hl with | [_], _ => rfl⟩, He.glo_ok KX G (c.fact 20 (f := .glo "is_associative") rfl), F.kp⟩
  exact (ess_cons (es_for (ps_for po rfl (ei_any (pi_any (ev_var (pv 0)))) (eg_nm (pg_name (i := 1) sc.nd rfl (by first | exact .inl rfl | exact .inr rfl))) (ess_one (es_for (ps_for po rfl (ei_rng (pi_range1 (by rfl) (T_free_range KX G c) (pa_cons (evc1n vo_len (pe_callB call_lenD (by rfl) (T_free_len KX G c) (by decide +kernel) (pa_cons (pv 0) pa_nil))) pa_nil))) (eg_nm (pg_name (i := 2) sc.nd rfl (by first | exact .inl rfl | exact .inr rfl))) (ess_one (es_if (ps_if (et2 vo_ne (pt_cmpR (op_neD (room_u4 hr)) (ev_frz (ev_comp (pe_lc (own := [("z", 3)]) rfl sc.nd (ei_rng (pi_range1 (by rfl) (T_free_range KX G c) (pa_cons (evc1n vo_len (pe_callB call_lenD (by rfl) (T_free_len KX G c) (by decide +kernel) (pa_cons (pv 0) pa_nil))) pa_nil))) (blkOk_by (own := [("z", 3)]) (by first | decide +kernel | rfl)) (fun _ _ _ _ _ => (eg_nm (pg_name (i := 3) sc.nd rfl (by first | exact .inl rfl | exact .inr rfl)))) (fun _ _ _ _ _ => ets_nil) (fun _ _ _ _ _ => (ev2 vo_ix (pe_ix ix_seq (ev2n vo_ix (pe_ix ix_seq (pv 0) (ev2n vo_ix (pe_ix ix_seq (pv 1) (ev_var (pv 2)) (fun _ _ => rfl))) (fun _ _ => rfl))) (ev_var (pv 3)) (fun _ _ => rfl))))))) (ev_frz (ev_comp (pe_lc (own := [("item", 4)]) rfl sc.nd (ei_any (pi_any (ev2n vo_ix (pe_ix ix_seq (pv 0) (ev_var (pv 2)) (fun _ _ => rfl))))) (blkOk_by (own := [("item", 4)]) (by first | decide +kernel | rfl)) (fun _ _ _ _ _ => (eg_nm (pg_name (i := 4) sc.nd rfl (by first | exact .inl rfl | exact .inr rfl)))) (fun _ _ _ _ _ => ets_nil) (fun _ _ _ _ _ => (ev2n vo_ix (pe_ix ix_seq (pv 1) (ev_var (pv 4)) (fun _ _ => rfl))))))) (nomark _))) (ess_one (es_ret (ps_ret (ev_bl pe_bl)))) ess_nil))))))))
    (ess_one (es_ret (ps_ret (ev_bl pe_bl)))))
theorem sc_Semigroup___init__ : FnScope ["self", "table", "own"] ["self", "table"] (defScope (inClass (topS 12) 0)) := ⟨rfl, rfl, rfl, by decide +kernel, rfl, by decide +kernel, by decide +kernel⟩
theorem ok_Semigroup (KX : K.In h) (G : h.Ns mainGlobals mg) (c : Says fa fn ex K) : Kf P w K mg base "Semigroup" 4 (He.ga K "Semigroup") (He.fAd K ("Semigroup", some "__init__")) ["self", "table"] (spI ⟨K, mg⟩ "Semigroup" d_Semigroup___init__) := by
  obtain ⟨fd, F⟩ := c.def_ 8 (d := dd_Semigroup___init__) rfl
  have sc := sc_Semigroup___init__
  refine ⟨⟨fd, fn_init F sc (by decide) fun cdv A outer s H E hr tk po => ?_, F.bindsN (ps := ["self", "table"]) fun _ _ _ _ _ _ us hl => match us, hl with | [_, _], _ => rfl⟩, He.mkr_ok (c.fact 21 (f := .mkr "Semigroup") rfl), He.glo_ok KX G (c.fact 9 (f := .glo "Semigroup") rfl)⟩
  exact (ess_cons (es_set (ps_set (i := 2) sc.nd rfl (by first | exact Or.inl rfl | exact Or.inr rfl) (ev_call ((ok_taken_table KX G c).pe (hr.mono (by decide)) (by rfl) tk (ea_cons (ev_var (pv 1)) ea_nil')))))
    (ess_cons (es_if (ps_if (et2 (vo_cmpI _) (pt_cmpR op_gt (evc1n vo_len (pe_callB call_lenD (by rfl) (T_free_len KX G c) (by decide +kernel) (pa_cons (pv 2) pa_nil))) (ev_gint (T_int_MOST KX G c) (by rfl)) (nomark _))) (ess_one es_never) ess_nil))
    (ess_cons (es_if (ps_if (et_not (pt_not (et_tst (pt_val (ev_call ((ok_is_associative KX G c).pe (hr.mono (by decide)) (by rfl) tk (ea_cons (ev_var (pv 2)) ea_nil'))))))) (ess_one es_never) ess_nil))
    (ess_cons (es_self (T_cls_Semigroup KX G c) (T_noat_Semigroup_n KX G c) (ps_fld (pv 0) (evc1n vo_len (pe_callB call_lenD (by rfl) (T_free_len KX G c) (by decide +kernel) (pa_cons (pv 2) pa_nil))) rfl))
    (ess_one (es_self (T_cls_Semigroup KX G c) (T_noat_Semigroup_table KX G c) (ps_fld (pv 0) (ev_var (pv 2)) rfl)))))))
theorem sc_monogenic : FnScope ["index", "period", "n", "rows", "x", "exponents", "y", "k"] ["index", "period"] (defScope (topS 17)) := ⟨rfl, rfl, rfl, by decide +kernel, rfl, by decide +kernel, by decide +kernel⟩
theorem ok_monogenic (KX : K.In h) (G : h.Ns mainGlobals mg) (c : Says fa fn ex K) : Fk P w K mg base "monogenic" 6 (He.fAd K ("monogenic", none)) ["index", "period"] (spD ⟨K, mg⟩ d_monogenic) := by
  obtain ⟨fd, F⟩ := c.def_ 9 (d := dd_monogenic) rfl
  have sc := sc_monogenic
  refine ⟨⟨fd, fn_data F sc (by decide) fun cdv A outer s H E hr tk po => ?_, F.bindsN (ps := ["index", "period"]) fun _ _ _ _ _ _ us hl => match us, hl with | [_, _], _ => rfl⟩, He.glo_ok KX G (c.fact 22 (f := .glo "monogenic") rfl), F.kp⟩
  exact (ess_cons (es_expr (ps_expr (ev_call ((ok_check_counts KX G c).pe (hr.mono (by decide)) (by rfl) tk (ea_cons (ev_var (pv 0)) (ea_cons (ev_var (pv 1)) ea_nil'))))))
    (ess_cons (es_set (ps_set (i := 2) sc.nd rfl (by first | exact Or.inl rfl | exact Or.inr rfl) (ev2 vo_sub (pe_op op_sub (ev2 vo_add (pe_op op_addD (ev_var (pv 0)) (ev_var (pv 1)))) (ev_int pe_int)))))
    (ess_cons (es_expr (ps_expr (ev_call ((ok_check_size KX G c).pe (hr.mono (by decide)) (by rfl) tk (ea_cons (ev_var (pv 2)) ea_nil')))))
    (ess_cons (es_own (ps_set (i := 3) sc.nd rfl (by first | exact Or.inl rfl | exact Or.inr rfl) (evN_lst (pe_lst ea_nil'))))
    (ess_cons (es_for (ps_for po rfl (ei_rng (pi_range1 (by rfl) (T_free_range KX G c) (pa_cons (ev_var (pv 2)) pa_nil))) (eg_nm (pg_name (i := 4) sc.nd rfl (by first | exact .inl rfl | exact .inr rfl))) (ess_cons (es_ownLc (ps_setLc (i := 5) (own := [("y", 6)]) rfl sc.nd rfl rfl (sw_true rfl rfl rfl (by decide +kernel)) (ei_rng (pi_range1 (by rfl) (T_free_range KX G c) (pa_cons (ev_var (pv 2)) pa_nil))) (blkOk_by (own := [("y", 6)]) (by first | decide +kernel | rfl)) (fun _ _ _ _ _ => (eg_nm (pg_name (i := 6) sc.nd rfl (by first | exact .inl rfl | exact .inr rfl)))) (fun _ _ _ _ _ => ets_nil) (fun _ _ _ _ _ => (ev2 vo_add (pe_op op_addD (ev2 vo_add (pe_op op_addD (ev_var (pv 4)) (ev_var (pv 6)))) (ev_int pe_int))))))
    (ess_one (es_expr (ps_expr (ev_append (pe_bm PySem.F.plainAttrs_list PySem.F.slot_list_append PySem.F.type_list_append mt_append (pv 3) (pa_cons (ev_frz (ev_comp (pe_lc (own := [("k", 7)]) rfl sc.nd (ei_any (pi_any (ev_var (pv 5)))) (blkOk_by (own := [("k", 7)]) (by first | decide +kernel | rfl)) (fun _ _ _ _ _ => (eg_nm (pg_name (i := 7) sc.nd rfl (by first | exact .inl rfl | exact .inr rfl)))) (fun _ _ _ _ _ => ets_nil) (fun _ _ _ _ _ => (ev2 vo_sub (pe_op op_sub (ev_ifE (pe_ifExp (et2 (vo_cmpI _) (pt_cmpR op_le (ev_var (pv 7)) (ev_var (pv 2)) (nomark _))) (ev_var (pv 7)) (ev2 vo_add (pe_op op_addD (ev_var (pv 0)) (ev2 vo_mod (pe_op op_modN (ev2 vo_sub (pe_op op_sub (ev_var (pv 7)) (ev_var (pv 0)))) (ev_var (pv 1)))))))) (ev_int pe_int))))))) pa_nil)))))))))
    (ess_one (es_ret (ps_ret (ev_make (T_cls_Semigroup KX G c).gC ((ok_Semigroup KX G c).pe (hr.mono (by decide)) (by rfl) tk (ea_cons (ev_var (pv 3)) ea_nil')))))))))))
theorem sc_Semigroup_power : FnScope ["self", "x", "k", "found", "_"] ["self", "x", "k"] (defScope (inClass (topS 12) 6)) := ⟨rfl, rfl, rfl, by decide +kernel, rfl, by decide +kernel, by decide +kernel⟩
theorem ok_Semigroup_power (KX : K.In h) (G : h.Ns mainGlobals mg) (c : Says fa fn ex K) : Mf P w K mg base (He.ga K "Semigroup") "power" 1 (He.fAd K ("Semigroup", some "power")) ["self", "x", "k"] (spD ⟨K, mg⟩ d_Semigroup_power) := by
  obtain ⟨fd, F⟩ := c.def_ 10 (d := dd_Semigroup_power) rfl
  have sc := sc_Semigroup_power
  refine ⟨⟨fd, fn_data F sc (by decide) fun cdv A outer s H E hr tk po => ?_, F.bindsN (ps := ["self", "x", "k"]) fun _ _ _ _ _ _ us hl => match us, hl with | [_, _, _], _ => rfl⟩, He.meth_ok (c.fact 23 (f := .meth "Semigroup" "power") rfl)⟩
  exact (ess_cons (es_set (ps_set (i := 3) sc.nd rfl (by first | exact Or.inl rfl | exact Or.inr rfl) (ev_var (pv 1))))
    (ess_cons (es_for (ps_for po rfl (ei_rng (pi_range1 (by rfl) (T_free_range KX G c) (pa_cons (ev2 vo_sub (pe_op op_sub (ev_var (pv 2)) (ev_int pe_int))) pa_nil))) (eg_nm (pg_name (i := 4) sc.nd rfl (by first | exact .inl rfl | exact .inr rfl))) (ess_one (es_set (ps_set (i := 3) sc.nd rfl (by first | exact Or.inl rfl | exact Or.inr rfl) (ev2 vo_ix (pe_ix ix_seq (ev2 vo_ix (pe_ix ix_seq (ev_fld (T_cls_Semigroup KX G c) (T_noat_Semigroup_table KX G c) (pe_fld (ev_var (pv 0)) rfl)) (ev_var (pv 3)) (fun _ _ => rfl))) (ev_var (pv 1)) (fun _ _ => rfl))))))))
    (ess_one (es_ret (ps_ret (ev_var (pv 3)))))))
theorem sc__law_take : FnScope ["_law_state_here", "_law_m", "_law_value"] ["_law_state_here", "_law_m"] (defScope (topS 20)) := ⟨rfl, rfl, rfl, by decide +kernel, rfl, by decide +kernel, by decide +kernel⟩
theorem ok__law_take (KX : K.In h) (G : h.Ns mainGlobals mg) (c : Says fa fn ex K) : Fk P w K mg base "_law_take" 1 (He.fAd K ("_law_take", none)) ["_law_state_here", "_law_m"] (spR ⟨K, mg⟩ d__law_take) := by
  obtain ⟨fd, F⟩ := c.def_ 11 (d := dd__law_take) rfl
  have sc := sc__law_take
  refine ⟨⟨fd, fn_dataR F sc (by decide) fun cdv A outer s H E hr tk po => ?_, F.bindsN (ps := ["_law_state_here", "_law_m"]) fun _ _ _ _ _ _ us hl => match us, hl with | [_, _], _ => rfl⟩, He.glo_ok KX G (c.fact 24 (f := .glo "_law_take") rfl), F.kp⟩
  exact (ess_cons (es_if (ps_if (et2 (vo_cmpI _) (pt_cmpR op_gt (ev2n vo_ix (pe_ix ix_seq (pv 0) (ev_int pe_int) (fun _ _ => rfl))) (ev_int pe_int) (nomark _))) (ess_cons (es_set (ps_set (i := 2) sc.nd rfl (by first | exact Or.inl rfl | exact Or.inr rfl) (ev2 vo_mod (pe_op op_modN (evc1 vo_int (pe_callTy call_int1 (by rfl) (T_free_int KX G c) (by decide +kernel) (pa_cons (ev2n vo_ix (pe_ix ix_seq (pv 0) (ev_int pe_int) (fun _ _ => rfl))) pa_nil))) (ev_var (pv 1))))))
    (ess_cons (es_store (ps_asg (ev2 vo_div (pe_op op_fdivN (ev2n vo_ix (pe_ix ix_seq (pv 0) (ev_int pe_int) (fun _ _ => rfl))) (ev_var (pv 1)))) (pg_sub (pv 0) (ev_int pe_int) set_list)))
    (ess_one (es_ret (ps_ret (ev_var (pv 2))))))) ess_nil))
    (ess_cons (es_store (ps_asg (ev2 vo_mod (pe_op op_modN (evc1 vo_int (pe_callTy call_int1 (by rfl) (T_free_int KX G c) (by decide +kernel) (pa_cons (ev2 vo_add (pe_op op_addD (ev2 vo_mul (pe_op op_mulD (ev2n vo_ix (pe_ix ix_seq (pv 0) (ev_int pe_int) (fun _ _ => rfl))) (ev_int pe_int))) (ev_int pe_int))) pa_nil))) (ev_int pe_int))) (pg_sub (pv 0) (ev_int pe_int) set_list)))
    (ess_one (es_ret (ps_ret (ev2 vo_mod (pe_op op_modN (evc1 vo_int (pe_callTy call_int1 (by rfl) (T_free_int KX G c) (by decide +kernel) (pa_cons (ev2 vo_div (pe_op op_fdivN (ev2n vo_ix (pe_ix ix_seq (pv 0) (ev_int pe_int) (fun _ _ => rfl))) (ev_int pe_int))) pa_nil))) (ev_var (pv 1)))))))))
theorem sc_Semigroup_multiply : FnScope ["self", "x", "y"] ["self", "x", "y"] (defScope (inClass (topS 12) 4)) := ⟨rfl, rfl, rfl, by decide +kernel, rfl, by decide +kernel, by decide +kernel⟩
theorem ok_Semigroup_multiply (KX : K.In h) (G : h.Ns mainGlobals mg) (c : Says fa fn ex K) : Mf P w K mg base (He.ga K "Semigroup") "multiply" 1 (He.fAd K ("Semigroup", some "multiply")) ["self", "x", "y"] (spD ⟨K, mg⟩ d_Semigroup_multiply) := by
  obtain ⟨fd, F⟩ := c.def_ 12 (d := dd_Semigroup_multiply) rfl
  have sc := sc_Semigroup_multiply
  refine ⟨⟨fd, fn_data F sc (by decide) fun cdv A outer s H E hr tk po => ?_, F.bindsN (ps := ["self", "x", "y"]) fun _ _ _ _ _ _ us hl => match us, hl with | [_, _, _], _ => rfl⟩, He.meth_ok (c.fact 25 (f := .meth "Semigroup" "multiply") rfl)⟩
  exact (ess_one (es_ret (ps_ret (ev2 vo_ix (pe_ix ix_seq (ev2 vo_ix (pe_ix ix_seq (ev_fld (T_cls_Semigroup KX G c) (T_noat_Semigroup_table KX G c) (pe_fld (ev_var (pv 0)) rfl)) (ev_var (pv 1)) (fun _ _ => rfl))) (ev_var (pv 2)) (fun _ _ => rfl))))))
theorem sc__law_walked : FnScope ["_law_index", "_law_period", "_law_exponent", "_law_k", "_law_turn"] ["_law_index", "_law_period", "_law_exponent"] (defScope (topS 21)) := ⟨rfl, rfl, rfl, by decide +kernel, rfl, by decide +kernel, by decide +kernel⟩
theorem ok__law_walked (KX : K.In h) (G : h.Ns mainGlobals mg) (c : Says fa fn ex K) : Fk P w K mg base "_law_walked" 1 (He.fAd K ("_law_walked", none)) ["_law_index", "_law_period", "_law_exponent"] (spD ⟨K, mg⟩ d__law_walked) := by
  obtain ⟨fd, F⟩ := c.def_ 13 (d := dd__law_walked) rfl
  have sc := sc__law_walked
  refine ⟨⟨fd, fn_data F sc (by decide) fun cdv A outer s H E hr tk po => ?_, F.bindsN (ps := ["_law_index", "_law_period", "_law_exponent"]) fun _ _ _ _ _ _ us hl => match us, hl with | [_, _, _], _ => rfl⟩, He.glo_ok KX G (c.fact 26 (f := .glo "_law_walked") rfl), F.kp⟩
  exact (ess_cons (es_set (ps_set (i := 3) sc.nd rfl (by first | exact Or.inl rfl | exact Or.inr rfl) (ev_int pe_int)))
    (ess_cons (es_for (ps_for po rfl (ei_rng (pi_range1 (by rfl) (T_free_range KX G c) (pa_cons (ev2 vo_sub (pe_op op_sub (ev_var (pv 2)) (ev_int pe_int))) pa_nil))) (eg_nm (pg_name (i := 4) sc.nd rfl (by first | exact .inl rfl | exact .inr rfl))) (ess_cons (es_set (ps_set (i := 3) sc.nd rfl (by first | exact Or.inl rfl | exact Or.inr rfl) (ev2 vo_add (pe_op op_addD (ev_var (pv 3)) (ev_int pe_int)))))
    (ess_one (es_if (ps_if (et2 vo_eq (pt_cmpR (op_eqD (room_u4 hr)) (ev_var (pv 3)) (ev2 vo_add (pe_op op_addD (ev_var (pv 0)) (ev_var (pv 1)))) (nomark _))) (ess_one (es_set (ps_set (i := 3) sc.nd rfl (by first | exact Or.inl rfl | exact Or.inr rfl) (ev_var (pv 0))))) ess_nil))))))
    (ess_one (es_ret (ps_ret (ev_var (pv 3)))))))
theorem sc_law : FnScope ["_law_script", "_law_state_here", "_law_index", "_law_period", "_law_s", "_law_n", "_law_x", "_law_y", "_law_k"] ["_law_script"] (defScope (topS 22)) := ⟨rfl, rfl, rfl, by decide +kernel, rfl, by decide +kernel, by decide +kernel⟩
theorem ok_law (KX : K.In h) (G : h.Ns mainGlobals mg) (c : Says fa fn ex K) : mg ("law" : Str) = some (.ref (He.fAd K ("law", none))) ∧ ∃ fd : FuncData, (∀ (s : Shared) (u : Value), BindsTo s fd ⟨[u], []⟩ [(("_law_script" : Str), u)]) ∧ ∀ base : Heap, FnOk P w K mg base (L2.CX P w) 7 (He.fAd K ("law", none)) fd ["_law_script"] (spD ⟨K, mg⟩ d_law) := by
  obtain ⟨fd, F⟩ := c.def_ 14 (d := dd_law) rfl
  have sc := sc_law
  have b := FunD.bindsA (ps := ["_law_script"]) F fun _ _ _ _ _ _ us hl => match us, hl with | [_], _ => rfl
  refine ⟨He.glo_ok KX G (c.fact 27 (f := .glo "law") rfl), fd, fun s u => b s [u] rfl, fun base => fn_data F sc (by decide) fun cdv A outer s H E hr tk po => ?_⟩
  exact (ess_cons (es_own (ps_set (i := 1) sc.nd rfl (by first | exact Or.inl rfl | exact Or.inr rfl) (ev_callO ((ok__law_state KX G c).pe (hr.mono (by decide)) (by rfl) tk (ea_cons (ev_var (pv 0)) ea_nil')))))
    (ess_cons (es_par (ps_par (i := 2) (j := 3) rfl sc.nd rfl rfl (by decide) rfl rfl (pa_cons (ev2 vo_add (pe_op op_addD (ev_int pe_int) (ev_callR (runR_nox _ _ _) ((ok__law_take KX G c).pe (hr.mono (by decide)) (by rfl) tk (pa_cons (pv 1) (ea_cons (ev_int pe_int) ea_nil')))))) (pa_cons (ev2 vo_add (pe_op op_addD (ev_int pe_int) (ev_callR (runR_nox _ _ _) ((ok__law_take KX G c).pe (hr.mono (by decide)) (by rfl) tk (pa_cons (pv 1) (ea_cons (ev_int pe_int) ea_nil')))))) pa_nil)) (by rfl)))
    (ess_cons (es_set (ps_set (i := 4) sc.nd rfl (by first | exact Or.inl rfl | exact Or.inr rfl) (ev_call ((ok_monogenic KX G c).pe (hr.mono (by decide)) (by rfl) tk (ea_cons (ev_var (pv 2)) (ea_cons (ev_var (pv 3)) ea_nil'))))))
    (ess_cons (es_set (ps_set (i := 5) sc.nd rfl (by first | exact Or.inl rfl | exact Or.inr rfl) (ev2 vo_sub (pe_op op_sub (ev2 vo_add (pe_op op_addD (ev_var (pv 2)) (ev_var (pv 3)))) (ev_int pe_int)))))
    (ess_cons (es_if (ps_if (PW.pt (et_or (pw_or (et_not (pt_not (et_tst (pt_val (ev_isC (T_isf_Semigroup KX G c) (pe_callB call_isi (by rfl) (T_free_isinstance KX G c) (by decide +kernel) (pa_cons (ev_var (pv 4)) (pa_cons (pe_glob (by rfl) (T_isf_Semigroup KX G c).gC rfl) pa_nil)))))))) (et_or (pw_or (et2 vo_ne (pt_cmpR (op_neD (room_u4 hr)) (ev_fld (T_cls_Semigroup KX G c) (T_noat_Semigroup_n KX G c) (pe_fld (ev_var (pv 4)) rfl)) (ev_var (pv 5)) (nomark _))) (pw_or1 (et2 vo_ne (pt_cmpR (op_neD (room_u4 hr)) (ev_frz (ev_comp (pe_lc (own := [("_law_k", 8)]) rfl sc.nd (ei_rng (pi_range1 (by rfl) (T_free_range KX G c) (pa_cons (ev_var (pv 5)) pa_nil))) (blkOk_by (own := [("_law_k", 8)]) (by first | decide +kernel | rfl)) (fun _ _ _ _ _ => (eg_nm (pg_name (i := 8) sc.nd rfl (by first | exact .inl rfl | exact .inr rfl)))) (fun _ _ _ _ _ => ets_nil) (fun _ _ _ _ _ => (ev_meth (T_cls_Semigroup KX G c) ((ok_Semigroup_power KX G c).pe (hr.mono (by decide)) (T_cls_Semigroup KX G c).cl (ev_var (pv 4)) (ea_cons (ev_int pe_int) (ea_cons (ev2 vo_add (pe_op op_addD (ev_var (pv 8)) (ev_int pe_int))) ea_nil')))))))) (ev_frz (evN_rg (pe_listRg rfl (by rfl) (T_free_list KX G c) (erg1 (prg_1 (by rfl) (T_free_range KX G c) (ev_var (pv 5))))))) (nomark _))))))))) (ess_one (es_ret (ps_ret (ev_bl pe_bl)))) ess_nil))
    (ess_cons (es_if (ps_if (et2 vo_ne (pt_cmpR (op_neD (room_u4 hr)) (ev_meth (T_cls_Semigroup KX G c) ((ok_Semigroup_power KX G c).pe (hr.mono (by decide)) (T_cls_Semigroup KX G c).cl (ev_var (pv 4)) (ea_cons (ev_int pe_int) (ea_cons (ev2 vo_add (pe_op op_addD (ev_var (pv 2)) (ev_var (pv 3)))) ea_nil')))) (ev2 vo_sub (pe_op op_sub (ev_var (pv 2)) (ev_int pe_int))) (nomark _))) (ess_one (es_ret (ps_ret (ev_bl pe_bl)))) ess_nil))
    (ess_cons (es_for (ps_for po rfl (ei_rng (pi_range1 (by rfl) (T_free_range KX G c) (pa_cons (ev_var (pv 5)) pa_nil))) (eg_nm (pg_name (i := 6) sc.nd rfl (by first | exact .inl rfl | exact .inr rfl))) (ess_one (es_for (ps_for po rfl (ei_rng (pi_range1 (by rfl) (T_free_range KX G c) (pa_cons (ev_var (pv 5)) pa_nil))) (eg_nm (pg_name (i := 7) sc.nd rfl (by first | exact .inl rfl | exact .inr rfl))) (ess_one (es_if (ps_if (et2 vo_ne (pt_cmpR (op_neD (room_u4 hr)) (ev_meth (T_cls_Semigroup KX G c) ((ok_Semigroup_multiply KX G c).pe (hr.mono (by decide)) (T_cls_Semigroup KX G c).cl (ev_var (pv 4)) (ea_cons (ev_var (pv 6)) (ea_cons (ev_var (pv 7)) ea_nil')))) (ev2 vo_sub (pe_op op_sub (ev_call ((ok__law_walked KX G c).pe (hr.mono (by decide)) (by rfl) tk (ea_cons (ev_var (pv 2)) (ea_cons (ev_var (pv 3)) (ea_cons (ev2 vo_add (pe_op op_addD (ev2 vo_add (pe_op op_addD (ev_var (pv 6)) (ev_var (pv 7)))) (ev_int pe_int))) ea_nil'))))) (ev_int pe_int))) (nomark _))) (ess_one (es_ret (ps_ret (ev_bl pe_bl)))) ess_nil))))))))
    (ess_one (es_ret (ps_ret (ev_bl pe_bl)))))))))))
end

abbrev R : PySem.W.OpenRow := PySem.W.OpenLaw.row PySem.Challenge.rw_reesblocks_k08_monogenic_semigroups
abbrev hk : PySem.W.Hook := hookB 5 fa fn ex
def ob (s : PySem.W.SharedT) : AlB := obsBG 5 fa fn ex (HandSHeadRun.getT s)
theorem ob_eq (s : PySem.W.SharedT) : ob s = hk.obs s.abs := obsBG_eq (HandSHeadRun.getT_eq s)
theorem run (w : World) : HandSHeadRun.RunEq R (PySem.W.view R.prog [22]) hk ob 4000 ["_wall", "Fault", "Malformed", "Refused", "is_integer", "MOST", "is_item", "taken_table", "is_associative", "Semigroup", "check_count", "check_size", "check_counts", "monogenic", "_law_state", "_law_take", "_law_walked"] w := by
  intro os
  kernel_rfl
end LAW

namespace LAW
open DL PySem
/-! ### the draws -/
def nextS (s t m : Int) : Int × Int × Int := if 0 < s then (s % m, s / m, t) else (((t * 48271 + 11) % 2147483647 / 7) % m, s, (t * 48271 + 11) % 2147483647)
structure Good (s t : Int) : Prop where
  s0 : 0 ≤ s
  t0 : 0 ≤ t
  t1 : t < 2147483647
theorem next_good {s t m : Int} (g : Good s t) (hm : 0 < m) : Good (nextS s t m).2.1 (nextS s t m).2.2 := by
  obtain ⟨h1, h2, h3⟩ := g
  unfold nextS
  split
  · exact ⟨Int.ediv_nonneg h1 (by omega), h2, h3⟩
  · exact ⟨h1, Int.emod_nonneg _ (by decide), Int.emod_lt_of_pos _ (by decide)⟩
theorem next_lt {s t m : Int} (hm : 0 < m) : 0 ≤ (nextS s t m).1 ∧ (nextS s t m).1 < m := by
  unfold nextS
  split
  · exact ⟨Int.emod_nonneg _ (by omega), Int.emod_lt_of_pos _ hm⟩
  · exact ⟨Int.emod_nonneg _ (by omega), Int.emod_lt_of_pos _ hm⟩
theorem take_eq {s t m : Int} (hm : 0 < m) (hm2 : m < 1073741824) : d__law_take [.int s, .int t] [.int m] = .ok (.int (nextS s t m).1, [.int (nextS s t m).2.1, .int (nextS s t m).2.2]) := by
  have hm0 : m ≠ 0 := by omega
  have hmN : m.natAbs < 1073741824 := by omega
  have e1 : ∀ x : Int, x.fmod m = x % m := fun x => Int.fmod_eq_emod_of_nonneg x (by omega)
  have e2 : ∀ x : Int, x.fdiv m = x / m := fun x => Int.fdiv_eq_ediv_of_nonneg x (by omega)
  have e3 : ∀ x : Int, x.fmod 2147483647 = x % 2147483647 := fun x => Int.fmod_eq_emod_of_nonneg x (by decide)
  have e4 : ∀ x : Int, x.fdiv 7 = x / 7 := fun x => Int.fdiv_eq_ediv_of_nonneg x (by decide)
  by_cases hs : 0 < s
  · simp [d__law_take, runR, b__law_take, k1__law_take, k2__law_take, L2.atI, L2.ixN, nextS, hs, hm0, hmN, e1, e2, smallI]
  · simp [d__law_take, runR, b__law_take, k1__law_take, k2__law_take, L2.atI, L2.ixN, nextS, hs, hm0, hmN, e1, e2, e3, e4, smallI]
/-! ### the state -/
theorem loop_state (d0 : D) : ∀ (l : List Int) (s t : Int) (x : Slot), Good s t → ∃ s' t' x', loop (.nm 3) l1__law_state (l.map D.int) [.sh d0, .sh (.int s), .sh (.int t), x] = .ok .nx [.sh d0, .sh (.int s'), .sh (.int t'), x'] ∧ Good s' t'
  | [], s, t, x, g => ⟨s, t, x, rfl, g⟩
  | c :: l, s, t, x, g => by
    have e3 : ∀ x : Int, x.fmod 2147483647 = x % 2147483647 := fun x => Int.fmod_eq_emod_of_nonneg x (by decide)
    have g2 : Good (s * 1000003 + (if c < 0 then -c else c)) ((t * 48271 + c) % 2147483647) := ⟨by have := g.s0; split <;> omega, Int.emod_nonneg _ (by decide), Int.emod_lt_of_pos _ (by decide)⟩
    obtain ⟨s', t', x', h1, h2⟩ := loop_state d0 l _ _ (.sh (.int c)) g2
    refine ⟨s', t', x', ?_, h2⟩
    rw [← h1]
    simp [loop, l1__law_state, smallI, e3]
theorem state_eq (ns : List Int) : ∃ s t, d__law_state [.scr ns] = some [.int s, .int t] ∧ Good s t := by
  obtain ⟨l, hl⟩ : ∃ l : List Int, DL.cutD (ns.map D.int) none (some 63) = l.map D.int := ⟨DL.cutD ns none (some 63), by unfold DL.cutD; simp [List.map_take, List.map_drop]⟩
  obtain ⟨s', t', x', h1, h2⟩ := loop_state (.scr ns) l 0 1 .no ⟨by decide, by decide, by decide⟩
  refine ⟨s', t', ?_, h2⟩
  simp [d__law_state, runO, b__law_state, hl, h1, r__law_state, big]
/-- the body ends with True -/
def yes (r : Res Fl) : Bool := match r with
  | .ok (.ret (.bl true)) _ => true
  | _ => false
theorem yes_of {m n : Nat} {f : DS} {ds : List D} (hl : ds.length = m) (h : yes (f (ds.map Slot.sh ++ List.replicate (n - ds.length) .no)) = true) : runF m n f ds = .ok (.bl true) := by
  unfold runF
  rw [if_pos hl]
  revert h
  cases f (ds.map Slot.sh ++ List.replicate (n - ds.length) .no) with
  | ok fl st =>
    cases fl with
    | ret d =>
      cases d with
      | bl b => cases b <;> intro h <;> first | rfl | cases h
      | _ => intro h; cases h
    | _ => intro h; cases h
  | exn c fs st => intro h; cases h
  | stuck => intro h; cases h
end LAW

namespace LAW
open DL PySem
theorem cases6 {P : Int → Prop} {x : Int} (h0 : 0 ≤ x) (h1 : x < 6) (a0 : P 0) (a1 : P 1) (a2 : P 2) (a3 : P 3) (a4 : P 4) (a5 : P 5) : P x := by
  have : x = 0 ∨ x = 1 ∨ x = 2 ∨ x = 3 ∨ x = 4 ∨ x = 5 := by omega
  rcases this with rfl | rfl | rfl | rfl | rfl | rfl <;> assumption
/-- the rest of the law for an index and a period -/
def Rest (d : D) (s t x y : Int) : Prop := yes (k2_law [.sh d, .ow [.int s, .int t], .sh (.int (1 + x)), .sh (.int (1 + y)), .no, .no, .no, .no, .no]) = true
theorem c00 (d : D) (s t : Int) : Rest d s t 0 0 := by unfold Rest; kernel_rfl
theorem c01 (d : D) (s t : Int) : Rest d s t 0 1 := by unfold Rest; kernel_rfl
theorem c02 (d : D) (s t : Int) : Rest d s t 0 2 := by unfold Rest; kernel_rfl
theorem c03 (d : D) (s t : Int) : Rest d s t 0 3 := by unfold Rest; kernel_rfl
theorem c04 (d : D) (s t : Int) : Rest d s t 0 4 := by unfold Rest; kernel_rfl
theorem c05 (d : D) (s t : Int) : Rest d s t 0 5 := by unfold Rest; kernel_rfl
theorem c10 (d : D) (s t : Int) : Rest d s t 1 0 := by unfold Rest; kernel_rfl
theorem c11 (d : D) (s t : Int) : Rest d s t 1 1 := by unfold Rest; kernel_rfl
theorem c12 (d : D) (s t : Int) : Rest d s t 1 2 := by unfold Rest; kernel_rfl
theorem c13 (d : D) (s t : Int) : Rest d s t 1 3 := by unfold Rest; kernel_rfl
theorem c14 (d : D) (s t : Int) : Rest d s t 1 4 := by unfold Rest; kernel_rfl
theorem c15 (d : D) (s t : Int) : Rest d s t 1 5 := by unfold Rest; kernel_rfl
theorem c20 (d : D) (s t : Int) : Rest d s t 2 0 := by unfold Rest; kernel_rfl
theorem c21 (d : D) (s t : Int) : Rest d s t 2 1 := by unfold Rest; kernel_rfl
theorem c22 (d : D) (s t : Int) : Rest d s t 2 2 := by unfold Rest; kernel_rfl
theorem c23 (d : D) (s t : Int) : Rest d s t 2 3 := by unfold Rest; kernel_rfl
theorem c24 (d : D) (s t : Int) : Rest d s t 2 4 := by unfold Rest; kernel_rfl
theorem c25 (d : D) (s t : Int) : Rest d s t 2 5 := by unfold Rest; kernel_rfl
theorem c30 (d : D) (s t : Int) : Rest d s t 3 0 := by unfold Rest; kernel_rfl
theorem c31 (d : D) (s t : Int) : Rest d s t 3 1 := by unfold Rest; kernel_rfl
theorem c32 (d : D) (s t : Int) : Rest d s t 3 2 := by unfold Rest; kernel_rfl
theorem c33 (d : D) (s t : Int) : Rest d s t 3 3 := by unfold Rest; kernel_rfl
theorem c34 (d : D) (s t : Int) : Rest d s t 3 4 := by unfold Rest; kernel_rfl
theorem c35 (d : D) (s t : Int) : Rest d s t 3 5 := by unfold Rest; kernel_rfl
theorem c40 (d : D) (s t : Int) : Rest d s t 4 0 := by unfold Rest; kernel_rfl
theorem c41 (d : D) (s t : Int) : Rest d s t 4 1 := by unfold Rest; kernel_rfl
theorem c42 (d : D) (s t : Int) : Rest d s t 4 2 := by unfold Rest; kernel_rfl
theorem c43 (d : D) (s t : Int) : Rest d s t 4 3 := by unfold Rest; kernel_rfl
theorem c44 (d : D) (s t : Int) : Rest d s t 4 4 := by unfold Rest; kernel_rfl
theorem c45 (d : D) (s t : Int) : Rest d s t 4 5 := by unfold Rest; kernel_rfl
theorem c50 (d : D) (s t : Int) : Rest d s t 5 0 := by unfold Rest; kernel_rfl
theorem c51 (d : D) (s t : Int) : Rest d s t 5 1 := by unfold Rest; kernel_rfl
theorem c52 (d : D) (s t : Int) : Rest d s t 5 2 := by unfold Rest; kernel_rfl
theorem c53 (d : D) (s t : Int) : Rest d s t 5 3 := by unfold Rest; kernel_rfl
theorem c54 (d : D) (s t : Int) : Rest d s t 5 4 := by unfold Rest; kernel_rfl
theorem c55 (d : D) (s t : Int) : Rest d s t 5 5 := by unfold Rest; kernel_rfl
theorem all36 (d : D) (s t : Int) {x y : Int} (hx0 : 0 ≤ x) (hx : x < 6) (hy0 : 0 ≤ y) (hy : y < 6) : Rest d s t x y := by
  refine cases6 (P := fun x => Rest d s t x y) hx0 hx ?_ ?_ ?_ ?_ ?_ ?_
  · exact cases6 (P := fun y => Rest d s t 0 y) hy0 hy (c00 d s t) (c01 d s t) (c02 d s t) (c03 d s t) (c04 d s t) (c05 d s t)
  · exact cases6 (P := fun y => Rest d s t 1 y) hy0 hy (c10 d s t) (c11 d s t) (c12 d s t) (c13 d s t) (c14 d s t) (c15 d s t)
  · exact cases6 (P := fun y => Rest d s t 2 y) hy0 hy (c20 d s t) (c21 d s t) (c22 d s t) (c23 d s t) (c24 d s t) (c25 d s t)
  · exact cases6 (P := fun y => Rest d s t 3 y) hy0 hy (c30 d s t) (c31 d s t) (c32 d s t) (c33 d s t) (c34 d s t) (c35 d s t)
  · exact cases6 (P := fun y => Rest d s t 4 y) hy0 hy (c40 d s t) (c41 d s t) (c42 d s t) (c43 d s t) (c44 d s t) (c45 d s t)
  · exact cases6 (P := fun y => Rest d s t 5 y) hy0 hy (c50 d s t) (c51 d s t) (c52 d s t) (c53 d s t) (c54 d s t) (c55 d s t)
theorem math (ns : List Int) : runF 1 9 b_law [.scr ns] = .ok (.bl true) := by
  obtain ⟨s, t, hst, g⟩ := state_eq ns
  refine yes_of rfl ?_
  have h1 := next_lt (s := s) (t := t) (m := 6) (by decide)
  have h2 := next_lt (s := (nextS s t 6).2.1) (t := (nextS s t 6).2.2) (m := 6) (by decide)
  simp [b_law, k1_law, hst, take_eq]
  exact all36 _ _ _ h1.1 h1.2 h2.1 h2.2
end LAW

open PySem PySem.W PySem.Calls PyProof.Rows
set_option maxRecDepth 100000 in
set_option maxHeartbeats 8000000 in
theorem PySem.Challenge.cw_reesblocks_k08_monogenic_semigroups_holds : PySem.Challenge.rw_reesblocks_k08_monogenic_semigroups.Holds := by
  w_on; o_law
  refine HandSHeadRun.head_any (r := OpenLaw.row PySem.Challenge.rw_reesblocks_k08_monogenic_semigroups) (q := view (OpenLaw.row PySem.Challenge.rw_reesblocks_k08_monogenic_semigroups).prog [22]) (H := LAW.hk) (ob := LAW.ob) (M := 4000) (loose := ["_wall", "Fault", "Malformed", "Refused", "is_integer", "MOST", "is_item", "taken_table", "is_associative", "Semigroup", "check_count", "check_size", "check_counts", "monogenic", "_law_state", "_law_take", "_law_walked"]) (d := HandSHeadRun.topDef (OpenLaw.row PySem.Challenge.rw_reesblocks_k08_monogenic_semigroups).prog 22) (kwd := []) LAW.ob_eq
    (by kernel_rfl) (fun s => by kernel_rfl) LAW.run (by kernel_rfl) (by kernel_rfl) (by kernel_rfl) (by rfl) (by first | assumption | decide +kernel) (by decide +kernel) ⟨rfl, rfl, rfl, rfl, rfl, by decide +kernel⟩ ?hw ?hc
  case hw => w_witness2
  case hc => exact DL.law_end (l := PySem.Challenge.rw_reesblocks_k08_monogenic_semigroups) (k := 7) (by rfl) (by kernel_rfl) ⟨rfl, by decide, by decide⟩ (by kernel_rfl) (fun w K mg h KX G c => LAW.ok_law KX G c) LAW.math

