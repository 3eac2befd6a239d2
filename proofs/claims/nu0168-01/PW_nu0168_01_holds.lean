import PyProof.Rows.All
import Wide.All
import OpenK.AllK
import KE.KDictSum
import Wide.FinOn
import PySem.Challenge.RW_nu0168_01
open PySem PySem.W PyProof.Rows PySem.Calls
set_option Elab.async false
set_option maxRecDepth 100000
set_option maxHeartbeats 4000000
set_option linter.unusedVariables false
set_option linter.unusedSimpArgs false
set_option genSizeOf false
set_option genSizeOfSpec false
set_option genInjectivity false
noncomputable section
namespace Mine
/-! ## Runs that end without a raise: what they give, over heaps alone -/
noncomputable def Same (s s' : Shared) : Prop := s'.gens = s.gens ∧ s'.os = s.os
theorem Same.refl (s : Shared) : Same s s := ⟨rfl, rfl⟩
theorem Same.trans {a b c : Shared} (x : Same a b) (y : Same b c) : Same a c := ⟨y.1.trans x.1, y.2.trans x.2⟩
theorem Same.mk' (s : Shared) (h : Heap) (t : Nat) : Same s { s with heap := h, toks := t } := ⟨rfl, rfl⟩
section
variable {prog : Program} {w : World} {A : Around}
noncomputable def Ev (prog : Program) (w : World) (A : Around) {α : Type} (t : Sem α) (h : Heap) (P : α → Heap → Prop) : Prop :=
  ∀ (s : Shared) (E : Value → Shared → Prop), s.heap = h → wpAny (model prog w) A t (fun a s' => Same s s' ∧ P a s'.heap) E s
noncomputable def EvC (prog : Program) (w : World) (A : Around) (c : Code) (h : Heap) (P : Flow → Heap → Prop) : Prop :=
  ∀ (s : Shared), s.heap = h → codeAny (model prog w) A c (fun r s' => ∃ f, r = .ok f ∧ Same s s' ∧ P f s'.heap) s
theorem Ev.mono {α : Type} {t : Sem α} {h : Heap} {P Q : α → Heap → Prop} (x : Ev prog w A t h P) (f : ∀ a h', P a h' → Q a h') : Ev prog w A t h Q :=
  fun s E hs => wpAny_mono (x s E hs) (fun a s' y => ⟨y.1, f _ _ y.2⟩) fun _ _ e => e
theorem EvC.mono {c : Code} {h : Heap} {P Q : Flow → Heap → Prop} (x : EvC prog w A c h P) (f : ∀ a h', P a h' → Q a h') : EvC prog w A c h Q :=
  fun s hs => codeAny_mono (x s hs) fun r s' ⟨fl, e, y, z⟩ => ⟨fl, e, y, f _ _ z⟩
theorem Ev.pure {α : Type} {a : α} {h : Heap} {P : α → Heap → Prop} (x : P a h) : Ev prog w A (Pure.pure a : Sem α) h P :=
  fun s E hs => wpAny_pure ⟨Same.refl s, by rw [hs]; exact x⟩
/-- how a run is used inside a longer one -/
theorem Ev.use {α : Type} {t : Sem α} {h : Heap} {P : α → Heap → Prop} (x : Ev prog w A t h P) {s₀ s : Shared} {E : Value → Shared → Prop} {Q : α → Shared → Prop}
    (hs : s.heap = h) (h0 : Same s₀ s) (f : ∀ a s', Same s₀ s' → P a s'.heap → Q a s') : wpAny (model prog w) A t Q E s :=
  wpAny_mono (x s E hs) (fun a s' y => f a s' (h0.trans y.1) y.2) fun _ _ e => e
theorem Ev.bind {α β : Type} {t : Sem α} {f : α → Sem β} {h : Heap} {P : β → Heap → Prop} (x : Ev prog w A t h (fun a h' => Ev prog w A (f a) h' P)) : Ev prog w A (t >>= f) h P :=
  fun s E hs => wpAny_bind (x.use hs (Same.refl s) fun _ _ h1 y => y.use rfl h1 fun _ _ h2 z => ⟨h2, z⟩)
theorem Ev.of_eq {α : Type} {t t' : Sem α} {h : Heap} {P : α → Heap → Prop} (e : t = t') (x : Ev prog w A t' h P) : Ev prog w A t h P := e ▸ x
theorem Ev.holding {α : Type} {vs : List Value} {t : Sem α} {h : Heap} {P : α → Heap → Prop} (x : Ev prog w A t h P) : Ev prog w A (holding vs t) h P :=
  fun s E hs => wpAny_holding (x s E hs)
theorem Ev.standAt {pos : Pos} {h : Heap} {P : Unit → Heap → Prop} (x : P () h) : Ev prog w A (standAt pos) h P := fun s E hs => wpAny_standAt ⟨Same.refl s, by rw [hs]; exact x⟩
theorem Ev.looks {α : Type} {t : Sem α} {a : α} {h : Heap} {P : α → Heap → Prop} (L : Looks (model prog w) h t a) (x : P a h) : Ev prog w A t h P :=
  fun s E hs => L A _ E s (fun b o e => by rw [hs]; exact e) ⟨Same.refl s, by rw [hs]; exact x⟩
/-! ## statements -/
variable {env : Env} {h : Heap}
theorem ev_nil {P : Flow → Heap → Prop} (x : P .next h) : Ev prog w A (execs [] env) h P := fun s E hs => wpAny_execs_nil ⟨Same.refl s, by rw [hs]; exact x⟩
noncomputable abbrev Seq (prog : Program) (w : World) (A : Around) (rest : List Stmt) (env : Env) (P : Flow → Heap → Prop) (f : Flow) (h' : Heap) : Prop := match f with
  | .next => Ev prog w A (execs rest env) h' P
  | f => P f h'
theorem ev_cons {st : Stmt} {rest : List Stmt} {P : Flow → Heap → Prop} (x : Ev prog w A (exec st env) h (Seq prog w A rest env P)) :
    Ev prog w A (execs (st :: rest) env) h P := fun s E hs => wpAny_execs_cons (x.use hs (Same.refl s) fun f s' h1 y => by
  cases f <;> first | exact ⟨h1, y⟩ | exact y.use rfl h1 fun _ _ h2 z => ⟨h2, z⟩)
theorem ev_return {e : Expr} {pos : Pos} {P : Flow → Heap → Prop} (x : Ev prog w A (eval e env) h (fun v => P (.ret v))) : Ev prog w A (exec (.Return (some e) pos) env) h P :=
  fun s E hs => wpAny_Return_some (x s E hs)
theorem ev_if {test : Expr} {body orelse : List Stmt} {pos : Pos} {P : Flow → Heap → Prop}
    (x : Ev prog w A (isTrue test env (eval test env)) h (fun b h' => if b then Ev prog w A (execs body env) h' P else Ev prog w A (execs orelse env) h' P)) :
    Ev prog w A (exec (.If test body orelse pos) env) h P := fun s E hs => wpAny_If (x.use hs (Same.refl s) fun b s' h1 y => by
  cases b
  · simp only [Bool.false_eq_true, if_false] at y ⊢; exact y.use rfl h1 fun _ _ h2 z => ⟨h2, z⟩
  · simp only [if_true] at y ⊢; exact y.use rfl h1 fun _ _ h2 z => ⟨h2, z⟩)
/-! ## expressions -/
theorem ev_binop {l r : Expr} {op : Operator} {pos : Pos} {P : Value → Heap → Prop}
    (x : Ev prog w A (eval l env) h (fun a h1 => Ev prog w A (eval r env) h1 (fun b h2 => Ev prog w A (binaryOp op a b) h2 P))) : Ev prog w A (eval (.BinOp l op r pos) env) h P :=
  fun s E hs => wpAny_BinOp (x.use hs (Same.refl s) fun _ _ h1 y => y.use rfl h1 fun _ _ h2 z => z.use rfl h2 fun _ _ h3 q => ⟨h3, q⟩)
theorem ev_compare1 {l r : Expr} {op : CmpOp} {pos : Pos} {P : Value → Heap → Prop}
    (x : Ev prog w A (eval l env) h (fun a h1 => Ev prog w A (eval r env) h1 (fun b h2 => Ev prog w A (compareOp op a b) h2 P)))
    (hm : behindInMarks op r = false := by with_unfolding_all rfl) : Ev prog w A (eval (.Compare l [op] [r] pos) env) h P :=
  fun s E hs => wpAny_Compare1 (x.use hs (Same.refl s) fun _ _ h1 y => y.use rfl h1 fun _ _ h2 z => z.use rfl h2 fun _ _ h3 q => ⟨h3, q⟩) hm
theorem ev_true_compare1 {l r : Expr} {op : CmpOp} {pos : Pos} {t : Sem Value} {P : Bool → Heap → Prop}
    (x : Ev prog w A (eval l env) h (fun a h1 => Ev prog w A (eval r env) h1 (fun b h2 => Ev prog w A (compareOp op a b) h2 (fun c h3 => Ev prog w A (truthy c) h3 P))))
    (hm : behindInMarks op r = false := by with_unfolding_all rfl) : Ev prog w A (isTrue (.Compare l [op] [r] pos) env t) h P :=
  fun s E hs => wpAny_isTrue_Compare1 (x.use hs (Same.refl s) fun _ _ h1 y => y.use rfl h1 fun _ _ h2 z => z.use rfl h2 fun _ _ h3 q => q.use rfl h3 fun _ _ h4 r => ⟨h4, r⟩) hm
theorem ev_truthy_bool {b : Bool} {P : Bool → Heap → Prop} (x : P b h) : Ev prog w A (truthy (.bool b)) h P := fun s E hs => wpAny_truthy_bool ⟨Same.refl s, by rw [hs]; exact x⟩
theorem ev_int {i : Int} {k : Nat} {pos : Pos} {P : Value → Heap → Prop} (x : ∀ t, P (.int i t) h) : Ev prog w A (eval (.Constant (.int i) k pos) env) h P :=
  fun s E hs => wpAny_Constant_int ⟨Same.mk' s _ _, by rw [← hs] at x; exact x _⟩
theorem ev_str {i : Str} {k : Nat} {pos : Pos} {P : Value → Heap → Prop} (x : ∀ t, P (.str i t) h) : Ev prog w A (eval (.Constant (.str i) k pos) env) h P :=
  fun s E hs => wpAny_Constant_str ⟨Same.mk' s _ _, by rw [← hs] at x; exact x _⟩
theorem ev_none {k : Nat} {pos : Pos} {P : Value → Heap → Prop} (x : P .none h) : Ev prog w A (eval (.Constant .none k pos) env) h P :=
  fun s E hs => wpAny_Constant_none ⟨Same.refl s, by rw [hs]; exact x⟩
theorem ev_bool {b : Bool} {k : Nat} {pos : Pos} {P : Value → Heap → Prop} (x : P (.bool b) h) : Ev prog w A (eval (.Constant (.bool b) k pos) env) h P :=
  fun s E hs => wpAny_Constant_bool ⟨Same.refl s, by rw [hs]; exact x⟩
end
/-! ## The names of a frame: locals and cells in one map -/
structure Fm (env : Env) (m : Str → Option Value) (h : Heap) : Prop where
  loc : ∃ mL, h.Ns env.locals mL ∧ ∀ x, env.kindOf x = some .local → mL x = m x
  cel : ∀ x c, env.cells.lookup x = some c → h.IsCell c (m x)
  apart : ∀ x y c, env.cells.lookup x = some c → env.cells.lookup y = some c → x = y
theorem Fm.keeps {env : Env} {m : Str → Option Value} {h h' : Heap} (F : Fm env m h) (k : ∀ b o, (b = env.locals ∨ ∃ x, env.cells.lookup x = some b) → h.get? b = some o → h'.get? b = some o) : Fm env m h' := by
  obtain ⟨⟨mL, hn, hm⟩, hc, ha⟩ := F
  exact ⟨⟨mL, hn.at' fun o e => k _ o (.inl rfl) e, hm⟩, fun x c e => let ⟨o, ho, hd⟩ := hc x c e; ⟨o, k c o (.inr ⟨x, e⟩) ho, hd⟩, ha⟩
theorem ns_not_cell {h : Heap} {a : Addr} {m : Str → Option Value} {v : Option Value} (x : h.Ns a m) (y : h.IsCell a v) : False := by
  obtain ⟨o, es, ep, ho, hd, _⟩ := x
  obtain ⟨o', ho', hd'⟩ := y
  rw [ho] at ho'; cases ho'; rw [hd] at hd'; cases hd'
noncomputable def setM (m : Str → Option Value) (x : Str) (v : Value) : Str → Option Value := fun y => if y = x then some v else m y
theorem Fm.setLoc {env : Env} {m : Str → Option Value} {h h' : Heap} {x : Str} {v : Value} {mL : Str → Option Value} (F : Fm env m h) (hm : ∀ x, env.kindOf x = some .local → mL x = m x)
    (hx : env.cells.lookup x = none)
    (hn' : h'.Ns env.locals (fun y => if y = x then some v else mL y)) (hs : Heap.SameBut env.locals h h') : Fm env (setM m x v) h' := by
  obtain ⟨⟨mL', hn, _⟩, hc, ha⟩ := F
  refine ⟨⟨_, hn', fun y hy => ?_⟩, fun y c e => ?_, ha⟩
  · unfold setM; split
    · rfl
    · exact hm y hy
  · have hne : c ≠ env.locals := fun q => ns_not_cell (q ▸ hn) (hc y c e)
    have : setM m x v y = m y := by
      unfold setM; rw [if_neg]; rintro rfl; rw [hx] at e; cases e
    rw [this]
    exact (hc y c e).sameBut hs hne
theorem Fm.setCell {env : Env} {m : Str → Option Value} {h h' : Heap} {x : Str} {v : Value} {c : Addr} (F : Fm env m h) (hx : env.cells.lookup x = some c) (hk : env.kindOf x ≠ some .local)
    (hv : h'.IsCell c (some v)) (hs : Heap.SameBut c h h') : Fm env (setM m x v) h' := by
  obtain ⟨⟨mL, hn, hm⟩, hc, ha⟩ := F
  refine ⟨⟨mL, hn.sameBut hs fun q => ns_not_cell hn (q ▸ hc x c hx), fun y hy => ?_⟩, fun y c' e => ?_, ha⟩
  · unfold setM; rw [if_neg]
    · exact hm y hy
    · rintro rfl; exact hk hy
  · by_cases hy : y = x
    · subst hy; rw [hx] at e; cases e; unfold setM; rw [if_pos rfl]; exact hv
    · have : setM m x v y = m y := by unfold setM; rw [if_neg hy]
      rw [this]
      exact (hc y c' e).sameBut hs fun q => hy (ha y x c' e (q ▸ hx))
/-! ## What is known of the heap -/
noncomputable abbrev Gm := Addr → Option Obj
noncomputable def GLe (g g' : Gm) : Prop := ∀ b o, g b = some o → g' b = some o
theorem GLe.refl (g : Gm) : GLe g g := fun _ _ e => e
theorem GLe.trans {a b c : Gm} (x : GLe a b) (y : GLe b c) : GLe a c := fun _ _ e => y _ _ (x _ _ e)
/-- the ground of a frame: the heap when it was entered, what was frozen then, what it may write of the elder objects, its own addresses -/
structure Bs where
  hb : Heap
  g₀ : Gm
  h₀ : Heap
  W : List Addr
  own : Addr → Prop
structure St (B : Bs) (g : Gm) (V : List (Addr × Obj)) (env : Env) (m : Str → Option Value) (h : Heap) : Prop where
  base : ∀ b o, B.hb.get? b = some o → B.g₀ b = some o
  fm : Fm env m h
  le : GLe B.g₀ g
  frz : ∀ b o, g b = some o → h.get? b = some o
  new : ∀ b o, g b = some o → B.g₀ b = some o ∨ B.h₀.get? b = none
  keep : ∀ b o, B.h₀.get? b = some o → b ∉ B.W → h.get? b = some o
  vol : ∀ p ∈ V, h.get? p.1 = some p.2
  volg : ∀ p ∈ V, g p.1 = none
  vol0 : ∀ p ∈ V, B.h₀.get? p.1 = none ∨ p.1 ∈ B.W
  nocell : ∀ p ∈ V, ∀ v, p.2.data ≠ .cell v
  nd : (V.map (·.1)).Nodup
  WV : ∀ a ∈ B.W, a ∈ V.map (·.1)
  ownL : B.own env.locals
  own : ∀ a, B.own a → g a = none ∧ B.h₀.get? a = none ∧ a ∉ V.map (·.1) ∧ a ∉ B.W ∧ (h.get? a).isSome = true
  kind : env.scope.kind = .function
/-- what a run that ends leaves behind, seen from its caller -/
structure Ext (W : List Addr) (g : Gm) (h : Heap) (g' : Gm) (h' : Heap) : Prop where
  keep : ∀ b o, h.get? b = some o → b ∉ W → h'.get? b = some o
  le : GLe g g'
  frz : ∀ b o, g' b = some o → h'.get? b = some o
  new : ∀ b o, g' b = some o → g b = some o ∨ h.get? b = none
theorem Ext.trans {W : List Addr} {g g' g'' : Gm} {h h' h'' : Heap} (x : Ext W g h g' h') (y : Ext W g' h' g'' h'') (hW : ∀ b o, h.get? b = some o → b ∈ W → (h'.get? b).isSome = true) : Ext W g h g'' h'' :=
  ⟨fun b o e hb => y.keep b o (x.keep b o e hb) hb, x.le.trans y.le, y.frz, fun b o e => (y.new b o e).elim (x.new b o) fun q => .inr (by
    cases hq : h.get? b with
    | none => rfl
    | some o' =>
      by_cases hb : b ∈ W
      · have := hW b o' hq hb; rw [q] at this; cases this
      · rw [x.keep b o' hq hb] at q; cases q)⟩
section
variable {B : Bs} {g g' : Gm} {V V' : List (Addr × Obj)} {env : Env} {m : Str → Option Value} {h h' : Heap}
theorem St.hbk (S : St B g V env m h) : ∀ b o, B.hb.get? b = some o → h.get? b = some o := fun b o e => S.frz b o (S.le b o (S.base b o e))
theorem St.hbg (S : St B g V env m h) : ∀ b o, B.hb.get? b = some o → g b = some o := fun b o e => S.le b o (S.base b o e)
/-- the end of a frame, for its caller -/
theorem St.ext (S : St B g V env m h) : Ext B.W B.g₀ B.h₀ g h := ⟨S.keep, S.le, S.frz, S.new⟩
theorem lt_of_isSome {h : Heap} {a : Addr} (e : (h.get? a).isSome = true) : a < h.objs.size := by
  obtain ⟨o, ho⟩ := Option.isSome_iff_exists.mp e; exact Heap.lt_size ho
theorem fresh_none {h : Heap} {a : Addr} (ha : h.objs.size ≤ a) : h.get? a = none := by
  cases e : h.get? a with
  | none => rfl
  | some o' => exact absurd (Heap.lt_size e) (Nat.not_lt.mpr ha)
/-- a run of another's: nothing old is written but what W names; those are volatile here -/
theorem St.step {W : List Addr} (S : St B g V env m h) (E : Ext W g h g' h') (hW : ∀ a ∈ W, a ∈ V.map (·.1))
    (hV : V'.map (·.1) = V.map (·.1)) (hvol : ∀ p ∈ V', h'.get? p.1 = some p.2) (hnc : ∀ p ∈ V', ∀ v, p.2.data ≠ .cell v) : St B g' V' env m h' := by
  have inV : ∀ a ∈ W, ∃ o, (a, o) ∈ V := fun a ha => by
    obtain ⟨p, hp, rfl⟩ := List.mem_map.mp (hW a ha); exact ⟨p.2, hp⟩
  have memV : ∀ p ∈ V', ∃ o, (p.1, o) ∈ V := fun p hp => by
    have : p.1 ∈ V.map (·.1) := hV ▸ List.mem_map.mpr ⟨p, hp, rfl⟩
    obtain ⟨q, hq, e⟩ := List.mem_map.mp this
    exact ⟨q.2, by rw [← e]; exact hq⟩
  refine ⟨S.base, S.fm.keeps fun b o hb e => E.keep b o e fun hw => ?_, S.le.trans E.le, E.frz, fun b o e => ?_, fun b o e hb => ?_, hvol, fun p hp => ?_, fun p hp => ?_, hnc, hV ▸ S.nd, hV ▸ S.WV, S.ownL, fun a ha => ?_, S.kind⟩
  · obtain ⟨o', ho'⟩ := inV b hw
    rcases hb with rfl | ⟨x, hx⟩
    · exact (S.own _ S.ownL).2.2.1 (hW _ hw)
    · obtain ⟨oc, hoc, hd⟩ := S.fm.cel x b hx
      have := S.vol _ ho'
      rw [hoc] at this; cases this
      exact S.nocell _ ho' _ hd
  · rcases E.new b o e with q | q
    · exact S.new b o q
    · right
      cases hq : B.h₀.get? b with
      | none => rfl
      | some o' =>
        by_cases hb : b ∈ B.W
        · obtain ⟨p, hp, rfl⟩ := List.mem_map.mp (S.WV b hb)
          rw [S.vol p hp] at q; cases q
        · rw [S.keep b o' hq hb] at q; cases q
  · refine E.keep b o (S.keep b o e hb) fun hw => ?_
    obtain ⟨o', ho'⟩ := inV b hw
    rcases S.vol0 _ ho' with q | q
    · rw [e] at q; cases q
    · exact hb q
  · obtain ⟨o, ho⟩ := memV p hp
    cases hq : g' p.1 with
    | none => rfl
    | some o' =>
      rcases E.new _ _ hq with q | q
      · have := S.volg _ ho; rw [q] at this; cases this
      · have := S.vol _ ho; rw [q] at this; cases this
  · obtain ⟨o, ho⟩ := memV p hp
    exact (S.vol0 (p.1, o) ho : _)
  · obtain ⟨a1, a2, a3, a4, a5⟩ := S.own a ha
    obtain ⟨o, ho⟩ := Option.isSome_iff_exists.mp a5
    refine ⟨?_, a2, hV ▸ a3, a4, by rw [E.keep a o ho fun hw => a3 (hW a hw)]; rfl⟩
    cases hq : g' a with
    | none => rfl
    | some o' =>
      rcases E.new _ _ hq with q | q
      · rw [q] at a1; cases a1
      · rw [ho] at q; cases q
end
noncomputable def orG (g N : Gm) : Gm := fun b => match g b with | some o => some o | none => N b
theorem orG_le (g N : Gm) : GLe g (orG g N) := fun b o e => by unfold orG; rw [e]
theorem orG_new {g N : Gm} {b : Addr} {o : Obj} (e : N b = some o) (h : g b = none) : orG g N b = some o := by unfold orG; rw [h]; exact e
theorem orG_cases {g N : Gm} {b : Addr} {o : Obj} (e : orG g N b = some o) : g b = some o ∨ (g b = none ∧ N b = some o) := by
  unfold orG at e
  cases q : g b with
  | some o' => rw [q] at e; exact .inl e
  | none => rw [q] at e; exact .inr ⟨rfl, e⟩
noncomputable def one (a : Addr) (o : Obj) : Gm := fun b => if b = a then some o else none
theorem one_self (a : Addr) (o : Obj) : one a o a = some o := by unfold one; rw [if_pos rfl]
theorem one_cases {a b : Addr} {o o' : Obj} (e : one a o b = some o') : b = a ∧ o = o' := by
  unfold one at e; split at e
  · rename_i q; cases e; exact ⟨q, rfl⟩
  · cases e
/-- the volatile list with one object turned; with one taken out -/
inductive VU (a : Addr) (o o' : Obj) : List (Addr × Obj) → List (Addr × Obj) → Prop
  | head {r} : VU a o o' ((a, o) :: r) ((a, o') :: r)
  | tail {p r r'} : VU a o o' r r' → VU a o o' (p :: r) (p :: r')
inductive VR (a : Addr) (o : Obj) : List (Addr × Obj) → List (Addr × Obj) → Prop
  | head {r} : VR a o ((a, o) :: r) r
  | tail {p r r'} : VR a o r r' → VR a o (p :: r) (p :: r')
theorem VU.fst {a : Addr} {o o' : Obj} {V V' : List (Addr × Obj)} (u : VU a o o' V V') : V'.map (·.1) = V.map (·.1) := by
  induction u with
  | head => rfl
  | tail _ ih => simp only [List.map_cons, ih]
theorem VU.mem {a : Addr} {o o' : Obj} {V V' : List (Addr × Obj)} (u : VU a o o' V V') : (a, o) ∈ V := by
  induction u with
  | head => exact .head _
  | tail _ ih => exact .tail _ ih
theorem VU.mem' {a : Addr} {o o' : Obj} {V V' : List (Addr × Obj)} (u : VU a o o' V V') : (a, o') ∈ V' := by
  induction u with
  | head => exact .head _
  | tail _ ih => exact .tail _ ih
theorem VU.cases {a : Addr} {o o' : Obj} {V V' : List (Addr × Obj)} (u : VU a o o' V V') (nd : (V.map (·.1)).Nodup) : ∀ p ∈ V', p = (a, o') ∨ (p ∈ V ∧ p.1 ≠ a) := by
  induction u with
  | @head r =>
    intro p hp
    rw [List.map_cons, List.nodup_cons] at nd
    rcases List.mem_cons.mp hp with e | hp
    · exact .inl e
    · exact .inr ⟨.tail _ hp, fun e => nd.1 (e ▸ List.mem_map.mpr ⟨p, hp, rfl⟩)⟩
  | @tail q r r' u ih =>
    intro p hp
    rw [List.map_cons, List.nodup_cons] at nd
    rcases List.mem_cons.mp hp with e | hp
    · subst e
      exact .inr ⟨.head _, fun e => nd.1 (e ▸ List.mem_map.mpr ⟨_, u.mem, rfl⟩)⟩
    · exact (ih nd.2 p hp).imp id fun x => ⟨.tail _ x.1, x.2⟩
theorem VR.sub {a : Addr} {o : Obj} {V V' : List (Addr × Obj)} (u : VR a o V V') : ∀ p ∈ V', p ∈ V := by
  induction u with
  | head => exact fun p hp => .tail _ hp
  | tail _ ih =>
    intro p hp
    rcases List.mem_cons.mp hp with e | hp
    · subst e; exact .head _
    · exact .tail _ (ih p hp)
theorem VR.mem {a : Addr} {o : Obj} {V V' : List (Addr × Obj)} (u : VR a o V V') : (a, o) ∈ V := by
  induction u with
  | head => exact .head _
  | tail _ ih => exact .tail _ ih
theorem VR.back {a : Addr} {o : Obj} {V V' : List (Addr × Obj)} (u : VR a o V V') : ∀ p ∈ V, p = (a, o) ∨ p ∈ V' := by
  induction u with
  | head => exact fun p hp => (List.mem_cons.mp hp).imp id id
  | tail _ ih =>
    intro p hp
    rcases List.mem_cons.mp hp with e | hp
    · subst e; exact .inr (.head _)
    · exact (ih p hp).imp id (.tail _)
theorem VR.sublist {a : Addr} {o : Obj} {V V' : List (Addr × Obj)} (u : VR a o V V') : (V'.map (·.1)).Sublist (V.map (·.1)) := by
  induction u with
  | head => exact List.sublist_cons_self _ _
  | tail _ ih => simp only [List.map_cons]; exact ih.cons_cons _
theorem VR.off {a : Addr} {o : Obj} {V V' : List (Addr × Obj)} (u : VR a o V V') (nd : (V.map (·.1)).Nodup) : a ∉ V'.map (·.1) := by
  induction u with
  | head => rw [List.map_cons, List.nodup_cons] at nd; exact nd.1
  | tail u ih =>
    rw [List.map_cons, List.nodup_cons] at nd
    intro hm
    rw [List.map_cons, List.mem_cons] at hm
    rcases hm with e | hm
    · exact nd.1 (e ▸ List.mem_map.mpr ⟨_, u.mem, rfl⟩)
    · exact ih nd.2 hm
section
variable {B : Bs} {g g' : Gm} {V V' : List (Addr × Obj)} {env : Env} {m : Str → Option Value} {h h' : Heap}
theorem St.getV (S : St B g V env m h) {a : Addr} {o : Obj} (hm : (a, o) ∈ V) : h.get? a = some o := S.vol _ hm
/-- a run that writes nothing old -/
theorem St.pure (S : St B g V env m h) (E : Ext [] g h g' h') : St B g' V env m h' :=
  S.step E (fun a ha => nomatch ha) rfl (fun p hp => E.keep _ _ (S.vol p hp) (fun q => nomatch q)) S.nocell
/-- a run that writes one volatile object -/
theorem St.step1 (S : St B g V env m h) {a : Addr} {o o' : Obj} (E : Ext [a] g h g' h') (u : VU a o o' V V') (ho : h'.get? a = some o') (hnc : ∀ v, o'.data ≠ .cell v) : St B g' V' env m h' :=
  S.step E (fun b hb => by rw [List.mem_singleton.mp hb]; exact List.mem_map.mpr ⟨_, u.mem, rfl⟩) u.fst
    (fun p hp => by
      rcases u.cases S.nd p hp with rfl | ⟨hp, hne⟩
      · exact ho
      · exact E.keep _ _ (S.vol p hp) (fun q => hne (List.mem_singleton.mp q)))
    (fun p hp => by
      rcases u.cases S.nd p hp with rfl | ⟨hp, hne⟩
      · exact hnc
      · exact S.nocell p hp)
theorem St.extN (S : St B g V env m h) (k : ∀ b o, h.get? b = some o → h'.get? b = some o) (N : Gm) (hN : ∀ b o, N b = some o → h.get? b = none ∧ h'.get? b = some o) :
    Ext [] g h (orG g N) h' :=
  ⟨fun b o e _ => k b o e, orG_le g N, fun b o e => (orG_cases e).elim (fun q => k b o (S.frz b o q)) fun q => (hN b o q.2).2, fun b o e => (orG_cases e).imp id fun q => (hN b o q.2).1⟩
/-- nothing old is written, some new objects are known and frozen -/
theorem St.grow (S : St B g V env m h) (k : ∀ b o, h.get? b = some o → h'.get? b = some o) (N : Gm) (hN : ∀ b o, N b = some o → h.get? b = none ∧ h'.get? b = some o) :
    St B (orG g N) V env m h' := S.pure (S.extN k N hN)
theorem St.gN (S : St B g V env m h) {N : Gm} (hN : ∀ b o, N b = some o → h.get? b = none) {b : Addr} {o : Obj} (e : N b = some o) : orG g N b = some o := orG_new e (by
  cases q : g b with
  | none => rfl
  | some o' => have := S.frz b o' q; rw [hN b o e] at this; cases this)
theorem St.keeps (S : St B g V env m h) (k : ∀ b o, h.get? b = some o → h'.get? b = some o) : St B g V env m h' := by
  refine S.pure ⟨fun b o e _ => k b o e, GLe.refl g, fun b o e => k b o (S.frz b o e), fun b o e => .inl e⟩
theorem St.push_frz (S : St B g V env m h) (o : Obj) (hf : o.isFreed = false) : ∃ g', GLe g g' ∧ g' h.objs.size = some o ∧ St B g' V env m (h.push o) := by
  have hN : ∀ b o', one h.objs.size o b = some o' → h.get? b = none ∧ (h.push o).get? b = some o' := fun b o' e => by
    obtain ⟨rfl, rfl⟩ := one_cases e
    exact ⟨fresh_none (Nat.le_refl _), Heap.get?_push_size _ hf⟩
  exact ⟨_, orG_le _ _, S.gN (fun b o' e => (hN b o' e).1) (one_self _ _), S.grow (fun b o' e => Heap.get?_push_of_some _ e) _ hN⟩
theorem St.push_frzK {Q : Prop} (S : St B g V env m h) (o : Obj) (hf : o.isFreed = false) (k : ∀ g', GLe g g' → g' h.objs.size = some o → St B g' V env m (h.push o) → Q) : Q := by
  obtain ⟨g', a, b, c⟩ := S.push_frz o hf
  exact k g' a b c
theorem St.off (S : St B g V env m h) {a : Addr} (ha : h.get? a = none) : g a = none ∧ a ∉ V.map (·.1) ∧ ¬ B.own a ∧ a ∉ B.W := by
  refine ⟨?_, fun hm => ?_, fun ho => ?_, fun hw => ?_⟩
  · cases q : g a with
    | none => rfl
    | some o' => have := S.frz a o' q; rw [ha] at this; cases this
  · obtain ⟨p, hp, rfl⟩ := List.mem_map.mp hm
    have := S.vol p hp; rw [ha] at this; cases this
  · have := (S.own a ho).2.2.2.2; rw [ha] at this; cases this
  · obtain ⟨p, hp, rfl⟩ := List.mem_map.mp (S.WV a hw)
    have := S.vol p hp; rw [ha] at this; cases this
/-- a new object that is to be written -/
theorem St.addV (S : St B g V env m h) {a : Addr} {o : Obj} (k : ∀ b o, h.get? b = some o → h'.get? b = some o) (ha : h.get? a = none) (ho : h'.get? a = some o)
    (h0 : B.h₀.get? a = none) (hnc : ∀ v, o.data ≠ .cell v) : St B g ((a, o) :: V) env m h' := by
  have S' := S.keeps k
  obtain ⟨o1, o2, o3, o4⟩ := S.off ha
  refine { S' with vol := ?_, volg := ?_, vol0 := ?_, nocell := ?_, nd := ?_, WV := ?_, own := ?_ }
  · intro p hp; rcases List.mem_cons.mp hp with rfl | hp
    · exact ho
    · exact S'.vol p hp
  · intro p hp; rcases List.mem_cons.mp hp with rfl | hp
    · exact o1
    · exact S'.volg p hp
  · intro p hp; rcases List.mem_cons.mp hp with rfl | hp
    · exact .inl h0
    · exact S'.vol0 p hp
  · intro p hp; rcases List.mem_cons.mp hp with rfl | hp
    · exact hnc
    · exact S'.nocell p hp
  · rw [List.map_cons, List.nodup_cons]; exact ⟨o2, S'.nd⟩
  · intro b hb; rw [List.map_cons]; exact .tail _ (S'.WV b hb)
  · intro b hb
    obtain ⟨a1, a2, a3, a4, a5⟩ := S'.own b hb
    refine ⟨a1, a2, fun hm => ?_, a4, a5⟩
    rw [List.map_cons, List.mem_cons] at hm
    rcases hm with rfl | hm
    · exact o3 hb
    · exact a3 hm
theorem St.h0_new (S : St B g V env m h) {a : Addr} (ha : h.get? a = none) : B.h₀.get? a = none := by
  cases q : B.h₀.get? a with
  | none => rfl
  | some o' => have := S.keep a o' q (S.off ha).2.2.2; rw [ha] at this; cases this
theorem St.push_vol (S : St B g V env m h) (o : Obj) (hf : o.isFreed = false) (hnc : ∀ v, o.data ≠ .cell v) : St B g ((h.objs.size, o) :: V) env m (h.push o) :=
  S.addV (fun b o' e => Heap.get?_push_of_some _ e) (fresh_none (Nat.le_refl _)) (Heap.get?_push_size _ hf) (S.h0_new (fresh_none (Nat.le_refl _))) hnc
/-- a volatile object is written -/
theorem St.upd (S : St B g V env m h) {a : Addr} {o o' : Obj} (u : VU a o o' V V') (hs : Heap.SameBut a h h') (ho : h'.get? a = some o') (hnc : ∀ v, o'.data ≠ .cell v) : St B g V' env m h' := by
  have ga : g a = none := S.volg _ u.mem
  refine S.step1 (a := a) (o := o) (o' := o') ⟨fun b ob e hb => (hs.2 b fun q => hb (q ▸ List.mem_singleton.mpr rfl)).trans e, GLe.refl g, fun b ob e => ?_, fun b ob e => .inl e⟩ u ho hnc
  have hb : b ≠ a := by rintro rfl; rw [ga] at e; cases e
  exact (hs.2 b hb).trans (S.frz b ob e)
/-- a volatile object goes: known and frozen from now on, or forgotten -/
theorem St.drop (S : St B g V env m h) {a : Addr} {o : Obj} (u : VR a o V V') (hW : a ∉ B.W) : St B g V' env m h := by
  refine { S with vol := fun p hp => S.vol p (u.sub p hp), volg := fun p hp => S.volg p (u.sub p hp), vol0 := fun p hp => S.vol0 p (u.sub p hp), nocell := fun p hp => S.nocell p (u.sub p hp), nd := u.sublist.nodup S.nd, WV := ?_, own := ?_ }
  · intro b hb
    obtain ⟨p, hp, rfl⟩ := List.mem_map.mp (S.WV b hb)
    rcases u.back p hp with e | hp
    · subst e; exact absurd hb hW
    · exact List.mem_map.mpr ⟨p, hp, rfl⟩
  · intro b hb
    obtain ⟨a1, a2, a3, a4, a5⟩ := S.own b hb
    exact ⟨a1, a2, fun hm => a3 (u.sublist.subset hm), a4, a5⟩
theorem St.freeze (S : St B g V env m h) {a : Addr} {o : Obj} (u : VR a o V V') (hW : a ∉ B.W) : ∃ g', GLe g g' ∧ g' a = some o ∧ St B g' V' env m h := by
  have S' := S.drop u hW
  have ga : g a = none := S.volg _ u.mem
  have ha : h.get? a = some o := S.vol _ u.mem
  have h0 : B.h₀.get? a = none := (S.vol0 _ u.mem).resolve_right hW
  refine ⟨orG g (one a o), orG_le _ _, orG_new (one_self _ _) ga, { S' with le := S'.le.trans (orG_le _ _), frz := ?_, new := ?_, volg := ?_, own := ?_ }⟩
  · intro b ob e
    rcases orG_cases e with q | ⟨_, q⟩
    · exact S.frz b ob q
    · obtain ⟨rfl, rfl⟩ := one_cases q; exact ha
  · intro b ob e
    rcases orG_cases e with q | ⟨_, q⟩
    · exact S.new b ob q
    · obtain ⟨rfl, rfl⟩ := one_cases q; exact .inr h0
  · intro p hp
    cases q : orG g (one a o) p.1 with
    | none => rfl
    | some o' =>
      rcases orG_cases q with q | ⟨_, q⟩
      · rw [S'.volg p hp] at q; cases q
      · obtain ⟨e, _⟩ := one_cases q
        exact absurd (List.mem_map.mpr ⟨p, hp, e⟩) (u.off S.nd)
  · intro b hb
    obtain ⟨a1, a2, a3, a4, a5⟩ := S'.own b hb
    refine ⟨?_, a2, a3, a4, a5⟩
    cases q : orG g (one a o) b with
    | none => rfl
    | some o' =>
      rcases orG_cases q with q | ⟨_, q⟩
      · rw [a1] at q; cases q
      · obtain ⟨e, _⟩ := one_cases q
        exact absurd (List.mem_map.mpr ⟨_, u.mem, e.symm⟩) (S.own b hb).2.2.1
theorem St.freezeK {Q : Prop} (S : St B g V env m h) {a : Addr} {o : Obj} (u : VR a o V V') (hW : a ∉ B.W) (k : ∀ g', GLe g g' → g' a = some o → St B g' V' env m h → Q) : Q := by
  obtain ⟨g', x, y, z⟩ := S.freeze u hW
  exact k g' x y z
end
/-! ## names -/
section
variable {prog : Program} {w : World} {A : Around} {B : Bs} {g g' : Gm} {V V' : List (Addr × Obj)} {env : Env} {m : Str → Option Value} {h h' : Heap}
/-- how a name of the frame is kept -/
noncomputable def isVar (env : Env) (x : Str) : Bool := match env.kindOf x with
  | some .local => true
  | some .cell | some .free => (env.cells.lookup x).isSome && !(x == ("__classdict__" : Str))
  | _ => false
theorem ev_loadName {x : Str} {v : Value} {P : Value → Heap → Prop} (S : St B g V env m h) (hk : isVar env x = true) (hv : m x = some v) (hP : P v h) : Ev prog w A (loadName env x) h P := by
  intro s E hs
  subst hs
  have fin : Same s s ∧ P v s.heap := ⟨Same.refl s, hP⟩
  unfold isVar at hk
  split at hk
  · rename_i q
    obtain ⟨mL, hn, hm⟩ := S.fm.loc
    exact wpAny_loadName_local S.kind q hn ((hm x q).trans hv) fin
  · rename_i q
    obtain ⟨h1, h2⟩ := Bool.and_eq_true_iff.mp hk
    obtain ⟨c, hc⟩ := Option.isSome_iff_exists.mp h1
    exact wpAny_loadName_cell S.kind q hc (hv ▸ S.fm.cel x c hc) fin
  · rename_i q
    obtain ⟨h1, h2⟩ := Bool.and_eq_true_iff.mp hk
    obtain ⟨c, hc⟩ := Option.isSome_iff_exists.mp h1
    exact wpAny_loadName_free S.kind q hc (hv ▸ S.fm.cel x c hc) fin (by simpa using h2)
  · cases hk
theorem ev_nameOf {x : Str} {pos : Pos} {P : Value → Heap → Prop} (hx : Ev prog w A (loadName env x) h P) (hd : (x == ("__debug__" : Str)) = false) : Ev prog w A (eval (.Name x pos) env) h P :=
  fun s E hs => wpAny_Name (hx s E hs) hd
theorem ev_var {x : Str} {pos : Pos} {v : Value} {P : Value → Heap → Prop} (S : St B g V env m h) (hv : m x = some v) (hP : P v h) (hk : isVar env x = true := by rfl) (hd : (x == ("__debug__" : Str)) = false := by rfl) :
    Ev prog w A (eval (.Name x pos) env) h P := ev_nameOf (ev_loadName S hk hv hP) hd
/-- where a name of the frame may be stored -/
noncomputable def StoreOk (B : Bs) (env : Env) (x : Str) : Prop := (env.kindOf x = some .local ∧ env.cells.lookup x = none) ∨ (env.kindOf x = some .cell ∧ ∃ c, env.cells.lookup x = some c ∧ B.own c)
theorem ev_store {x : Str} {v : Value} {P : Unit → Heap → Prop} (S : St B g V env m h) (hk : StoreOk B env x) (hP : ∀ h', St B g V env (setM m x v) h' → P () h') : Ev prog w A (storeName env x v) h P := by
  intro s E hs
  subst hs
  have oth : ∀ (a : Addr) (h' : Heap), B.own a → Heap.SameBut a s.heap h' → (h'.get? a).isSome = true → Fm env (setM m x v) h' → St B g V env (setM m x v) h' := fun a h' ho hsb hsm F => by
    obtain ⟨a1, a2, a3, a4, a5⟩ := S.own a ho
    refine { S with fm := F, frz := ?_, keep := ?_, vol := ?_, own := ?_ }
    · intro b o e
      exact (hsb.2 b (by rintro rfl; rw [a1] at e; cases e)).trans (S.frz b o e)
    · intro b o e hb
      exact (hsb.2 b (by rintro rfl; rw [a2] at e; cases e)).trans (S.keep b o e hb)
    · intro p hp
      exact (hsb.2 p.1 (fun q => a3 (q ▸ List.mem_map.mpr ⟨p, hp, rfl⟩))).trans (S.vol p hp)
    · intro b hb
      obtain ⟨b1, b2, b3, b4, b5⟩ := S.own b hb
      refine ⟨b1, b2, b3, b4, ?_⟩
      by_cases q : b = a
      · subst q; exact hsm
      · rw [hsb.2 b q]; exact b5
  rcases hk with ⟨q, hx⟩ | ⟨q, c, hc, ho⟩
  · obtain ⟨mL, hn, hm⟩ := S.fm.loc
    refine wpAny_storeName_local q hn (fun h' hn' hsb => ⟨Same.mk' s _ _, hP h' (oth _ h' S.ownL hsb ?_ (S.fm.setLoc hm hx hn' hsb))⟩) (by simp [S.kind])
    obtain ⟨o, _, _, e, _⟩ := hn'
    rw [e]; rfl
  · refine wpAny_storeName_cell S.kind q hc (S.fm.cel x c hc) fun h' hv' hsb => ⟨⟨rfl, rfl⟩, hP h' (oth c h' ho hsb ?_ (S.fm.setCell hc (by rw [q]; decide) hv' hsb))⟩
    obtain ⟨o, e, _⟩ := hv'
    rw [e]; rfl
theorem ev_assign_name {x : Str} {pos : Pos} {v : Value} {P : Unit → Heap → Prop} (S : St B g V env m h) (hk : StoreOk B env x) (hP : ∀ h', St B g V env (setM m x v) h' → P () h') :
    Ev prog w A (assign (.Name x pos) env v) h P := fun s E hs => wpAny_assign_Name (ev_store S hk hP s E hs)
theorem ev_assign {x : Str} {p' pos : Pos} {value : Expr} {P : Flow → Heap → Prop}
    (hv : Ev prog w A (eval value env) h (fun v h1 => Ev prog w A (storeName env x v) h1 fun _ => P .next))
    (hs : swapsWith value (some (.Name x p')) pos.line env = pure false := by rfl) : Ev prog w A (exec (.Assign [.Name x p'] value pos) env) h P :=
  fun s E hsh => wpAny_Assign_Name (hv.use hsh (Same.refl s) fun _ _ h1 y => y.use rfl h1 fun _ _ h2 z => ⟨h2, z⟩) hs
end
/-! ## the ground: the top's heap, its globals and built-ins -/
structure Cx (K : Frag) (mg mb : Str → Option Value) (hb : Heap) : Prop where
  X : K.In hb
  G : hb.Ns mainGlobals mg
  Bn : hb.Ns builtinsNs mb
  NL : hb.NoLimit
structure Room (A : Around) (k : Nat) : Prop where
  hh : A.handled = none
  dp : A.depth + k < recursionLimit
  un : A.units + 20 * k < cLine
theorem Room.depth {A : Around} {k : Nat} (R : Room A k) : A.depth < recursionLimit := Nat.lt_of_le_of_lt (Nat.le_add_right _ _) R.dp
theorem Room.units {A : Around} {k : Nat} (R : Room A k) : A.units < cLine := Nat.lt_of_le_of_lt (Nat.le_add_right _ _) R.un
theorem Room.deeper {A : Around} {k : Nat} (R : Room A (k + 1)) (env : Env) : Room (A.deeper env) k := ⟨R.hh, by
  have := R.dp; show A.depth + 1 + k < _; (first | lia | omega), by have := R.un; show A.units + 3 + 20 * k < _; (first | lia | omega)⟩
theorem Room.in1 {A : Around} {k : Nat} (R : Room A (k + 1)) : Room A.in1 k := ⟨R.hh, by have := R.dp; show A.depth + k < _; (first | lia | omega), by have := R.un; show A.units + 1 + 20 * k < _; (first | lia | omega)⟩
theorem Room.less {A : Around} {k j : Nat} (R : Room A k) (h : j ≤ k) : Room A j := ⟨R.hh, by have := R.dp; (first | lia | omega), by have := R.un; (first | lia | omega)⟩
theorem Room.make {A : Around} {k : Nat} (R : Room A (k + 1)) (C : Addr) (vals : List Value) (kw : List (Str × Value)) : Room (A.under (.builtin "type.__call__" ⟨.ref C :: vals, kw⟩)) k :=
  ⟨R.hh, by have := R.dp; show A.depth + 1 + k < _; (first | lia | omega), by have := R.un; show A.units + 1 + 20 * k < _; (first | lia | omega)⟩
section
variable {prog : Program} {w : World} {A : Around} {B : Bs} {g g' : Gm} {V V' : List (Addr × Obj)} {env : Env} {m : Str → Option Value} {h h' : Heap} {K : Frag} {mg mb : Str → Option Value}
theorem ev_glob {x : Str} {pos : Pos} {v : Value} {P : Value → Heap → Prop} (S : St B g V env m h) (C : Cx K mg mb B.hb) (hv : mg x = some v) (hP : P v h) (hk : env.kindOf x = some .globalImplicit := by rfl) (hd : (x == ("__debug__" : Str)) = false := by rfl)
    (hg : env.globals = mainGlobals := by rfl) : Ev prog w A (eval (.Name x pos) env) h P := fun s E hs => by
  subst hs
  exact Calls.Name_function_global S.kind hk (Calls.loadGlobal_global (env := env) (by rw [hg]; exact C.G.keeps S.hbk) hv ⟨Same.refl s, hP⟩) hd
theorem ev_builtin {x : Str} {pos : Pos} {v : Value} {P : Value → Heap → Prop} (S : St B g V env m h) (C : Cx K mg mb B.hb) (hm : mg x = none) (hv : mb x = some v) (hP : P v h) (hk : env.kindOf x = some .globalImplicit := by rfl) (hd : (x == ("__debug__" : Str)) = false := by rfl)
    (hg : env.globals = mainGlobals := by rfl) (hbn : env.builtins = builtinsNs := by rfl) : Ev prog w A (eval (.Name x pos) env) h P := fun s E hs => by
  subst hs
  exact Calls.Name_function_global S.kind hk (Calls.loadGlobal_builtin (env := env) (by rw [hg]; exact C.G.keeps S.hbk) hm (by rw [hbn]; exact C.Bn.keeps S.hbk) hv ⟨Same.refl s, hP⟩) hd
/-! ## a def of the text, called -/
noncomputable def bindA : List (Str × Value) → (Str → Option Value) → Str → Option Value
  | [], m => m
  | (n, v) :: r, m => bindA r (setM m n v)
theorem bindL_eq {kindOf : Str → Option NameKind} : ∀ (l : List (Str × Value)) (mL m : Str → Option Value), (∀ x, kindOf x = some .local → mL x = m x) → ∀ x, kindOf x = some .local → bindL kindOf l mL x = bindA l m x
  | [], _, _, e => e
  | (n, v) :: r, mL, m, e => by
    unfold bindL bindA
    refine bindL_eq r _ _ fun x hx => ?_
    unfold setM
    split
    · dsimp only; split
      · rfl
      · exact e x hx
    · rename_i hn
      rw [if_neg (by rintro rfl; exact hn hx)]
      exact e x hx
theorem bindC_eq {kindOf : Str → Option NameKind} : ∀ (l : List (Str × Value)) (mC m : Str → Option Value), (∀ x, kindOf x ≠ some .local → mC x = m x) → ∀ x, kindOf x ≠ some .local → bindC kindOf l mC x = bindA l m x
  | [], _, _, e => e
  | (n, v) :: r, mC, m, e => by
    unfold bindC bindA
    refine bindC_eq r _ _ fun x hx => ?_
    unfold setM
    split
    · rename_i hn
      rw [if_neg (by rintro rfl; exact hx hn)]
      exact e x hx
    · dsimp only; split
      · rfl
      · exact e x hx
/-- the def stands at a -/
structure FnAt (hb : Heap) (a : Addr) (fd : FuncData) : Prop where
  get : ∃ o, hb.get? a = some o ∧ o.data = .func fd
  code : hb.CodeRec fd.code fd.qualname
  clo : fd.closure = []
noncomputable def backOf (f : Flow) : Value := match f with | .ret v => v | _ => .none
noncomputable def fnOwn (L : Addr) (cells : List (Str × Addr)) (b : Addr) : Prop := b = L ∨ ∃ n, cells.lookup n = some b
noncomputable def fnBs (hb : Heap) (g : Gm) (h : Heap) (W : List Addr) (env : Env) : Bs := ⟨hb, g, h, W, fnOwn env.locals env.cells⟩
/-- all cells of the scope are cells of its table -/
noncomputable def cellsKinds (names : List (Str × NameKind)) : Bool := (cellsFrom 0 names []).all fun p => names.lookup p.1 == some .cell
theorem cellsFrom_mem : ∀ (names : List (Str × NameKind)) (n k : Nat) (acc acc' : List (Str × Addr)), acc.map (·.1) = acc'.map (·.1) → (cellsFrom n names acc).map (·.1) = (cellsFrom k names acc').map (·.1)
  | [], _, _, _, _, e => e
  | (x, kd) :: r, n, k, acc, acc', e => by
    unfold cellsFrom
    split
    · exact cellsFrom_mem r _ _ _ _ (by simp [e])
    · exact cellsFrom_mem r _ _ _ _ e
theorem cellsKinds_of {names : List (Str × NameKind)} (e : cellsKinds names = true) {n : Nat} {x : Str} {c : Addr} (hx : (cellsFrom n names []).lookup x = some c) : names.lookup x = some .cell := by
  have h1 : x ∈ (cellsFrom n names []).map (·.1) := List.mem_map.mpr ⟨_, mem_of_lookup hx, rfl⟩
  rw [cellsFrom_mem names n 0 [] [] rfl] at h1
  obtain ⟨p, hp, rfl⟩ := List.mem_map.mp h1
  have := List.all_eq_true.mp e p hp
  simpa using this
/-- what a call may write of its caller's -/
structure Wr (g : Gm) (V : List (Addr × Obj)) (h : Heap) : Prop where
  vol : ∀ p ∈ V, h.get? p.1 = some p.2
  off : ∀ p ∈ V, g p.1 = none
  nocell : ∀ p ∈ V, ∀ v, p.2.data ≠ .cell v
  nd : (V.map (·.1)).Nodup
theorem Wr.nil (g : Gm) (h : Heap) : Wr g [] h := ⟨(fun p hp => nomatch hp), (fun p hp => nomatch hp), (fun p hp => nomatch hp), List.nodup_nil⟩
theorem St.wr (S : St B g V env m h) {a : Addr} {o : Obj} (hm : (a, o) ∈ V) : Wr g [(a, o)] h :=
  ⟨fun p hp => by rw [List.mem_singleton.mp hp]; exact S.vol _ hm, fun p hp => by rw [List.mem_singleton.mp hp]; exact S.volg _ hm, fun p hp => by rw [List.mem_singleton.mp hp]; exact S.nocell _ hm, List.pairwise_singleton _ _⟩
theorem ev_fn {hb : Heap} {a : Addr} {fd : FuncData} {body : List Stmt} {vs : List Value} {binds : List (Str × Value)} {P : Value → Heap → Prop} (C : Cx K mg mb hb) (Fn : FnAt hb a fd) (hroom : A.depth < recursionLimit)
    (hfrz : ∀ b o, g b = some o → h.get? b = some o) (hbg : ∀ b o, hb.get? b = some o → g b = some o) (Wv : Wr g V h)
    (hbody : fd.body = .stmts body) (hbind : bindArgs fd ⟨vs, []⟩ = pure binds)
    (hkind : ∀ n, ∀ x ∈ binds, fd.scope.names.lookup x.1 = some .local ∨ (fd.scope.names.lookup x.1 = some .cell ∧ ((cellsFrom n fd.scope.names []).lookup x.1).isSome = true))
    (hck : cellsKinds fd.scope.names = true)
    (hB : ∀ L h₁, St (fnBs hb g h (V.map (·.1)) (callEnvC fd L a)) g V (callEnvC fd L a) (bindA binds fun _ => none) h₁ →
      Ev prog w (A.deeper (callEnvC fd L a)) (execs body (callEnvC fd L a)) h₁ (fun f h' => P (backOf f) h'))
    (hco : fd.scope.isCoroutine = false := by rfl) (hgen : fd.scope.isGenerator = false := by rfl) (hk : fd.scope.kind = .function := by rfl) :
    Ev prog w A (call (.ref a) vs) h P := fun s E hs => by
  subst hs
  obtain ⟨⟨o, ho, hd⟩, hcode, hclo⟩ := Fn
  have kk : ∀ b o, hb.get? b = some o → s.heap.get? b = some o := fun b o e => hfrz b o (hbg b o e)
  refine wpAny_call (codeAny_call_cells (fd := fd) hroom (kk _ _ ho) hd (C.NL.keeps kk) (hcode.keeps kk) hbody hbind hclo (hkind _) (fun s₁ X => ?_) hco hgen hk)
  obtain ⟨⟨h₁, tk, es⟩, hn, hkp, hfr⟩ := X.toInCall
  have eL : (callEnvC fd s.heap.objs.size a).locals = s.heap.objs.size := rfl
  have hnew : ∀ b, (callEnvC fd s.heap.objs.size a).locals ≤ b → s.heap.get? b = none := fun b hb => fresh_none (by rw [eL] at hb; exact hb)
  have own_none : ∀ b, fnOwn (callEnvC fd s.heap.objs.size a).locals (callEnvC fd s.heap.objs.size a).cells b → s.heap.get? b = none := fun b hb => by
    rcases hb with rfl | ⟨n, hn'⟩
    · exact hnew _ (Nat.le_refl _)
    · exact hnew _ (Nat.le_of_lt (X.above n b (mem_of_lookup hn')))
  have S : St (fnBs hb g s.heap (V.map (·.1)) (callEnvC fd s.heap.objs.size a)) g V (callEnvC fd s.heap.objs.size a) (bindA binds fun _ => none) s₁.heap := by
    refine { base := hbg, fm := ⟨⟨_, hn, fun x hx => bindL_eq binds _ _ (fun _ _ => rfl) x hx⟩, fun x c hc => ?_, fun x y c hx hy => name_of_addr X.apart (mem_of_lookup hx) (mem_of_lookup hy)⟩, le := GLe.refl g, frz := fun b o e => hkp b o (hfrz b o e),
             new := fun b o e => .inl e, keep := fun b o e _ => hkp b o e, vol := fun p hp => hkp _ _ (Wv.vol p hp), volg := Wv.off, vol0 := fun p hp => .inr (List.mem_map.mpr ⟨p, hp, rfl⟩), nocell := Wv.nocell, nd := Wv.nd, WV := fun b hb => hb,
             ownL := .inl rfl, own := fun b hb => ?_, kind := hk }
    · have hkc : (callEnvC fd s.heap.objs.size a).kindOf x = some .cell := cellsKinds_of hck hc
      have := X.cell x c hc
      rw [bindC_eq binds (fun _ => none) (fun _ => none) (fun _ _ => rfl) x (by rw [hkc]; decide)] at this
      exact this
    · have hnone := own_none b hb
      refine ⟨?_, hnone, fun hm => ?_, fun hm => ?_, ?_⟩
      · cases q : g b with
        | none => rfl
        | some o' => have := hfrz b o' q; rw [hnone] at this; cases this
      · obtain ⟨p, hp, rfl⟩ := List.mem_map.mp hm
        have := Wv.vol p hp; rw [hnone] at this; cases this
      · obtain ⟨p, hp, rfl⟩ := List.mem_map.mp hm
        have := Wv.vol p hp; rw [hnone] at this; cases this
      · rcases hb with rfl | ⟨n, hn'⟩
        · obtain ⟨ob, _, _, e, _⟩ := hn
          rw [e]; rfl
        · obtain ⟨ob, e, _⟩ := X.cell n b hn'
          rw [e]; rfl
  have hsame : Same s s₁ := by rw [es]; exact ⟨rfl, rfl⟩
  refine (hB s.heap.objs.size s₁.heap S).use rfl hsame fun f s' h1 z => ?_
  exact ⟨h1, z⟩
end
noncomputable def lobj (vs : List Value) (n : Nat) : Obj := { cls := .type "list", data := .seq vs.toArray n }
noncomputable def tobj (vs : List Value) (n : Nat) : Obj := { cls := .type "tuple", data := .seq vs.toArray n }
theorem lobj_nocell (vs : List Value) (n : Nat) : ∀ v, (lobj vs n).data ≠ .cell v := fun v e => nomatch e
theorem tobj_nocell (vs : List Value) (n : Nat) : ∀ v, (tobj vs n).data ≠ .cell v := fun v e => nomatch e
theorem isList_of {h : Heap} {a : Addr} {vs : List Value} {n : Nat} (e : h.get? a = some (lobj vs n)) : h.IsList a vs.toArray := ⟨_, e, rfl, n, rfl⟩
theorem plain_of {h : Heap} {a : Addr} {vs : List Value} {n : Nat} (e : h.get? a = some (lobj vs n)) : h.PlainList a vs.toArray := ⟨n, e⟩
section
variable {prog : Program} {w : World} {A : Around} {B : Bs} {g g' : Gm} {V V' : List (Addr × Obj)} {env : Env} {m : Str → Option Value} {h h' : Heap} {K : Frag} {mg mb : Str → Option Value}
/-! ## arguments, calls -/
theorem ev_args_nil {pos : Pos} {P : List Value → Heap → Prop} (x : P [] h) : Ev prog w A (spliced (backTo pos (starEach [] env))) h P := fun s E hs => spliced_none ⟨Same.refl s, by rw [hs]; exact x⟩
theorem ev_args_cons {e : Expr} {rest : List Expr} {pos : Pos} {P : List Value → Heap → Prop}
    (x : Ev prog w A (eval e env) h (fun v h1 => Ev prog w A (spliced (backTo pos (starEach rest env))) h1 (fun vs h2 => P (v :: vs) h2)))
    (he : starEach (e :: rest) env = (false, eval e env) :: starEach rest env := by rfl) : Ev prog w A (spliced (backTo pos (starEach (e :: rest) env))) h P :=
  fun s E hs => spliced_more (x.use hs (Same.refl s) fun _ _ h1 y => y.use rfl h1 fun _ _ h2 z => ⟨h2, z⟩) he
noncomputable def Keepable (prog : Program) (w : World) (f : Value) (h : Heap) : Prop := ∃ k, (k = Keeper.frame ∨ k = Keeper.machine ∨ k = Keeper.boundFrame) ∧ Looks (model prog w) h (keeperOf f) k
theorem keepable_builtin (id : String) (h : Heap) : Keepable prog w (.builtin id) h := ⟨.machine, .inr (.inl rfl), Looks.of_pure rfl⟩
theorem keepable_type (T : String) (h : Heap) : Keepable prog w (.type T) h := ⟨.machine, .inr (.inl rfl), Looks.of_pure rfl⟩
theorem keepable_fn {hb h : Heap} {a : Addr} {fd : FuncData} (F : FnAt hb a fd) (k : ∀ b o, hb.get? b = some o → h.get? b = some o) : Keepable prog w (.ref a) h := by
  obtain ⟨⟨o, ho, hd⟩, _, _⟩ := F
  refine ⟨.frame, .inl rfl, ?_⟩
  have L : Looks (model prog w) h (load a) o := Looks.ld (part := none) (k _ _ ho)
  refine L.andThen ?_
  rw [hd]
  exact .now
theorem keepable_K {hb h : Heap} {f : Value} (C : Cx K mg mb hb) (k : ∀ b o, hb.get? b = some o → h.get? b = some o) (hk : keepIn K f = true) : Keepable prog w f h := keeps_K hk h (C.X.keeps k)
theorem evalArgs_any {f : Value} {A' : Around} {E : Value → Shared → Prop} {s : Shared} {args : List (Bool × Sem Value)} {Q : Args → Shared → Prop} (hp : args.any (·.1) = false)
    (x : wpAny (model prog w) A' (spliced args) (fun vs s' => Q ⟨vs, []⟩ s') E s) : wpAny (model prog w) A' (evalArgs f true args []) Q E s := by
  match args, hp, x with
  | [], _, x =>
    unfold evalArgs
    show wpAny (model prog w) A' (spliced [] >>= _) Q E s
    refine wpAny_bind (wpAny_mono x (fun vs s' h' => ?_) fun _ _ e => e)
    refine wpAny_bind (wpAny_pure ?_)
    refine wpAny_holding ?_
    exact wpAny_bind (wpAny_pure (wpAny_bind (wpAny_pure (wpAny_pure h'))))
  | (b, y) :: r, hp, x =>
    cases b with
    | true => simp at hp
    | false => exact evalArgs_plain x
theorem ev_callWith {f : Value} {first : List Value} {pos apos : Pos} {args : List Expr} {P : Value → Heap → Prop} (hp : (backTo apos (starEach args env)).any (·.1) = false)
    (x : Ev prog w A (spliced (backTo apos (starEach args env))) h (fun vs h1 => Keepable prog w f h1 ∧ Ev prog w A (call f (first ++ vs)) h1 P)) :
    Ev prog w A (callWith pos f first (backTo apos (starEach args env)) []) h P := fun s E hs => by
  refine callWith_of (P := fun h' => Keepable prog w f h') (by rw [hp]; rfl) (fun h' k => k) (evalArgs_any hp ?_)
  exact x.use hs (Same.refl s) fun vs s' h1 y => ⟨y.1, y.2.use rfl h1 fun _ _ h2 z => ⟨h2, z⟩⟩
/-- a call by a name -/
theorem ev_call {x : Str} {p pos : Pos} {args : List Expr} {P : Value → Heap → Prop}
    (hx : Ev prog w A (eval (.Name x p) env) h (fun f h1 => Ev prog w A (spliced (backTo pos (starEach args env))) h1 (fun vs h2 => Keepable prog w f h2 ∧ Ev prog w A (call f vs) h2 P)))
    (hp : (backTo pos (starEach args env)).any (·.1) = false := by rfl) : Ev prog w A (eval (.Call (.Name x p) args [] pos) env) h P := fun s E hs =>
  wpAny_Call_NameR (hx.use hs (Same.refl s) fun f s' h1 y => (ev_callWith (first := []) hp y).use rfl h1 fun _ _ h2 z => ⟨h2, z⟩)
/-- a call of a method -/
theorem ev_method {o : Expr} {name : Str} {apos pos : Pos} {args : List Expr} {P : Value → Heap → Prop}
    (hx : Ev prog w A (eval o env) h (fun ov h1 => ∀ pl, Ev prog w A (getMethod ov name pl) h1 (fun fm h2 => Ev prog w A (spliced (backTo pos (starEach args env))) h2 (fun vs h3 => Keepable prog w fm.1 h3 ∧ Ev prog w A (call fm.1 (fm.2 ++ vs)) h3 P))))
    (hbase : attributeBase o name env (eval o env) = eval o env := by rfl)
    (hfew : ((backTo pos (starEach args env)).all (fun x => !x.1) && (backToKw pos (keywordEach [] env)).all (fun x => x.1.isSome)
      && decide (args.length + ([] : List Keyword).length + (if ([] : List Keyword).isEmpty then 0 else 1) < 30)) = true := by rfl)
    (hline : (apos.endLine == pos.line) = true := by rfl) (hp : (backTo pos (starEach args env)).any (·.1) = false := by rfl) :
    Ev prog w A (eval (.Call (.Attribute o name apos) args [] pos) env) h P := fun s E hs => by
  rw [arm_eval_Call, hbase]
  refine wpAny_bind (hx.use hs (Same.refl s) fun ov s1 h1 y => wpAny_bind (wpAny_standAt ?_))
  have hform : methodCallForm (args.length + ([] : List Keyword).length) (backTo pos (starEach args env)) (backToKw pos (keywordEach [] env)) = true := hfew
  have hpos : methodCallPos true o env apos pos = Pure.pure pos := by unfold methodCallPos; simp [hline]
  unfold methodCall
  rw [hform]
  refine wpAny_bind (wpAny_holding ((y _).use rfl h1 fun fm s2 h2 z => ?_))
  exact wpAny_bind (wpAny_of_eq hpos ((ev_callWith (first := fm.2) hp z).use rfl h2 fun _ _ h3 q => ⟨h3, q⟩))
theorem ev_attr {value : Expr} {attr : Str} {pos : Pos} {P : Value → Heap → Prop}
    (x : Ev prog w A (eval value env) h (fun o h1 => Ev prog w A (getAttr o attr true) h1 P))
    (he : eval (.Attribute value attr pos) env = (do
      let o ← eval value env
      standAt pos.atName
      let r ← holding [o] (getAttr o attr true)
      letTemporaryGo value o r
      pure r) := by with_unfolding_all rfl) : Ev prog w A (eval (.Attribute value attr pos) env) h P :=
  fun s E hs => Attribute_any_ (x.use hs (Same.refl s) fun _ _ h1 y => y.use rfl h1 fun _ _ h2 z => ⟨h2, z⟩) he
/-! ## subscripts -/
theorem ev_subscript {value slice : Expr} {pos : Pos} {P : Value → Heap → Prop}
    (x : Ev prog w A (eval value env) h (fun o h1 => Ev prog w A (eval slice env) h1 (fun i h2 => Ev prog w A (subscriptTail value slice o i) h2 P))) : Ev prog w A (eval (.Subscript value slice pos) env) h P :=
  fun s E hs => Subscript_ (x.use hs (Same.refl s) fun _ _ h1 y => y.use rfl h1 fun _ _ h2 z => z.use rfl h2 fun _ _ h3 q => ⟨h3, q⟩)
theorem ev_item_list {value slice : Expr} {a : Addr} {vs : List Value} {n : Nat} {k : Int} {t : Tok} {x : Value} {P : Value → Heap → Prop} (hl : h.get? a = some (lobj vs n))
    (h0 : 0 ≤ k) (hx : vs[k.toNat]? = some x) (hP : P x h) (hsz : vs.length < 2 ^ 62 := by first | (first | lia | omega) | (simp only [List.length_cons, List.length_nil]; (first | lia | omega)))
    (hsl : subscripted slice false (.ref a) (.int k t) = operate [.ref a, .int k t] (getItem (.ref a) (.int k t)) := by with_unfolding_all rfl) :
    Ev prog w A (subscriptTail value slice (.ref a) (.int k t)) h P := fun s E hs => by
  subst hs
  have hk : k.toNat < vs.length := (List.getElem?_eq_some_iff.mp hx).1
  exact tail_any (isList_of hl).typeIs slot_list_getitem.lookup (wpAny_getItem_list (isList_of hl) h0 (by (first | lia | omega)) (by simpa using hx) ⟨Same.refl s, hP⟩) hsl
theorem ev_set_list {a : Addr} {vs : List Value} {n : Nat} {k : Int} {t : Tok} {v : Value} {P : Unit → Heap → Prop} (hl : h.get? a = some (lobj vs n))
    (h0 : 0 ≤ k) (hk : k.toNat < vs.length)
    (hP : ∀ h', h'.get? a = some (lobj (vs.set k.toNat v) n) → Heap.SameBut a h h' → P () h') (hsz : vs.length < 2 ^ 62 := by first | (first | lia | omega) | (simp only [List.length_cons, List.length_nil]; (first | lia | omega))) :
    Ev prog w A (setItem (.ref a) (.int k t) v) h P := fun s E hs => by
  subst hs
  unfold setItem
  try with_reducible refine wpAny_holding ?_
  first | refine wpAny_bind (wpAny_pure ?_) | skip
  have hT := (isList_of hl).typeIs (s := s)
  refine wpAny_bind (wpAny_sequenceKey hT (by decide) ?_)
  refine wpAny_bind (wpAny_callSpecial?_slot (name := Str.ofString "__setitem__") hT slot_list_setitem
    (wpAny_call_entry slot_list_setitem hT entry_list_setitem ?_ (args_list_setitem _ _ _)))
  show wpAny _ _ (Builtin.List.listSubscript? (.int k t) >>= _) _ _ s
  refine wpAny_bind (wpAny_listSubscript_int (fitsIndex_of h0 (by (first | lia | omega))) ?_)
  obtain ⟨j, rfl⟩ := Int.eq_ofNat_of_zero_le h0
  have hj : j < vs.toArray.size := by simpa using hk
  have hx' : vs.toArray[j]? = some vs.toArray[j] := Array.getElem?_eq_getElem hj
  show wpAny _ _ ((seqItemAt a j >>= fun r => Pure.pure (r.map (j, ·))) >>= _) _ _ s
  refine wpAny_bind (wpAny_bind (wpAny_seqItemAt hl rfl (wpAny_pure ?_)))
  rw [hx']
  show wpAny _ _ (setSeqItemAt a j v >>= _) _ _ s
  have e1 : Obj.mapSeq (·.setIfInBounds j v) (lobj vs n) = lobj (vs.set j v) n := by
    simp [Obj.mapSeq, lobj]
  have hfin : (s.heap.update a (Obj.mapSeq (·.setIfInBounds j v))).get? a = some (lobj (vs.set j v) n) := by
    rw [Heap.get?_update_self _ hl (by rw [e1]; rfl), e1]
  refine wpAny_bind (wpAny_setSeqItemAt hl rfl ?_)
  have fin := hP _ hfin (Heap.SameBut.update s.heap a (Obj.mapSeq (·.setIfInBounds j v)))
  first
    | exact wpAny_bind (wpAny_pure (wpAny_pure ⟨.none, rfl, wpAny_pure ⟨⟨rfl, rfl⟩, fin⟩⟩))
    | exact wpAny_pure ⟨.none, rfl, wpAny_pure ⟨⟨rfl, rfl⟩, fin⟩⟩
theorem ev_assign_sub {o i value : Expr} {pos' pos : Pos} {P : Flow → Heap → Prop}
    (x : Ev prog w A (eval value env) h (fun v h1 => Ev prog w A (eval o env) h1 (fun ov h2 => Ev prog w A (eval i env) h2 (fun iv h3 => Ev prog w A (setItem ov iv v) h3 fun _ => P .next))))
    (hs : swapsWith value (some (.Subscript o i pos')) pos.line env = Pure.pure false := by rfl) : Ev prog w A (exec (.Assign [.Subscript o i pos'] value pos) env) h P :=
  fun s E hsh => wpAny_Assign_Subscript (x.use hsh (Same.refl s) fun _ _ h1 y => y.use rfl h1 fun _ _ h2 z => z.use rfl h2 fun _ _ h3 q => q.use rfl h3 fun _ _ h4 r => ⟨h4, r⟩) hs
/-! ## ints -/
variable {a b : Int} {t u : Tok}
theorem ev_add {P : Value → Heap → Prop} (x : ∀ t, P (.int (a + b) t) h) : Ev prog w A (binaryOp .Add (.int a t) (.int b u)) h P := fun s E hs => wpAny_add_int ⟨Same.mk' s _ _, by rw [← hs] at x; exact x _⟩
theorem ev_mod {P : Value → Heap → Prop} (hb : b ≠ 0) (x : ∀ t, P (.int (a.fmod b) t) h) : Ev prog w A (binaryOp .Mod (.int a t) (.int b u)) h P := fun s E hs => mod_int' hb ⟨Same.mk' s _ _, by rw [← hs] at x; exact x _⟩
theorem ev_fdiv {P : Value → Heap → Prop} (hb : b ≠ 0) (hp : Builtin.divisionGoesByPylong a b = false) (x : ∀ t, P (.int (a.fdiv b) t) h) : Ev prog w A (binaryOp .FloorDiv (.int a t) (.int b u)) h P :=
  fun s E hs => floordiv_int hb ⟨Same.mk' s _ _, by rw [← hs] at x; exact x _⟩ (.inl hp)
theorem ev_mul {P : Value → Heap → Prop} (hm : IntMulOk a b) (x : ∀ t, P (.int (a * b) t) h) : Ev prog w A (binaryOp .Mult (.int a t) (.int b u)) h P := fun s E hs => PyProof.Rows.mul_int ⟨Same.mk' s _ _, by rw [← hs] at x; exact x _⟩ hm
theorem ev_sub {P : Value → Heap → Prop} (x : ∀ t, P (.int (a - b) t) h) : Ev prog w A (binaryOp .Sub (.int a t) (.int b u)) h P := fun s E hs => PyProof.Rows.sub_int ⟨Same.mk' s _ _, by rw [← hs] at x; exact x _⟩
theorem ev_and {P : Value → Heap → Prop} (x : ∀ t, P (.int (Builtin.bitAnd a b) t) h) : Ev prog w A (binaryOp .BitAnd (.int a t) (.int b u)) h P := fun s E hs => PyProof.Rows.and_int ⟨Same.mk' s _ _, by rw [← hs] at x; exact x _⟩
theorem ev_eq {P : Value → Heap → Prop} (x : P (.bool (a == b)) h) : Ev prog w A (compareOp .Eq (.int a t) (.int b u)) h P := fun s E hs => PyProof.Rows.eq_int ⟨Same.refl s, by rw [← hs] at x; exact x⟩
theorem ev_ne {P : Value → Heap → Prop} (x : P (.bool (a != b)) h) : Ev prog w A (compareOp .NotEq (.int a t) (.int b u)) h P := fun s E hs => PyProof.Rows.ne_int ⟨Same.refl s, by rw [← hs] at x; exact x⟩
theorem ev_lt {P : Value → Heap → Prop} (x : P (.bool (decide (a < b))) h) : Ev prog w A (compareOp .Lt (.int a t) (.int b u)) h P := fun s E hs => PyProof.Rows.lt_int ⟨Same.refl s, by rw [← hs] at x; exact x⟩
theorem ev_gt {P : Value → Heap → Prop} (x : P (.bool (decide (b < a))) h) : Ev prog w A (compareOp .Gt (.int a t) (.int b u)) h P := fun s E hs => PyProof.Rows.gt_int ⟨Same.refl s, by rw [← hs] at x; exact x⟩
theorem ev_le {P : Value → Heap → Prop} (x : P (.bool (decide (a ≤ b))) h) : Ev prog w A (compareOp .LtE (.int a t) (.int b u)) h P := fun s E hs => PySem.P.le_int ⟨Same.refl s, by rw [← hs] at x; exact x⟩
theorem ev_ge {P : Value → Heap → Prop} (x : P (.bool (decide (a ≥ b))) h) : Ev prog w A (compareOp .GtE (.int a t) (.int b u)) h P := fun s E hs => PySem.P.ge_int ⟨Same.refl s, by rw [← hs] at x; exact x⟩
theorem ev_len {l : Addr} {vs : List Value} {n : Nat} {P : Value → Heap → Prop} (hl : h.get? l = some (lobj vs n)) (x : ∀ t, P (.int vs.length t) h) (hsz : vs.length < 2 ^ 62 := by first | (first | lia | omega) | (simp only [List.length_cons, List.length_nil]; (first | lia | omega))) :
    Ev prog w A (call (.builtin "len") [.ref l]) h P := fun s E hs => by
  subst hs
  have e : (vs.toArray.size : Int) = vs.length := by simp
  exact call_len_list (isList_of hl) (by rw [e]; (first | lia | omega)) (by rw [e]; exact ⟨Same.mk' s _ _, x _⟩)
theorem ev_len_name {x : Str} {p1 p2 p3 : Pos} {l : Addr} {vs : List Value} {n : Nat} {P : Value → Heap → Prop} (S : St B g V env m h) (C : Cx K mg mb B.hb) (hm : mg "len" = none) (hb : mb "len" = some (.builtin "len"))
    (hv : m x = some (.ref l)) (hl : h.get? l = some (lobj vs n)) (y : ∀ t, P (.int vs.length t) h) (hsz : vs.length < 2 ^ 62 := by first | (first | lia | omega) | (simp only [List.length_cons, List.length_nil]; (first | lia | omega)))
    (hk : isVar env x = true := by rfl) (hd : (x == ("__debug__" : Str)) = false := by rfl) (hk' : env.kindOf "len" = some .globalImplicit := by rfl)
    (hg : env.globals = mainGlobals := by rfl) (hbn : env.builtins = builtinsNs := by rfl) : Ev prog w A (eval (.Call (.Name "len" p1) [.Name x p2] [] p3) env) h P :=
  ev_call (ev_builtin S C hm hb (ev_args_cons (ev_var S hv (ev_args_nil ⟨keepable_builtin _ _, ev_len hl y hsz⟩) hk hd)) hk' (by rfl) hg hbn)
end
section
variable {prog : Program} {w : World} {A : Around} {B : Bs} {g g' : Gm} {V V' : List (Addr × Obj)} {env : Env} {m : Str → Option Value} {h h' : Heap} {K : Frag} {mg mb : Str → Option Value}
/-! ## loops -/
theorem evC_for_turn {target it body P} 
    (x : Ev prog w A (pyNext it) h (fun r h1 => match r with
      | none => P .next h1
      | some v => Ev prog w A (letOwnedTupleGo target it v) h1 fun _ h2 => Ev prog w A (assign target env v) h2 fun _ h3 => Ev prog w A (execs body env) h3 fun f h4 => match f with
          | .next | .cont => EvC prog w A (.forLoop target it body [] env) h4 P
          | .brk => P .next h4
          | .ret v => P (.ret v) h4)) : EvC prog w A (.forLoop target it body [] env) h P := fun s hs => by
  refine codeAny_of_tree ?_
  show wpAny _ A ((forTurn target it body [] env).onRaise (fun x => do noteFrame x env; theTreesLotGoes x)) _ _ s
  refine wpAny_noted ?_
  simp only [forTurn]
  refine wpAny_bind (wpAny_standAt (wpAny_bind (wpAny_onRaise (x.use hs (Same.refl s) fun r s₁ h₁ y => ?_))))
  cases r with
  | none => exact wpAny_pure ⟨rfl, codeAny_block (wpAny_execs_nil ⟨.next, rfl, h₁, y⟩)⟩
  | some v =>
    refine wpAny_bind (y.use rfl h₁ fun _ s₂ h₂ y => wpAny_bind (y.use rfl h₂ fun _ s₃ h₃ y => wpAny_bind (y.use rfl h₃ fun f s₄ h₄ y => ?_)))
    cases f with
    | next => exact wpAny_pure ⟨rfl, codeAny_mono (y s₄ rfl) fun r s' ⟨f, e, q1, q2⟩ => ⟨f, e, h₄.trans q1, q2⟩⟩
    | cont => exact wpAny_pure ⟨rfl, codeAny_mono (y s₄ rfl) fun r s' ⟨f, e, q1, q2⟩ => ⟨f, e, h₄.trans q1, q2⟩⟩
    | brk => exact wpAny_pure ⟨_, rfl, h₄, y⟩
    | ret v => exact wpAny_pure ⟨_, rfl, h₄, y⟩
theorem ev_for {target iter body pos P}
    (x : Ev prog w A (eval iter env) h (fun xv h1 => Ev prog w A (pyIter xv) h1 (fun it h2 => EvC prog w A (.forLoop target it body [] env) h2 P)))
    (hs : ∀ x, foldedSetIterable iter env x = Pure.pure x := by intro _; rfl) : Ev prog w A (exec (.For target iter body [] pos) env) h P := fun s E hsh =>
  wpAny_For (x.use hsh (Same.refl s) fun _ _ h1 y => y.use rfl h1 fun _ s2 h2 z => codeAny_mono (z s2 rfl) fun r s' ⟨f, e, q1, q2⟩ => by subst e; exact ⟨h2.trans q1, q2⟩) hs
theorem evC_while_turn {test body P}
    (x : Ev prog w A (isTrue test env (eval test env)) h (fun b h1 => if b then Ev prog w A (execs body env) h1 (fun f h4 => match f with
          | .next | .cont => EvC prog w A (.whileLoop test body [] env) h4 P
          | .brk => P .next h4
          | .ret v => P (.ret v) h4) else P .next h1)) : EvC prog w A (.whileLoop test body [] env) h P := fun s hs => by
  refine codeAny_of_tree ?_
  show wpAny _ A ((whileTurn test body [] env).onRaise (fun x => do noteFrame x env; theTreesLotGoes x)) _ _ s
  refine wpAny_noted ?_
  simp only [whileTurn]
  refine wpAny_bind (x.use hs (Same.refl s) fun b s₁ h₁ y => ?_)
  cases b with
  | false =>
    simp only [Bool.false_eq_true, if_false] at y ⊢
    exact wpAny_bind (wpAny_execs_nil (wpAny_pure ⟨_, rfl, h₁, y⟩))
  | true =>
    simp only [if_true] at y ⊢
    refine wpAny_bind (y.use rfl h₁ fun f s₄ h₄ y => ?_)
    cases f with
    | next => exact wpAny_pure ⟨rfl, codeAny_mono (y s₄ rfl) fun r s' ⟨f, e, q1, q2⟩ => ⟨f, e, h₄.trans q1, q2⟩⟩
    | cont => exact wpAny_pure ⟨rfl, codeAny_mono (y s₄ rfl) fun r s' ⟨f, e, q1, q2⟩ => ⟨f, e, h₄.trans q1, q2⟩⟩
    | brk => exact wpAny_pure ⟨_, rfl, h₄, y⟩
    | ret v => exact wpAny_pure ⟨_, rfl, h₄, y⟩
theorem ev_while {test body pos P} (x : EvC prog w A (.whileLoop test body [] env) h P) : Ev prog w A (exec (.While test body [] pos) env) h P := fun s E hs =>
  wpAny_While (codeAny_mono (x s hs) fun r s' ⟨f, e, q1, q2⟩ => by subst e; exact ⟨q1, q2⟩)
/-! ## iterators -/
noncomputable def ownedKinds : List String := ["enumerate", "zip", "dict_itemiterator", "dict_reverseitemiterator", "odict_iterator", "itertools.zip_longest", "itertools.pairwise"]
structure ItObj (o : Obj) : Prop where
  nocell : ∀ v, o.data ≠ .cell v
  kind : ∃ n, o.cls = .type n ∧ ownedKinds.contains n = false
structure It (prog : Program) (w : World) (A : Around) (I : Addr) (fp : List Addr) (n : Nat) (Pi : Nat → Value → Prop) (SW : Nat → Heap → Prop) : Prop where
  W : Walks prog w A I fp [I] n Pi SW
  obj : ∀ i h, SW i h → ∃ o, h.get? I = some o ∧ ItObj o
theorem ev_letOwned {target : Expr} {I : Addr} {o : Obj} {v : Value} {P : Unit → Heap → Prop} (ho : h.get? I = some o) (hk : ItObj o) (x : P () h) : Ev prog w A (letOwnedTupleGo target (.ref I) v) h P := by
  have fin : ∀ (s : Shared) (E : Value → Shared → Prop), s.heap = h → Same s s ∧ P () s.heap := fun s E hs => ⟨Same.refl s, by rw [hs]; exact x⟩
  obtain ⟨n, hn, hc⟩ := hk.kind
  have two : ∀ (s : Shared) (E : Value → Shared → Prop), s.heap = h → wpAny (model prog w) A (do
      let (.ref r, .ref a) := (Value.ref I, v) | return
      let o ← load r
      match o.cls, o.data with
      | .type n, .fields vs =>
        if ["enumerate", "zip", "dict_itemiterator", "dict_reverseitemiterator", "odict_iterator", "itertools.zip_longest", "itertools.pairwise"].contains n && vs[0]? == some (rawInt a) then
          rule "for.unpacks-the-owned-tuple"
          updateField r 0 .none
      | _, _ => Pure.pure ()) (fun a s' => Same s s' ∧ P a s'.heap) E s := fun s E hs => by
    cases v <;> first | exact wpAny_pure (fin s E hs) | skip
    refine wpAny_bind (wpAny_load (by rw [hs]; exact ho) ?_)
    rw [hn]
    split
    · rename_i q _
      cases q
      have : (["enumerate", "zip", "dict_itemiterator", "dict_reverseitemiterator", "odict_iterator", "itertools.zip_longest", "itertools.pairwise"] : List String).contains n = false := hc
      rw [this]
      simp only [Bool.false_and, Bool.false_eq_true, if_false]
      exact wpAny_pure (fin s E hs)
    · exact wpAny_pure (fin s E hs)
  intro s E hs
  unfold letOwnedTupleGo
  split
  · exact two s E hs
  · exact two s E hs
  · exact wpAny_pure (fin s E hs)
/-- an address that nobody here knows changes, or goes -/
theorem St.forget (S : St B g V env m h) {I : Addr} {o : Obj} (hI : h.get? I = some o) (hnc : ∀ v, o.data ≠ .cell v) (h1 : g I = none) (h2 : I ∉ V.map (·.1)) (h3 : ¬ B.own I) (h4 : B.h₀.get? I = none)
    (k : ∀ b o, b ∉ [I] → h.get? b = some o → h'.get? b = some o) : St B g V env m h' := by
  have kk : ∀ b o, b ≠ I → h.get? b = some o → h'.get? b = some o := fun b o e => k b o (by simpa using e)
  refine { S with fm := S.fm.keeps fun b ob hb e => kk b ob ?_ e, frz := fun b ob e => kk b ob ?_ (S.frz b ob e), keep := fun b ob e hw => kk b ob ?_ (S.keep b ob e hw), vol := fun p hp => kk _ _ ?_ (S.vol p hp), own := fun b hb => ?_ }
  · rintro rfl
    rcases hb with rfl | ⟨x, hx⟩
    · exact h3 S.ownL
    · obtain ⟨oc, ho, hd⟩ := S.fm.cel x b hx
      rw [hI] at ho; cases ho; exact hnc _ hd
  · rintro rfl; rw [h1] at e; cases e
  · rintro rfl; rw [h4] at e; cases e
  · rintro rfl; exact h2 (List.mem_map.mpr ⟨p, hp, rfl⟩)
  · obtain ⟨a1, a2, a3, a4, a5⟩ := S.own b hb
    obtain ⟨ob, ho⟩ := Option.isSome_iff_exists.mp a5
    exact ⟨a1, a2, a3, a4, by rw [kk b ob (by rintro rfl; exact h3 hb) ho]; rfl⟩
theorem St.offV {p : Addr × Obj} (S : St B g (p :: V) env m h) (hW : p.1 ∉ B.W) : St B g V env m h ∧ g p.1 = none ∧ p.1 ∉ V.map (·.1) ∧ ¬ B.own p.1 ∧ B.h₀.get? p.1 = none := by
  have nd := S.nd
  rw [List.map_cons, List.nodup_cons] at nd
  exact ⟨S.drop .head hW, S.volg _ (.head _), nd.1, fun ho => (S.own _ ho).2.2.1 (by rw [List.map_cons]; exact .head _), (S.vol0 _ (.head _)).resolve_right hW⟩
theorem walk_item {I : Addr} {oI : Obj} {fp : List Addr} {n i : Nat} {Pi : Nat → Value → Prop} {SW : Nat → Heap → Prop} {P : Option Value → Heap → Prop} (W : It prog w A I fp n Pi SW) (S : St B g ((I, oI) :: V) env m h) (hW : I ∉ B.W) (st : SW i h) (hi : i < n)
    (hP : ∀ v h' oI', ItObj oI' → Pi i v → SW (i + 1) h' → St B g ((I, oI') :: V) env m h' → P (some v) h') : Ev prog w A (pyNext (.ref I)) h P := fun s E hs => by
  subst hs
  refine W.W.item i s _ E hi st fun v h' tk pv st' k => ⟨Same.mk' s _ _, ?_⟩
  obtain ⟨o', ho', hk'⟩ := W.obj _ _ st'
  obtain ⟨S', x1, x2, x3, x4⟩ := S.offV hW
  have hI := S.getV (.head _)
  have S2 := S'.forget hI (S.nocell _ (.head _)) x1 x2 x3 x4 k
  refine hP v h' o' hk' pv st' ?_
  -- the iterator stands again among the volatile
  exact { S2 with
    vol := fun p hp => by rcases List.mem_cons.mp hp with rfl | hp; exact ho'; exact S2.vol p hp
    volg := fun p hp => by rcases List.mem_cons.mp hp with rfl | hp; exact x1; exact S2.volg p hp
    vol0 := fun p hp => by rcases List.mem_cons.mp hp with rfl | hp; exact .inl x4; exact S2.vol0 p hp
    nocell := fun p hp => by rcases List.mem_cons.mp hp with rfl | hp; exact hk'.nocell; exact S2.nocell p hp
    nd := by rw [List.map_cons, List.nodup_cons]; exact ⟨x2, S2.nd⟩
    WV := fun b hb => by rw [List.map_cons]; exact .tail _ (S2.WV b hb)
    own := fun b hb => by
      obtain ⟨a1, a2, a3, a4, a5⟩ := S2.own b hb
      exact ⟨a1, a2, fun hm => by
        rw [List.map_cons, List.mem_cons] at hm
        rcases hm with rfl | hm
        · exact x3 hb
        · exact a3 hm, a4, a5⟩ }
theorem walk_done {I : Addr} {oI : Obj} {fp : List Addr} {n : Nat} {Pi : Nat → Value → Prop} {SW : Nat → Heap → Prop} {P : Option Value → Heap → Prop} (W : It prog w A I fp n Pi SW) (S : St B g ((I, oI) :: V) env m h) (hW : I ∉ B.W) (st : SW n h)
    (hP : ∀ h', St B g V env m h' → P none h') : Ev prog w A (pyNext (.ref I)) h P := fun s E hs => by
  subst hs
  obtain ⟨S', x1, x2, x3, x4⟩ := S.offV hW
  exact W.W.done s _ E st fun h' tk k => ⟨Same.mk' s _ _, hP h' (S'.forget (S.getV (.head _)) (S.nocell _ (.head _)) x1 x2 x3 x4 k)⟩
/-- the state of an iterator stands through a run that keeps it -/
theorem It.frame {I : Addr} {oI : Obj} {fp : List Addr} {n i : Nat} {Pi : Nat → Value → Prop} {SW : Nat → Heap → Prop} {V₁ V₂ : List (Addr × Obj)} {m₁ m₂ : Str → Option Value} {h₁ h₂ : Heap} {env₂ : Env} {B₂ : Bs} (W : It prog w A I fp n Pi SW) (st : SW i h₁)
    (S₁ : St B g ((I, oI) :: V₁) env m₁ h₁) (S₂ : St B₂ g' ((I, oI) :: V₂) env₂ m₂ h₂) (le : GLe g g') (hfp : ∀ b ∈ fp, b = I ∨ ∃ o, g b = some o) : SW i h₂ := by
  refine W.W.frame i _ _ st fun b hb o e => ?_
  rcases hfp b hb with rfl | ⟨o', ho'⟩
  · have e1 := S₁.getV (.head _)
    rw [e1] at e; cases e
    exact S₂.getV (.head _)
  · have e1 := S₁.frz b o' ho'
    rw [e1] at e; cases e
    exact S₂.frz b _ (le _ _ ho')
noncomputable abbrev Jt := Nat → Gm → List (Addr × Obj) → (Str → Option Value) → Prop
noncomputable def TurnP (B : Bs) (env : Env) (J : Jt) (i : Nat) (g : Gm) (I : Addr) (oI : Obj) (P : Flow → Heap → Prop) (f : Flow) (h : Heap) : Prop := match f with
  | .next | .cont => ∃ g' V' m', GLe g g' ∧ J (i + 1) g' V' m' ∧ St B g' ((I, oI) :: V') env m' h
  | .brk => P .next h
  | .ret v => P (.ret v) h
theorem evC_for {target body} {I : Addr} {oI : Obj} {fp : List Addr} {n : Nat} {Pi : Nat → Value → Prop} {SW : Nat → Heap → Prop} {P : Flow → Heap → Prop} (J : Jt) (W : It prog w A I fp n Pi SW) (hW : I ∉ B.W) (g₀ : Gm)
    (hfp : ∀ b ∈ fp, b = I ∨ ∃ o, g₀ b = some o)
    (turn : ∀ i v g V m h oI, i < n → Pi i v → GLe g₀ g → J i g V m → St B g ((I, oI) :: V) env m h → Ev prog w A (assign target env v) h fun _ h2 => Ev prog w A (execs body env) h2 (TurnP B env J i g I oI P))
    (done : ∀ g V m h, GLe g₀ g → J n g V m → St B g V env m h → P .next h) :
    ∀ (k i : Nat) (g : Gm) (V : List (Addr × Obj)) (m : Str → Option Value) (h : Heap) (oI : Obj), n - i = k → i ≤ n → GLe g₀ g → J i g V m → St B g ((I, oI) :: V) env m h → SW i h → EvC prog w A (.forLoop target (.ref I) body [] env) h P := by
  intro k
  induction k with
  | zero =>
    intro i g V m h oI hk hi le hj S st
    have : i = n := by (first | lia | omega)
    subst this
    exact evC_for_turn (walk_done W S hW st fun h' S' => done g V m h' le hj S')
  | succ k ih =>
    intro i g V m h oI hk hi le hj S st
    refine evC_for_turn (walk_item W S hW st (by (first | lia | omega)) fun v h' oI' hk' pv st' S' => ?_)
    refine ev_letOwned (S'.getV (.head _)) hk' ?_
    refine (turn i v g V m h' oI' (by (first | lia | omega)) pv le hj S').mono fun _ h2 y => y.mono fun f h3 z => ?_
    have go : (∃ g' V' m', GLe g g' ∧ J (i + 1) g' V' m' ∧ St B g' ((I, oI') :: V') env m' h3) → EvC prog w A (.forLoop target (.ref I) body [] env) h3 P := by
      rintro ⟨g', V', m', le', hj', S''⟩
      exact ih (i + 1) g' V' m' h3 oI' (by (first | lia | omega)) (by (first | lia | omega)) (le.trans le') hj' S'' (W.frame st' S' S'' le' fun b hb => (hfp b hb).imp id fun ⟨o, ho⟩ => ⟨o, le _ _ ho⟩)
    cases f with
    | next => exact go z
    | cont => exact go z
    | brk => exact z
    | ret v => exact z
theorem it_list (hh : A.handled = none) {I a : Addr} (hne : a ≠ I) (vs : List Value) : It prog w A I [I, a] vs.length (fun i v => vs[i]? = some v) (fun i h => h.IsListIter I a i ∧ h.IsList a vs.toArray) :=
  ⟨by simpa using Walks.list (prog := prog) (w := w) hh I a hne vs.toArray, fun i h ⟨⟨o, ho, hc, hd⟩, _⟩ => ⟨o, ho, ⟨(fun v e => by rw [hd] at e; cases e), ⟨_, hc, by decide⟩⟩⟩⟩
theorem it_tuple (hh : A.handled = none) {I a : Addr} (hne : a ≠ I) (vs : List Value) : It prog w A I [I, a] vs.length (fun i v => vs[i]? = some v) (fun i h => h.IsTupleIter I a i ∧ h.IsTuple a vs.toArray) :=
  ⟨by simpa using Walks.tuple (prog := prog) (w := w) hh I a hne vs.toArray, fun i h ⟨⟨o, ho, hc, hd⟩, _⟩ => ⟨o, ho, ⟨(fun v e => by rw [hd] at e; cases e), ⟨_, hc, by decide⟩⟩⟩⟩
theorem it_range (hh : A.handled = none) (I : Addr) (n : Nat) : It prog w A I [I] n (fun i v => ∃ t, v = .int i t) (fun i h => IsRangeIter h I i ((n : Int) - (i : Nat)) 1) := by
  have W := Walks.range (prog := prog) (w := w) hh I 0 1 n
  refine ⟨?_, fun i h e => ⟨_, e, ⟨(fun v e => nomatch e), ⟨_, rfl, by decide⟩⟩⟩⟩
  have e1 : (fun (i : Nat) v => ∃ t, v = Value.int (0 + i * 1) t) = fun (i : Nat) v => ∃ t, v = Value.int i t := by funext i v; simp
  have e2 : (fun (i : Nat) h => IsRangeIter h I (0 + (i : Nat) * 1) ((n : Int) - (i : Nat)) 1) = fun (i : Nat) h => IsRangeIter h I i ((n : Int) - (i : Nat)) 1 := by funext i h; simp
  rw [e1, e2] at W; exact W
/-- what pyIter gives: an iterator among the volatile -/
theorem ev_iter_list {a : Addr} {vs : List Value} {n : Nat} {P : Value → Heap → Prop} (S : St B g V env m h) (hh : A.handled = none) (ha : g a = some (lobj vs n))
    (hP : ∀ I oI h', It prog w A I [I, a] vs.length (fun i v => vs[i]? = some v) (fun i h => h.IsListIter I a i ∧ h.IsList a vs.toArray) → St B g ((I, oI) :: V) env m h' → h'.IsListIter I a 0 ∧ h'.IsList a vs.toArray → I ∉ B.W → I = h.objs.size →
      (∀ b o, h.get? b = some o → h'.get? b = some o) → P (.ref I) h') : Ev prog w A (pyIter (.ref a)) h P := fun s E hs => by
  subst hs
  have hl := S.frz _ _ ha
  have hne : a ≠ s.heap.objs.size := Nat.ne_of_lt (Heap.lt_size hl)
  refine wpAny_pyIter_list (isList_of hl) ⟨⟨rfl, rfl⟩, hP _ _ _ (it_list hh hne vs) (S.push_vol { cls := .type "list_iterator", data := .fields #[.ref a, .int 0 0] } rfl (fun v e => nomatch e)) ⟨⟨_, Heap.get?_push_size _ rfl, rfl, rfl⟩, (isList_of hl).push _⟩
    (S.off (fresh_none (Nat.le_refl _))).2.2.2 rfl fun b o e => Heap.get?_push_of_some _ e⟩
theorem ev_iter_tuple {a : Addr} {vs : List Value} {n : Nat} {P : Value → Heap → Prop} (S : St B g V env m h) (hh : A.handled = none) (ha : g a = some (tobj vs n))
    (hP : ∀ I oI h', It prog w A I [I, a] vs.length (fun i v => vs[i]? = some v) (fun i h => h.IsTupleIter I a i ∧ h.IsTuple a vs.toArray) → St B g ((I, oI) :: V) env m h' → h'.IsTupleIter I a 0 ∧ h'.IsTuple a vs.toArray → I ∉ B.W → I = h.objs.size →
      (∀ b o, h.get? b = some o → h'.get? b = some o) → P (.ref I) h') : Ev prog w A (pyIter (.ref a)) h P := fun s E hs => by
  subst hs
  have hl := S.frz _ _ ha
  have ht : s.heap.IsTuple a vs.toArray := ⟨_, hl, rfl, n, rfl⟩
  have hne : a ≠ s.heap.objs.size := Nat.ne_of_lt (Heap.lt_size hl)
  refine wpAny_pyIter_tuple ht ⟨⟨rfl, rfl⟩, hP _ _ _ (it_tuple hh hne vs) (S.push_vol { cls := .type "tuple_iterator", data := .fields #[.ref a, .int 0 0] } rfl (fun v e => nomatch e)) ⟨⟨_, Heap.get?_push_size _ rfl, rfl, rfl⟩, ht.push _⟩
    (S.off (fresh_none (Nat.le_refl _))).2.2.2 rfl fun b o e => Heap.get?_push_of_some _ e⟩
end
/-! ## comprehensions -/
/-- what a scope takes from its surroundings -/
noncomputable def closOf (cells : List (Str × Addr)) : List (Str × NameKind) → List (Str × Addr) → Option (List (Str × Addr))
  | [], acc => some acc
  | (n, k) :: r, acc => if k == .free then (match cells.lookup n with | some a => closOf cells r ((n, a) :: acc) | none => none) else closOf cells r acc
theorem closureFor_of {scope : Scope} {env : Env} {cl : List (Str × Addr)} (e : closOf env.cells scope.names [] = some cl) : closureFor scope env = pure cl := by
  unfold closureFor
  have go : ∀ (names : List (Str × NameKind)) (acc : List (Str × Addr)) (r : List (Str × Addr)), closOf env.cells names acc = some r →
      (forIn names acc fun (x : Str × NameKind) cs => match x with | (name, kind) => if (kind == NameKind.free) = true then (do let a ← cellOf env name; pure (ForInStep.yield ((name, a) :: cs))) else pure (ForInStep.yield cs) : Sem (List (Str × Addr))) = pure r := by
    intro names
    induction names with
    | nil => intro acc r e; cases e; rfl
    | cons p rest ih =>
      intro acc r e
      obtain ⟨n, k⟩ := p
      rw [List.forIn_cons]
      unfold closOf at e
      split at e
      · rename_i hk
        split at e
        · rename_i a ha
          dsimp only
          rw [if_pos hk]
          unfold cellOf
          rw [ha]
          exact ih _ _ e
        · cases e
      · rename_i hk
        dsimp only
        rw [if_neg hk]
        exact ih _ _ e
  exact (congrArg (· >>= fun s => pure s) (go scope.names [] cl e)).trans rfl
theorem closOf_free {cells : List (Str × Addr)} : ∀ {names : List (Str × NameKind)} {acc cl : List (Str × Addr)}, closOf cells names acc = some cl → ∀ p ∈ cl, p ∈ acc ∨ (p.1, NameKind.free) ∈ names
  | [], acc, cl, e, p, hp => by cases e; exact .inl hp
  | (n, k) :: r, acc, cl, e, p, hp => by
    unfold closOf at e
    split at e
    · rename_i hk
      split at e
      · rename_i a ha
        rcases closOf_free e p hp with z | z
        · rcases List.mem_cons.mp z with rfl | z
          · right; rw [show k = .free from by simpa using hk]; exact .head _
          · exact .inl z
        · exact .inr (.tail _ z)
      · cases e
    · exact (closOf_free e p hp).imp id (.tail _)
theorem cellsFrom_cell : ∀ {names : List (Str × NameKind)} {n : Nat} {acc : List (Str × Addr)}, ∀ p ∈ cellsFrom n names acc, p ∈ acc ∨ (p.1, NameKind.cell) ∈ names
  | [], _, _, p, hp => .inl hp
  | (x, k) :: r, n, acc, p, hp => by
    unfold cellsFrom at hp
    split at hp
    · rename_i hk
      rcases cellsFrom_cell p hp with z | z
      · rcases List.mem_cons.mp z with rfl | z
        · right; rw [show k = .cell from by simpa using hk]; exact .head _
        · exact .inl z
      · exact .inr (.tail _ z)
    · exact (cellsFrom_cell p hp).imp id (.tail _)
noncomputable def scopeOk (scope : Scope) : Bool := scope.kind == .function && scope.names.all fun p => scope.names.lookup p.1 == some p.2
theorem scopeOk_kind {scope : Scope} (h : scopeOk scope = true) : scope.kind = .function := by
  unfold scopeOk at h; simpa using (Bool.and_eq_true_iff.mp h).1
theorem scopeOk_mem {scope : Scope} (h : scopeOk scope = true) {x : Str} {k : NameKind} (hx : (x, k) ∈ scope.names) : scope.names.lookup x = some k := by
  unfold scopeOk at h; simpa using List.all_eq_true.mp (Bool.and_eq_true_iff.mp h).2 _ hx
theorem closOf_mem {cells : List (Str × Addr)} : ∀ {names : List (Str × NameKind)} {acc cl : List (Str × Addr)}, closOf cells names acc = some cl → (∀ p ∈ acc, cells.lookup p.1 = some p.2) → ∀ p ∈ cl, cells.lookup p.1 = some p.2
  | [], acc, cl, e, h => by cases e; exact h
  | (n, k) :: r, acc, cl, e, h => by
    unfold closOf at e
    split at e
    · split at e
      · rename_i a ha
        refine closOf_mem e fun p hp => ?_
        rcases List.mem_cons.mp hp with rfl | hp
        · exact ha
        · exact h p hp
      · cases e
    · exact closOf_mem e h
noncomputable def cmpEnv (scope : Scope) (cl : List (Str × Addr)) (C : Addr) (env : Env) : Env :=
  { scope := relabel scope env, locals := C, globals := env.globals, cells := cellsFrom (C + 1) scope.names cl, qual := env.qual, func := none, code := env.code, frame := env.frame, builtins := env.builtins }
/-- what the names of the comprehension hold at its start -/
noncomputable def cmpM (cl : List (Str × Addr)) (m : Str → Option Value) : Str → Option Value := fun x => if (cl.lookup x).isSome then m x else none
/-- the new cells of a scope -/
noncomputable def newCells (names : List (Str × NameKind)) : List Str := (names.filter (·.2 == .cell)).map (·.1)
theorem cellsFrom_split : ∀ (names : List (Str × NameKind)) (n : Nat) (acc : List (Str × Addr)), cellsFrom n names acc = cellsFrom n names [] ++ acc
  | [], _, _ => rfl
  | (x, k) :: r, n, acc => by
    unfold cellsFrom
    split
    · rw [cellsFrom_split r (n + 1) ((x, n) :: acc), cellsFrom_split r (n + 1) [(x, n)], List.append_assoc]; rfl
    · exact cellsFrom_split r n acc
section
variable {prog : Program} {w : World} {A : Around} {B : Bs} {g g' : Gm} {V V' : List (Addr × Obj)} {env : Env} {m : Str → Option Value} {h h' : Heap} {K : Frag} {mg mb : Str → Option Value}
noncomputable def inBs (B : Bs) (g : Gm) (h₀ : Heap) (W : List Addr) (C : Addr) (names : List (Str × NameKind)) : Bs := ⟨B.hb, g, h₀, W, fnOwn C (cellsFrom (C + 1) names [])⟩
theorem lookup_append_cases {α : Type} {l r : List (Str × α)} {x : Str} {c : α} (e : (l ++ r).lookup x = some c) : l.lookup x = some c ∨ (l.lookup x = none ∧ r.lookup x = some c) := by
  rw [List.lookup_append] at e
  cases q : l.lookup x with
  | some a => rw [q] at e; left; simpa using e
  | none => rw [q] at e; right; exact ⟨rfl, by simpa using e⟩
/-- the heap and the state when a comprehension's own frame is laid -/
theorem ev_cmpEnv {scope : Scope} {cl : List (Str × Addr)} {P : Env → Heap → Prop} {h₀ : Heap} {W : List Addr} (S : St B g V env m h) (k0 : ∀ b o, h₀.get? b = some o → b ∉ W → h.get? b = some o)
    (hv0 : ∀ p ∈ V, h₀.get? p.1 = none ∨ p.1 ∈ W) (hWV : ∀ a ∈ W, a ∈ V.map (·.1)) (ok : scopeOk scope = true) (hcl : closOf env.cells scope.names [] = some cl)
    (hP : ∀ C h', h.get? C = none → (∀ b o, h.get? b = some o → h'.get? b = some o) → St (inBs B g h₀ W C scope.names) g V (cmpEnv scope cl C env) (cmpM cl m) h' → P (cmpEnv scope cl C env) h') :
    Ev prog w A (newFunctionEnv scope env.globals cl [] env.qual none .none (some env)) h (fun cenv h' => P { cenv with scope := relabel scope env } h') := fun s E hs => by
  subst hs
  have hk := scopeOk_kind ok
  have clfree : ∀ x, (cl.lookup x).isSome = true → scope.names.lookup x = some .free := fun x hx => by
    obtain ⟨c, hc⟩ := Option.isSome_iff_exists.mp hx
    exact scopeOk_mem ok ((closOf_free hcl _ (mem_of_lookup hc)).resolve_left (fun z => nomatch z))
  have hdis : ∀ n x c, (cellsFrom n scope.names []).lookup x = some c → cl.lookup x = none := fun n x c hc => by
    have := scopeOk_mem ok ((cellsFrom_cell _ (mem_of_lookup hc)).resolve_left (fun z => nomatch z))
    cases q : cl.lookup x with
    | none => rfl
    | some a => have := clfree x (by rw [q]; rfl); simp_all
  simp only [newFunctionEnv, Option.isSome_some, if_true]
  refine wpAny_bind (wpAny_alloc ?_)
  refine wpAny_bind (wpAny_layCells _ (fun name kind cells => by cases hkc : kind == NameKind.cell <;> simp [hkc]) _ _ _ _ ?_)
  refine wpAny_bind ?_
  rw [List.forIn_nil]
  refine wpAny_pure (wpAny_pure ⟨⟨rfl, rfl⟩, ?_⟩)
  have e1 : ({ s with heap := s.heap.push { cls := .type "dict", data := .dict #[] } } : Shared).heap.objs.size = s.heap.objs.size + 1 := Heap.size_push ..
  rw [e1]
  refine hP s.heap.objs.size _ (fresh_none (Nat.le_refl _)) (fun b o e => pushCells_keeps _ _ b o (Heap.get?_push_of_some _ e)) ?_
  have oks := cellsFrom_ok scope.names (s.heap.push { cls := .type "dict", data := .dict #[] }) (s.heap.objs.size + 1) [] ⟨fun _ _ hm => (nomatch hm), List.Pairwise.nil⟩ (by rw [Heap.size_push]; exact Nat.le_refl _)
  rw [Heap.size_push] at oks
  have kp : ∀ b o, s.heap.get? b = some o → (pushCells (s.heap.push { cls := .type "dict", data := .dict #[] }) scope.names).get? b = some o := fun b o e => pushCells_keeps _ _ b o (Heap.get?_push_of_some _ e)
  have hn : (pushCells (s.heap.push { cls := .type "dict", data := .dict #[] }) scope.names).Ns s.heap.objs.size (fun _ => none) := (Heap.Ns.new s.heap (.type "dict")).keeps (pushCells_keeps _ _)
  have fr : ∀ b, s.heap.objs.size ≤ b → s.heap.get? b = none := fun b hb => fresh_none hb
  have newc : ∀ x c, (cellsFrom (s.heap.objs.size + 1) scope.names []).lookup x = some c → (pushCells (s.heap.push { cls := .type "dict", data := .dict #[] }) scope.names).IsCell c none ∧ s.heap.objs.size + 1 ≤ c := fun x c hx => oks.empty x c (mem_of_lookup hx)
  have oldc : ∀ x c, cl.lookup x = some c → env.cells.lookup x = some c := fun x c hx => closOf_mem hcl (fun p hp => nomatch hp) (x, c) (mem_of_lookup hx)
  have oldlt : ∀ x c, cl.lookup x = some c → c < s.heap.objs.size := fun x c hx => (S.fm.cel x c (oldc x c hx)).lt
  have cases_ : ∀ x c, (cellsFrom (s.heap.objs.size + 1) scope.names cl).lookup x = some c → (cellsFrom (s.heap.objs.size + 1) scope.names []).lookup x = some c ∨ cl.lookup x = some c := fun x c hx => by
    rw [cellsFrom_split] at hx
    exact (lookup_append_cases hx).imp id fun q => q.2
  refine { base := S.hbg, fm := ⟨⟨_, hn, fun x hx => ?_⟩, fun x c hc => ?_, fun x y c hx hy => ?_⟩, le := GLe.refl g, frz := fun b o e => kp b o (S.frz b o e), new := fun b o e => .inl e, keep := fun b o e hb => kp b o (k0 b o e hb), vol := fun p hp => kp _ _ (S.vol p hp),
           volg := S.volg, vol0 := hv0, nocell := S.nocell, nd := S.nd, WV := hWV, ownL := .inl rfl, own := fun b hb => ?_, kind := hk }
  · -- a local of the comprehension holds nothing yet
    have hl : cl.lookup x = none := by
      cases q : cl.lookup x with
      | none => rfl
      | some c =>
        exfalso
        -- the table's kind of x is its first one
        have h3 : (relabel scope env).names.lookup x = some .local := hx
        have h4 : ∀ (l : List (Str × NameKind)), (l.map fun (n, k) => if (k == .free && env.scope.kind == .function && env.kindOf n == some .cell) then (n, NameKind.cell) else (n, k)).lookup x = some .local → l.lookup x = some .local := by
          intro l
          induction l with
          | nil => intro e; simp at e
          | cons q rest ih =>
            obtain ⟨n, k⟩ := q
            intro e
            rw [List.map_cons] at e
            by_cases hc : (k == .free && env.scope.kind == .function && env.kindOf n == some .cell) = true
            · dsimp only at e
              rw [if_pos hc, List.lookup_cons] at e
              rw [List.lookup_cons]
              cases hxn : x == n with
              | true => rw [hxn] at e; cases e
              | false => rw [hxn] at e; exact ih e
            · dsimp only at e
              rw [if_neg hc, List.lookup_cons] at e
              rw [List.lookup_cons]
              cases hxn : x == n with
              | true => rw [hxn] at e; exact e
              | false => rw [hxn] at e; exact ih e
        have h5 := h4 _ h3
        -- what is free is bound by no local of the same table
        have := clfree x (by rw [q]; rfl)
        rw [h5] at this; cases this
    unfold cmpM; rw [hl]; rfl
  · rcases cases_ x c hc with q | q
    · have hnone : cl.lookup x = none := hdis _ x c q
      have : cmpM cl m x = none := by unfold cmpM; rw [hnone]; rfl
      rw [this]; exact (newc x c q).1
    · have : cmpM cl m x = m x := by unfold cmpM; rw [q]; rfl
      rw [this]; exact (S.fm.cel x c (oldc x c q)).keeps kp
  · rcases cases_ x c hx with q | q <;> rcases cases_ y c hy with q' | q'
    · exact name_of_addr oks.apart (mem_of_lookup q) (mem_of_lookup q')
    · exact absurd (oldlt y c q') (Nat.not_lt.mpr (Nat.le_of_succ_le (newc x c q).2))
    · exact absurd (oldlt x c q) (Nat.not_lt.mpr (Nat.le_of_succ_le (newc y c q').2))
    · exact S.fm.apart x y c (oldc x c q) (oldc y c q')
  · have hnone : s.heap.get? b = none := by
      rcases hb with rfl | ⟨x, hx⟩
      · exact fr _ (Nat.le_refl _)
      · exact fr _ (Nat.le_of_succ_le (newc x b hx).2)
    obtain ⟨o1, o2, o3, o4⟩ := S.off hnone
    have nW : b ∉ W := fun hw => o2 (hWV b hw)
    refine ⟨o1, ?_, o2, nW, ?_⟩
    · show h₀.get? b = none
      cases q : h₀.get? b with
      | none => rfl
      | some o => have := k0 b o q nW; rw [hnone] at this; cases this
    rcases hb with rfl | ⟨x, hx⟩
    · obtain ⟨o, _, _, e, _⟩ := hn
      rw [e]; rfl
    · obtain ⟨o, e, _⟩ := (newc x b hx).1
      rw [e]; rfl
end
section
variable {prog : Program} {w : World} {A : Around} {B : Bs} {g g' : Gm} {V V' : List (Addr × Obj)} {env : Env} {m : Str → Option Value} {h h' : Heap} {K : Frag} {mg mb : Str → Option Value}
theorem St.include (S : St B g V env m h) {a : Addr} {o : Obj} (ho : h.get? a = some o) (hg : g a = none) (hV : a ∉ V.map (·.1)) (h0 : B.h₀.get? a = none) (hown : ¬ B.own a) (hnc : ∀ v, o.data ≠ .cell v) : St B g ((a, o) :: V) env m h :=
  { S with
    vol := fun p hp => by rcases List.mem_cons.mp hp with rfl | hp; exact ho; exact S.vol p hp
    volg := fun p hp => by rcases List.mem_cons.mp hp with rfl | hp; exact hg; exact S.volg p hp
    vol0 := fun p hp => by rcases List.mem_cons.mp hp with rfl | hp; exact .inl h0; exact S.vol0 p hp
    nocell := fun p hp => by rcases List.mem_cons.mp hp with rfl | hp; exact hnc; exact S.nocell p hp
    nd := by rw [List.map_cons, List.nodup_cons]; exact ⟨hV, S.nd⟩
    WV := fun b hb => by rw [List.map_cons]; exact .tail _ (S.WV b hb)
    own := fun b hb => by
      obtain ⟨a1, a2, a3, a4, a5⟩ := S.own b hb
      exact ⟨a1, a2, fun hm => by
        rw [List.map_cons, List.mem_cons] at hm
        rcases hm with rfl | hm
        · exact hown hb
        · exact a3 hm, a4, a5⟩ }
/-- back from a comprehension's frame -/
theorem St.outer {V₁ V₅ : List (Addr × Obj)} {g₁ g₅ : Gm} {m₁ m₅ : Str → Option Value} {h₁ h₅ : Heap} {cenv : Env} {names : List (Str × NameKind)} {D : Addr} {oD : Obj}
    (S1 : St B g₁ V₁ env m₁ h₁) (S5 : St (inBs B g₁ h₁ (V₁.map (·.1)) cenv.locals names) g₅ ((D, oD) :: V₅) cenv m₅ h₅) (hV : V₅.map (·.1) = V₁.map (·.1)) :
    ∃ oC mC, h₅.Ns cenv.locals mC ∧ St B g₅ ((cenv.locals, oC) :: (D, oD) :: V₅) env m₁ h₅ := by
  have nd := S5.nd
  rw [List.map_cons, List.nodup_cons, hV] at nd
  have S6 : St B g₅ V₅ env m₁ h₅ := S1.step S5.ext (fun a ha => ha) hV (fun p hp => S5.vol p (.tail _ hp)) (fun p hp => S5.nocell p (.tail _ hp))
  have hD1 : h₁.get? D = none := (S5.vol0 _ (.head _)).resolve_right nd.1
  obtain ⟨d1, d2, d3, d4⟩ := S1.off hD1
  have S7 := S6.include (S5.vol _ (.head _)) (S5.volg _ (.head _)) (by rw [hV]; exact nd.1) (S1.h0_new hD1) d3 (S5.nocell _ (.head _))
  obtain ⟨mC, hn, _⟩ := S5.fm.loc
  obtain ⟨c1, c2, c3, c4, c5⟩ := S5.own _ S5.ownL
  obtain ⟨oC, es, ep, hoC, hdC, r⟩ := id hn
  exact ⟨oC, mC, hn, S7.include hoC c1 c3 (S1.h0_new c2) (S1.off c2).2.2.1 (fun v e => by rw [hdC] at e; cases e)⟩
/-! ## the turns of a comprehension -/
noncomputable def testsT (ifs : List Expr) (env : Env) : Sem Bool := forIn ifs true fun c r => if r = true then do let ok ← isTrue c env (eval c env); pure (ForInStep.yield ok) else pure (ForInStep.yield r)
noncomputable def InnerE (prog : Program) (w : World) (A : Around) (elt : Expr) (gens : List Comprehension) (scope : Scope) (pos : Pos) (d : Nat) (acc : Value) (env : Env) (h : Heap) (Q : Heap → Prop) : Prop := match gens[d + 1]? with
  | some g' => Ev prog w A (eval g'.iter env) h fun x h1 => Ev prog w A (pyIter x) h1 fun it h2 => EvC prog w A (.compStart (.ListComp elt gens scope pos) (d + 1) it acc env) h2 fun _ h3 => Q h3
  | none => Ev prog w A (eval elt env) h fun x h1 => Ev prog w A (call (.builtin "list.append") [acc, x]) h1 fun _ h2 => Q h2
theorem ev_tests_nil {P : Bool → Heap → Prop} (x : P true h) : Ev prog w A (testsT [] env) h P := Ev.pure x
theorem ev_tests_one {c : Expr} {P : Bool → Heap → Prop} (x : Ev prog w A (isTrue c env (eval c env)) h P) : Ev prog w A (testsT [c] env) h P := fun s E hs => wpAny_tests_one (x s E hs)
theorem evC_comp_turn {elt : Expr} {gens : List Comprehension} {scope : Scope} {pos : Pos} {d : Nat} {it acc : Value} {gc : Comprehension} {P : Flow → Heap → Prop} (hg : gens[d]? = some gc) (ha : gc.is_async = 0)
    (hin : ∀ g', gens[d + 1]? = some g' → g'.is_async = 0 ∧ ∀ x, foldedSetIterable g'.iter env x = Pure.pure x)
    (x : Ev prog w A (pyNext it) h (fun r h1 => match r with
      | none => P .next h1
      | some v => Ev prog w A (letOwnedTupleGo gc.target it v) h1 fun _ h2 => Ev prog w A (assign gc.target env v) h2 fun _ h3 => Ev prog w A (testsT gc.ifs env) h3 fun ok h4 =>
          if ok = true then InnerE prog w A elt gens scope pos d acc env h4 fun h5 => EvC prog w A (.compLoop (.ListComp elt gens scope pos) d it acc env) h5 P
          else EvC prog w A (.compLoop (.ListComp elt gens scope pos) d it acc env) h4 P)) : EvC prog w A (.compLoop (.ListComp elt gens scope pos) d it acc env) h P := fun s hs => by
  refine codeAny_of_tree ?_
  show wpAny _ A ((compTurn (.ListComp elt gens scope pos) d it acc env).onRaise (fun x => do noteFrame x env; theTreesLotGoes x)) _ _ s
  refine wpAny_noted ?_
  unfold compTurn
  have ha' : (gc.is_async != 0) = false := by rw [ha]; rfl
  simp only [hg, ha', Bool.false_eq_true, if_false]
  refine wpAny_bind (wpAny_standAt (wpAny_bind (x.use hs (Same.refl s) fun r s₁ h₁ y => ?_)))
  have again_ : ∀ s', Same s s' → EvC prog w A (.compLoop (.ListComp elt gens scope pos) d it acc env) s'.heap P → wpAny (model prog w) A (again (.compLoop (.ListComp elt gens scope pos) d it acc env))
      (fun fin s' => match fin with | .done f => (∃ f', (Except.ok f : Result) = .ok f' ∧ Same s s' ∧ P f' s'.heap) | .again c' => c'.quiet = true ∧ codeAny (model prog w) A c' (fun r s' => ∃ f, r = .ok f ∧ Same s s' ∧ P f s'.heap) s') (notedBy (model prog w) A env fun e s' => ∃ f, (Except.error e : Result) = .ok f ∧ Same s s' ∧ P f s'.heap) s' := fun s' h1 y =>
    wpAny_pure ⟨rfl, codeAny_mono (y s' rfl) fun r s'' ⟨f, e, q1, q2⟩ => ⟨f, e, h1.trans q1, q2⟩⟩
  cases r with
  | none => exact wpAny_pure ⟨_, rfl, h₁, y⟩
  | some v =>
    refine wpAny_bind (y.use rfl h₁ fun _ s₂ h₂ y => wpAny_bind (y.use rfl h₂ fun _ s₃ h₃ y => wpAny_bind (y.use rfl h₃ fun ok s₄ h₄ y => ?_)))
    cases ok with
    | false => exact again_ s₄ h₄ y
    | true =>
      simp only [if_true] at y ⊢
      unfold InnerE at y
      cases hn : gens[d + 1]? with
      | none =>
        rw [hn] at y
        exact wpAny_bind (wpAny_bind (y.use rfl h₄ fun x s₅ h₅ y => wpAny_bind (y.use rfl h₅ fun _ s₆ h₆ y => wpAny_pure (again_ _ h₆ y))))
      | some g' =>
        rw [hn] at y
        obtain ⟨ha2, hf2⟩ := hin g' hn
        have ha3 : (g'.is_async != 0) = false := by rw [ha2]; rfl
        refine wpAny_bind (y.use rfl h₄ fun x s₅ h₅ y => wpAny_bind (wpAny_standAt ?_))
        simp only [ha3, Bool.false_eq_true, if_false]
        refine wpAny_bind (wpAny_of_eq (hf2 x) (wpAny_bind (wpAny_holding (y.use rfl h₅ fun it' s₆ h₆ y => ?_))))
        refine wpAny_bind (wpAny_runOwn (codeAny_mono (y s₆ rfl) fun r s₇ ⟨f, e, q1, q2⟩ => ?_))
        subst e
        exact again_ _ (h₆.trans q1) q2
theorem evC_compStart {elt : Expr} {gens : List Comprehension} {scope : Scope} {pos : Pos} {d : Nat} {it acc : Value} {gc : Comprehension} {P : Flow → Heap → Prop} (hg : gens[d]? = some gc) (ha : gc.is_async = 0)
    (x : EvC prog w A (.compLoop (.ListComp elt gens scope pos) d it acc env) h P)
    (y : Ev prog w A (pyIter it) h fun it' h1 => EvC prog w A (.compLoop (.ListComp elt gens scope pos) d it' acc env) h1 P) :
    EvC prog w A (.compStart (.ListComp elt gens scope pos) d it acc env) h P := fun s hs => by
  refine codeAny_of_tree ?_
  show wpAny _ _ ((compStart (.ListComp elt gens scope pos) d it acc env).onRaise (fun x => do noteFrame x env; standAt theWindowsPlace)) _ _ s
  refine wpAny_notedAt ?_
  unfold compStart
  have e1 : (clausesOf (.ListComp elt gens scope pos))[d]? = some gc := hg
  have ha' : (gc.is_async != 0) = false := by rw [ha]; rfl
  simp only [e1, Option.elim_some, ha', Bool.false_eq_true, if_false]
  refine wpAny_bind (wpAny_askSetting (wpAny_ite ?_))
  split
  · exact wpAny_pure ⟨rfl, x s hs⟩
  · exact wpAny_bind (wpAny_rule (wpAny_bind (wpAny_standAt (wpAny_bind (y.use hs (Same.refl s) fun it' s' h1 z => wpAny_pure ⟨rfl, codeAny_mono (z s' rfl) fun r s'' ⟨f, e, q1, q2⟩ => ⟨f, e, h1.trans q1, q2⟩⟩)))))
end
noncomputable def robj (n : Nat) (t u v : Tok) : Obj := { cls := .type "range", dict := none, data := .fields #[.int 0 t, .int n u, .int 1 v], slots := #[] }
/-- what may be walked: a list, a tuple, a range, all of them frozen -/
inductive Src (g : Gm) : Value → Nat → (Nat → Value → Prop) → Prop
  | list {a vs k} : g a = some (lobj vs k) → Src g (.ref a) vs.length (fun i v => vs[i]? = some v)
  | tuple {a vs k} : g a = some (tobj vs k) → Src g (.ref a) vs.length (fun i v => vs[i]? = some v)
  | range {a n t u v} : g a = some (robj n t u v) → n < 2 ^ 62 → Src g (.ref a) n (fun i x => ∃ t, x = .int i t)
noncomputable def names (cl : List (Str × Addr)) : List Str := cl.map (·.1)
section
variable {prog : Program} {w : World} {A : Around} {B : Bs} {g g' : Gm} {V V' : List (Addr × Obj)} {env : Env} {m : Str → Option Value} {h h' : Heap} {K : Frag} {mg mb : Str → Option Value}
theorem ev_iter_src {xv : Value} {n : Nat} {Pi : Nat → Value → Prop} {P : Value → Heap → Prop} (S : St B g V env m h) (hh : A.handled = none) (src : Src g xv n Pi)
    (hP : ∀ I oI h' fp SW, It prog w A I fp n Pi SW → SW 0 h' → (∀ b ∈ fp, b = I ∨ ∃ o, g b = some o) → St B g ((I, oI) :: V) env m h' → I ∉ B.W → h.get? I = none → (∀ b o, h.get? b = some o → h'.get? b = some o) → P (.ref I) h') : Ev prog w A (pyIter xv) h P := by
  have fk : ∀ {I a : Addr} {o : Obj}, g a = some o → ∀ b ∈ [I, a], b = I ∨ ∃ o, g b = some o := fun e b hb => by
    rcases List.mem_cons.mp hb with rfl | hb
    · exact .inl rfl
    · rw [List.mem_singleton.mp hb]; exact .inr ⟨_, e⟩
  cases src with
  | @list a vs k ha => exact ev_iter_list S hh ha fun I oI h' W S' st hW hI kp => hP I oI h' _ _ W st (fk ha) S' hW (hI ▸ fresh_none (Nat.le_refl _)) kp
  | @tuple a vs k ha => exact ev_iter_tuple S hh ha fun I oI h' W S' st hW hI kp => hP I oI h' _ _ W st (fk ha) S' hW (hI ▸ fresh_none (Nat.le_refl _)) kp
  | @range a n t u v ha hn =>
    intro s E hs
    subst hs
    have hr : IsRange s.heap a 0 n 1 t u v := S.frz _ _ ha
    refine wpAny_pyIter_range hr (small_one (by decide) (by decide) (by (first | lia | omega)) (by (first | lia | omega))) ⟨⟨rfl, rfl⟩, ?_⟩
    have e1 : Builtin.Range.rangeSize 0 n 1 = ((n : Int) - (0 : Nat)) := by rw [rangeSize_nat]; (first | lia | omega)
    rw [e1]
    exact hP _ _ _ _ _ (it_range hh _ n) (Heap.get?_push_size _ rfl) (fun b hb => .inl (List.mem_singleton.mp hb)) (S.push_vol _ rfl (fun v e => nomatch e)) (S.off (fresh_none (Nat.le_refl _))).2.2.2 (fresh_none (Nat.le_refl _)) fun b o e => Heap.get?_push_of_some _ e
theorem ev_range {n : Nat} {t : Tok} {P : Value → Heap → Prop} (S : St B g V env m h) (hn : n < 2 ^ 62) (hP : ∀ r g' h', GLe g g' → Src g' (.ref r) n (fun i x => ∃ t, x = .int i t) → St B g' V env m h' → P (.ref r) h') :
    Ev prog w A (call (.type "range") [.int n t]) h P := fun s E hs => by
  subst hs
  refine call_range_1 ⟨⟨rfl, rfl⟩, ?_⟩
  obtain ⟨g', le, hg, S'⟩ := S.push_frz { cls := .type "range", data := .fields #[.int 0 s.toks, .int n t, .int 1 (s.toks + 1)] } rfl
  exact hP _ g' _ le (.range (t := s.toks) (u := t) (v := s.toks + 1) hg hn) S'
theorem St.perm (S : St B g V env m h) (p : V.Perm V') : St B g V' env m h :=
  { S with
    vol := fun q hq => S.vol q (p.mem_iff.mpr hq)
    volg := fun q hq => S.volg q (p.mem_iff.mpr hq)
    vol0 := fun q hq => S.vol0 q (p.mem_iff.mpr hq)
    nocell := fun q hq => S.nocell q (p.mem_iff.mpr hq)
    nd := (p.map _).nodup_iff.mp S.nd
    WV := fun b hb => (p.map _).mem_iff.mp (S.WV b hb)
    own := fun b hb => let ⟨a1, a2, a3, a4, a5⟩ := S.own b hb; ⟨a1, a2, fun hm => a3 ((p.map _).mem_iff.mpr hm), a4, a5⟩ }
inductive ForK (B : Bs) (env : Env) (J : Jt) (T : Gm → Nat → (Nat → Value → Prop) → Prop) (P : Flow → Heap → Prop) (xv : Value) (h1 : Heap) : Prop
  | mk (g₁ : Gm) (V₁ : List (Addr × Obj)) (m₁ : Str → Option Value) (n : Nat) (Pi : Nat → Value → Prop) : Src g₁ xv n Pi → St B g₁ V₁ env m₁ h1 → J 0 g₁ V₁ m₁ → T g₁ n Pi → (∀ g V m h, GLe g₁ g → J n g V m → St B g V env m h → P .next h) → ForK B env J T P xv h1
/-- for over a source -/
theorem ev_for_src {target iter : Expr} {body : List Stmt} {pos : Pos} {P : Flow → Heap → Prop} (J : Jt) (hh : A.handled = none)
    (x : Ev prog w A (eval iter env) h (ForK B env J (fun g₁ n Pi => ∀ i v g V m h I oI, i < n → Pi i v → GLe g₁ g → J i g V m → St B g ((I, oI) :: V) env m h → Ev prog w A (assign target env v) h fun _ h2 => Ev prog w A (execs body env) h2 (TurnP B env J i g I oI P)) P))
    (hs : ∀ x, foldedSetIterable iter env x = Pure.pure x := by intro _; rfl) : Ev prog w A (exec (.For target iter body [] pos) env) h P :=
  ev_for (x.mono fun xv h1 ⟨g₁, V₁, m₁, n, Pi, src, S, j0, turn, done⟩ => ev_iter_src S hh src fun I oI h' fp SW W st hfp S' hW _ _ =>
    evC_for (oI := oI) J W hW g₁ hfp (fun i v g V m h oI => turn i v g V m h I oI) done n 0 g₁ V₁ m₁ h' oI rfl (Nat.zero_le _) (GLe.refl _) j0 S' st) hs
/-! ## comprehensions over sources -/
noncomputable def TurnC (B : Bs) (env : Env) (J : Jt) (i : Nat) (g : Gm) (I : Addr) (oI : Obj) (h : Heap) : Prop := ∃ g' V' m', GLe g g' ∧ J (i + 1) g' V' m' ∧ St B g' ((I, oI) :: V') env m' h
theorem evC_comp_loop {elt : Expr} {gens : List Comprehension} {scope : Scope} {pos : Pos} {d : Nat} {acc : Value} {gc : Comprehension} {P : Flow → Heap → Prop} (hg : gens[d]? = some gc) (ha : gc.is_async = 0)
    (hin : ∀ g', gens[d + 1]? = some g' → g'.is_async = 0 ∧ ∀ x, foldedSetIterable g'.iter env x = Pure.pure x)
    {I : Addr} {fp : List Addr} {n : Nat} {Pi : Nat → Value → Prop} {SW : Nat → Heap → Prop} (J : Jt) (W : It prog w A I fp n Pi SW) (hW : I ∉ B.W) (g₀ : Gm)
    (hfp : ∀ b ∈ fp, b = I ∨ ∃ o, g₀ b = some o)
    (turn : ∀ i v g V m h oI, i < n → Pi i v → GLe g₀ g → J i g V m → St B g ((I, oI) :: V) env m h → Ev prog w A (assign gc.target env v) h fun _ h2 => Ev prog w A (testsT gc.ifs env) h2 fun ok h3 =>
      if ok = true then InnerE prog w A elt gens scope pos d acc env h3 (TurnC B env J i g I oI) else TurnC B env J i g I oI h3)
    (done : ∀ g V m h, GLe g₀ g → J n g V m → St B g V env m h → P .next h) :
    ∀ (k i : Nat) (g : Gm) (V : List (Addr × Obj)) (m : Str → Option Value) (h : Heap) (oI : Obj), n - i = k → i ≤ n → GLe g₀ g → J i g V m → St B g ((I, oI) :: V) env m h → SW i h → EvC prog w A (.compLoop (.ListComp elt gens scope pos) d (.ref I) acc env) h P := by
  intro k
  induction k with
  | zero =>
    intro i g V m h oI hk hi le hj S st
    have : i = n := by (first | lia | omega)
    subst this
    exact evC_comp_turn hg ha hin (walk_done W S hW st fun h' S' => done g V m h' le hj S')
  | succ k ih =>
    intro i g V m h oI hk hi le hj S st
    refine evC_comp_turn hg ha hin (walk_item W S hW st (by (first | lia | omega)) fun v h' oI' hk' pv st' S' => ?_)
    refine ev_letOwned (S'.getV (.head _)) hk' ?_
    have go : ∀ h3, TurnC B env J i g I oI' h3 → EvC prog w A (.compLoop (.ListComp elt gens scope pos) d (.ref I) acc env) h3 P := by
      rintro h3 ⟨g', V', m', le', hj', S''⟩
      exact ih (i + 1) g' V' m' h3 oI' (by (first | lia | omega)) (by (first | lia | omega)) (le.trans le') hj' S'' (W.frame st' S' S'' le' fun b hb => (hfp b hb).imp id fun ⟨o, ho⟩ => ⟨o, le _ _ ho⟩)
    refine (turn i v g V m h' oI' (by (first | lia | omega)) pv le hj S').mono fun _ h2 y => y.mono fun ok h3 z => ?_
    cases ok with
    | false => exact go h3 z
    | true =>
      simp only [if_true] at z ⊢
      revert z
      unfold InnerE
      cases gens[d + 1]? with
      | none => exact fun z => z.mono fun _ _ z => z.mono fun _ h5 z => go h5 z
      | some g' => exact fun z => z.mono fun _ _ z => z.mono fun _ _ z => z.mono fun _ h5 z => go h5 z
theorem ev_append {l : Addr} {vs : List Value} {k : Nat} {x : Value} {P : Value → Heap → Prop} (hl : h.get? l = some (lobj vs k)) (hsz : vs.length ≤ sizeLine)
    (hP : ∀ h', h'.get? l = some (lobj (vs ++ [x]) (k + 1)) → Heap.SameBut l h h' → P .none h') : Ev prog w A (call (.builtin "list.append") [.ref l, x]) h P := fun s E hs => by
  subst hs
  refine wpAny_call_entry slot_list_append ⟨_, hl, rfl⟩ entry_list_append ?_ (args_list_append _ _)
  show wpAny _ _ (updateSeq l (·.push x) >>= fun _ => ret .none) _ _ s
  refine wpAny_bind ?_
  have e1 : Obj.mapSeq (·.push x) (lobj vs k) = lobj (vs ++ [x]) (k + 1) := by unfold lobj; rw [Obj.mapSeq_push_plain]; simp
  refine wpAny_updateSeq hl rfl (wpAny_pure ⟨.none, rfl, ⟨rfl, rfl⟩, hP _ ?_ (Heap.SameBut.update ..)⟩) (by simpa using hsz)
  rw [Heap.get?_update_self _ hl (by rw [e1]; rfl), e1]
noncomputable abbrev cIn (B : Bs) (g : Gm) (h₀ : Heap) (V : List (Addr × Obj)) (C : Addr) (scope : Scope) : Bs := inBs B g h₀ (V.map (·.1)) C scope.names
/-- what a comprehension's loop gives -/
noncomputable def CompEnd (B : Bs) (g₁ : Gm) (h₁ : Heap) (V₁ : List (Addr × Obj)) (scope : Scope) (cl : List (Str × Addr)) (C D : Addr) (env : Env) (R : Gm → List (Addr × Obj) → List Value → Nat → Prop) (h₅ : Heap) : Prop :=
  ∃ g₅ V₅ m₅ ys n, V₅.map (·.1) = V₁.map (·.1) ∧ St (cIn B g₁ h₁ V₁ C scope) g₅ ((D, lobj ys n) :: V₅) (cmpEnv scope cl C env) m₅ h₅ ∧ GLe g₁ g₅ ∧ R g₅ V₅ ys n
noncomputable def CompRun (prog : Program) (w : World) (A : Around) (B : Bs) (elt : Expr) (gens : List Comprehension) (scope : Scope) (pos : Pos) (cl : List (Str × Addr)) (env : Env) (g₁ : Gm) (V₁ : List (Addr × Obj)) (m₁ : Str → Option Value) (h1 : Heap) (n : Nat) (Pi : Nat → Value → Prop)
    (R : Gm → List (Addr × Obj) → List Value → Nat → Prop) : Prop :=
  ∀ D I oI C h4 fp SW, It prog w A I fp n Pi SW → (∀ b ∈ fp, b = I ∨ ∃ o, g₁ b = some o) → SW 0 h4 → I ∉ V₁.map (·.1) →
    St (cIn B g₁ h1 V₁ C scope) g₁ ((I, oI) :: (D, lobj [] 0) :: V₁) (cmpEnv scope cl C env) (cmpM cl m₁) h4 →
      EvC prog w A (.compLoop (.ListComp elt gens scope pos) 0 (.ref I) (.ref D) (cmpEnv scope cl C env)) h4 fun _ h5 => CompEnd B g₁ h1 V₁ scope cl C D env R h5
inductive LcK (prog : Program) (w : World) (A : Around) (B : Bs) (elt : Expr) (gens : List Comprehension) (scope : Scope) (pos : Pos) (cl : List (Str × Addr)) (env : Env) (T : (Str → Option Value) → Addr → Str → Option Value) (Q : Addr → Heap → Prop) (xv : Value) (h1 : Heap) : Prop
  | mk (g₁ : Gm) (V₁ : List (Addr × Obj)) (m₁ : Str → Option Value) (n : Nat) (Pi : Nat → Value → Prop) (R : Gm → List (Addr × Obj) → List Value → Nat → Prop) : Src g₁ xv n Pi → St B g₁ V₁ env m₁ h1 → CompRun prog w A B elt gens scope pos cl env g₁ V₁ m₁ h1 n Pi R →
      (∀ D g₅ V₅ ys k h', GLe g₁ g₅ → V₅.map (·.1) = V₁.map (·.1) → R g₅ V₅ ys k → D ∉ B.W → St B g₅ ((D, lobj ys k) :: V₅) env (T m₁ D) h' → Q D h') → LcK prog w A B elt gens scope pos cl env T Q xv h1
theorem CompRun.start {elt : Expr} {gc : Comprehension} {gs : List Comprehension} {scope : Scope} {pos : Pos} {cl : List (Str × Addr)} {g₁ : Gm} {V₁ : List (Addr × Obj)} {m₁ : Str → Option Value} {h1 : Heap} {n : Nat} {Pi : Nat → Value → Prop} {xv : Value}
    {R : Gm → List (Addr × Obj) → List Value → Nat → Prop} (hh : A.handled = none) (ok : scopeOk scope = true) (hcl : closOf env.cells scope.names [] = some cl) (ha : gc.is_async = 0)
    (S : St B g₁ V₁ env m₁ h1) (src : Src g₁ xv n Pi) (run : CompRun prog w A B elt (gc :: gs) scope pos cl env g₁ V₁ m₁ h1 n Pi R)
    (s : Shared) (E : Value → Shared → Prop) (hs : s.heap = h1) {Post : Value → Addr → Result → Shared → Prop}
    (hPost : ∀ D C f s', Same s s' → CompEnd B g₁ h1 V₁ scope cl C D env R s'.heap → Post (.ref D) C (.ok f) s') :
    wpAny (model prog w) A (pyIter xv) (fun it s₂ => wpAny (model prog w) A (newList []) (fun acc s₃ =>
      wpAny (model prog w) A (newFunctionEnv scope env.globals cl [] env.qual none .none (some env)) (fun cenv s₄ =>
        codeAny (model prog w) A (.compStart (.ListComp elt (gc :: gs) scope pos) 0 it acc { cenv with scope := relabel scope env }) (Post acc cenv.locals) s₄) E s₃) E s₂) E s := by
  refine (ev_iter_src S hh src (P := fun it h2 => ∃ I oI fp SW, it = .ref I ∧ It prog w A I fp n Pi SW ∧ SW 0 h2 ∧ (∀ b ∈ fp, b = I ∨ ∃ o, g₁ b = some o) ∧ St B g₁ ((I, oI) :: V₁) env m₁ h2 ∧ h1.get? I = none ∧ (∀ b o, h1.get? b = some o → h2.get? b = some o))
    fun I oI h' fp SW W st hfp S' hW hI kp => ⟨I, oI, fp, SW, rfl, W, st, hfp, S', hI, kp⟩).use hs (Same.refl s) fun it s₂ h₂ ⟨I, oI, fp, SW, hit, W, st, hfp, S₂, hI, kp⟩ => ?_
  subst hit
  refine wpAny_newList ?_
  have hD2 : s₂.heap.get? s₂.heap.objs.size = none := fresh_none (Nat.le_refl _)
  have hD1 : h1.get? s₂.heap.objs.size = none := by
    cases q : h1.get? s₂.heap.objs.size with
    | none => rfl
    | some o => have := kp _ _ q; rw [hD2] at this; cases this
  have nd2 := S₂.nd
  rw [List.map_cons, List.nodup_cons] at nd2
  have S₃ := (S₂.push_vol (lobj [] 0) rfl (lobj_nocell _ _)).perm (List.Perm.swap (I, oI) _ _)
  have e3 : ({ cls := .type "list", data := .seq ([] : List Value).toArray } : Obj) = lobj [] 0 := rfl
  rw [e3]
  have ec : ∀ cenv : Env, cenv = cmpEnv scope cl cenv.locals env → cenv = cmpEnv scope cl cenv.locals env := fun _ e => e
  refine (ev_cmpEnv (P := fun cenv h' => ∃ C, cenv = cmpEnv scope cl C env ∧ (∀ b o, (s₂.heap.push (lobj [] 0)).get? b = some o → h'.get? b = some o) ∧
      St (cIn B g₁ h1 V₁ C scope) g₁ ((I, oI) :: (s₂.heap.objs.size, lobj [] 0) :: V₁) (cmpEnv scope cl C env) (cmpM cl m₁) h') (h₀ := h1) (W := V₁.map (·.1)) S₃
    (fun b o e _ => Heap.get?_push_of_some _ (kp b o e)) (fun p hp => ?_) (fun a ha => ?_) ok hcl fun C h' hC k S₄ => ⟨C, rfl, k, S₄⟩).use rfl ⟨h₂.1, h₂.2⟩ fun cenv s₄ h₄ ⟨C, hcenv, k4, S₄⟩ => ?_
  · rcases List.mem_cons.mp hp with rfl | hp
    · exact .inl hI
    · rcases List.mem_cons.mp hp with rfl | hp
      · exact .inl hD1
      · exact .inr (List.mem_map.mpr ⟨p, hp, rfl⟩)
  · exact .tail _ (.tail _ ha)
  · have st4 : SW 0 s₄.heap := W.W.frame _ _ _ (W.W.frame _ _ _ st fun b _ o e => Heap.get?_push_of_some _ e) fun b _ o e => k4 b o e
    have hCl : cenv.locals = C := congrArg Env.locals hcenv
    rw [hcenv, hCl]
    have lp := run _ I oI C s₄.heap fp SW W hfp st4 nd2.1 S₄
    refine codeAny_mono (evC_compStart (gc := gc) rfl ha lp ?_ s₄ rfl) fun r s' ⟨f, e, q1, q2⟩ => ?_
    · exact fun s E hs => W.W.self 0 _ _ _ (by rw [hs]; exact st4) ⟨Same.refl _, by rw [hs]; exact lp⟩
    · subst e
      exact hPost _ C f s' (h₄.trans q1) q2
end
/-! ## a comprehension as an expression, as a stored value -/
section
variable {prog : Program} {w : World} {A : Around} {B : Bs} {g g' : Gm} {V V' : List (Addr × Obj)} {env : Env} {m : Str → Option Value} {h h' : Heap} {K : Frag} {mg mb : Str → Option Value}
theorem CompEnd.back {g₁ : Gm} {V₁ : List (Addr × Obj)} {m₁ : Str → Option Value} {h1 h5 : Heap} {scope : Scope} {cl : List (Str × Addr)} {C D : Addr} {R : Gm → List (Addr × Obj) → List Value → Nat → Prop}
    (S1 : St B g₁ V₁ env m₁ h1) (e : CompEnd B g₁ h1 V₁ scope cl C D env R h5) :
    ∃ g₅ V₅ ys n oC mC, GLe g₁ g₅ ∧ V₅.map (·.1) = V₁.map (·.1) ∧ R g₅ V₅ ys n ∧ D ∉ B.W ∧ C ∉ B.W ∧ h5.Ns C mC ∧ (∀ v, oC.data ≠ .cell v) ∧ St B g₅ ((C, oC) :: (D, lobj ys n) :: V₅) env m₁ h5 := by
  obtain ⟨g₅, V₅, m₅, ys, n, hV, S5, le, r⟩ := e
  obtain ⟨oC, mC, hn, S6⟩ := S1.outer (cenv := cmpEnv scope cl C env) (names := scope.names) S5 hV
  have nd := S5.nd
  rw [List.map_cons, List.nodup_cons, hV] at nd
  have hD1 : h1.get? D = none := (S5.vol0 _ (.head _)).resolve_right nd.1
  have hC1 : h1.get? C = none := (S5.own _ S5.ownL).2.1
  exact ⟨g₅, V₅, ys, n, oC, mC, le, hV, r, (S1.off hD1).2.2.2, (S1.off hC1).2.2.2, hn, S6.nocell _ (.head _), S6⟩
/-- a run that turns a name of the frame alone -/
theorem ev_lc {elt : Expr} {gc : Comprehension} {gs : List Comprehension} {scope : Scope} {pos : Pos} {cl : List (Str × Addr)} {P : Value → Heap → Prop} (hh : A.handled = none)
    (x : Ev prog w A (eval gc.iter env) h (LcK prog w A B elt (gc :: gs) scope pos cl env (fun m _ => m) (fun D => P (.ref D))))
    (ok : scopeOk scope = true := by rfl) (hcl : closOf env.cells scope.names [] = some cl := by rfl) (ha : gc.is_async = 0 := by rfl) (hs : ∀ x, foldedSetIterable gc.iter env x = Pure.pure x := by intro _; rfl) :
    Ev prog w A (eval (.ListComp elt (gc :: gs) scope pos) env) h P := fun s E hsh => by
  rw [eval_ListComp]
  have hfa : firstAsync (gc :: gs) = false := by obtain ⟨_, _, _, a⟩ := gc; cases ha; rfl
  rw [hfa]
  refine wpAny_comprehension_free (use := none) (g := gc) (gs := gs) rfl hs (closureFor_of hcl) (scopeOk_kind ok) (fun y hy hl => scopeOk_mem ok (by obtain ⟨a, b⟩ := y; cases hl; exact hy)) ?_
  have e : firstIter (gc :: gs) env = eval gc.iter env := by obtain ⟨_, _, _, _⟩ := gc; rfl
  rw [e]
  refine x.use hsh (Same.refl s) fun xv s₁ h₁ ⟨g₁, V₁, m₁, n, Pi, R, src, S, run, hP⟩ => ?_
  refine CompRun.start (h1 := s₁.heap) hh ok hcl ha S src run s₁ E rfl fun D C f s' hsm hce => ?_
  obtain ⟨g₅, V₅, ys, k, oC, mC, le, hV, r, hDW, hCW, hn, hnc, S'⟩ := hce.back S
  refine ⟨mC, hn, fun h'' hsb => ⟨h₁.trans ⟨hsm.1, hsm.2⟩, hP D g₅ V₅ ys k h'' le hV r hDW ?_⟩⟩
  obtain ⟨S2, x1, x2, x3, x4⟩ := S'.offV hCW
  exact S2.forget (S'.getV (.head _)) hnc x1 x2 x3 x4 fun b o hb e => hsb.extBut b o (by simpa using hb) e
/-- stored at once: x = [ .. ] -/
theorem ev_assign_lc {y : Str} {py : Pos} {elt : Expr} {gc : Comprehension} {gs : List Comprehension} {scope : Scope} {pos spos : Pos} {cl : List (Str × Addr)} {P : Flow → Heap → Prop} (hh : A.handled = none) (hk : StoreOk B env y)
    (x : Ev prog w A (eval gc.iter env) h (LcK prog w A B elt (gc :: gs) scope pos cl env (fun m D => setM m y (.ref D)) (fun _ => P .next)))
    (hsw : swapsWith (.ListComp elt (gc :: gs) scope pos) (some (.Name y py)) spos.line env = Pure.pure true := by rfl)
    (ok : scopeOk scope = true := by rfl) (hcl : closOf env.cells scope.names [] = some cl := by rfl) (ha : gc.is_async = 0 := by rfl) (hs : ∀ x, foldedSetIterable gc.iter env x = Pure.pure x := by intro _; rfl) :
    Ev prog w A (exec (.Assign [.Name y py] (.ListComp elt (gc :: gs) scope pos) spos) env) h P := fun s E hsh => by
  rw [exec_Assign_Name_used _ _ _ _ hsw]
  refine wpAny_bind (wpAny_standAt (wpAny_bind ?_))
  rw [arm_evalThenUse_ListComp]
  have hfa : firstAsync (gc :: gs) = false := by obtain ⟨_, _, _, a⟩ := gc; cases ha; rfl
  dsimp only
  rw [hfa]
  refine wpAny_bind (wpAny_mono (wpAny_comprehension_free (use := some (assign (.Name y py) env)) (Q := fun _ s' => Same s s' ∧ P .next s'.heap) (g := gc) (gs := gs) rfl hs (closureFor_of hcl) (scopeOk_kind ok) (fun y hy hl => scopeOk_mem ok (by obtain ⟨a, b⟩ := y; cases hl; exact hy)) ?_)
    (fun _ s' hq => wpAny_pure (wpAny_pure hq)) fun _ _ e => e)
  have e : firstIter (gc :: gs) env = eval gc.iter env := by obtain ⟨_, _, _, _⟩ := gc; rfl
  rw [e]
  refine x.use hsh (Same.refl s) fun xv s₁ h₁ ⟨g₁, V₁, m₁, n, Pi, R, src, S, run, hP⟩ => ?_
  refine CompRun.start (h1 := s₁.heap) hh ok hcl ha S src run s₁ E rfl fun D C f s' hsm hce => ?_
  obtain ⟨g₅, V₅, ys, k, oC, mC, le, hV, r, hDW, hCW, hn, hnc, S'⟩ := hce.back S
  refine (ev_assign_name (x := y) (pos := py) (v := .ref D) (P := fun _ h' => St B g₅ ((C, oC) :: (D, lobj ys k) :: V₅) env (setM m₁ y (.ref D)) h') S' hk fun h' z => z).use rfl (Same.refl s') fun _ s'' h2 z => ?_
  have hC'' := z.getV (.head _)
  refine ⟨mC, ?_, fun h'' hsb => ⟨h₁.trans (hsm.trans ⟨h2.1, h2.2⟩), hP D g₅ V₅ ys k h'' le hV r hDW ?_⟩⟩
  · exact hn.at' fun o e => by rw [S'.getV (.head _)] at e; cases e; exact hC''
  obtain ⟨S2, x1, x2, x3, x4⟩ := z.offV hCW
  exact S2.forget (z.getV (.head _)) hnc x1 x2 x3 x4 fun b o hb e => hsb.extBut b o (by simpa using hb) e
end
/-! ## what a value is, as data over frozen objects -/
inductive D where
  | any
  | none
  | bool (b : Bool)
  | int (i : Int)
  | str (s : Str)
  | tup (ds : List D)
  | list (ds : List D)
  | obj (C : Addr) (fs : List (Str × D))
  | dicti (kvs : List (Int × D))
  | dicts (kvs : List (Str × D))
structure FldsAt (es : List DictEntry) (ns : List Str) (vs : List Value) : Prop where
  keys : es.map (fun e => match e.key with | .str s _ => s | _ => "") = ns
  str : ∀ e ∈ es, ∃ s t, e.key = .str s t
  vals : es.map (·.val) = vs
mutual
inductive Is (prog : Program) (w : World) (g : Gm) : Value → D → Prop
  | any {v} : Is prog w g v .any
  | none : Is prog w g .none .none
  | bool {b} : Is prog w g (.bool b) (.bool b)
  | int {i t} : Is prog w g (.int i t) (.int i)
  | str {s t} : Is prog w g (.str s t) (.str s)
  | tup {a vs k ds} : g a = some (tobj vs k) → Iss prog w g vs ds → Is prog w g (.ref a) (.tup ds)
  | list {a vs k ds} : g a = some (lobj vs k) → Iss prog w g vs ds → Is prog w g (.ref a) (.list ds)
  | obj {x dx es n C ns vs ds} : g x = some (instObj C dx) → g dx = some (dictOf es n) → FldsAt es ns vs → Iss prog w g vs ds → Is prog w g (.ref x) (.obj C (ns.zip ds))
  | dicti {a o kvs ns vs ds} : g a = some o → (a == sysModules) = false → o.IsDictOf (intKind prog w) kvs → kvs.map (·.1) = ns → kvs.map (·.2) = vs → Iss prog w g vs ds → Is prog w g (.ref a) (.dicti (ns.zip ds))
  | dicts {a o kvs ns vs ds} : g a = some o → (a == sysModules) = false → o.IsDictOf (strKind prog w) kvs → kvs.map (·.1) = ns → kvs.map (·.2) = vs → Iss prog w g vs ds → Is prog w g (.ref a) (.dicts (ns.zip ds))
inductive Iss (prog : Program) (w : World) (g : Gm) : List Value → List D → Prop
  | nil : Iss prog w g [] []
  | cons {v d vs ds} : Is prog w g v d → Iss prog w g vs ds → Iss prog w g (v :: vs) (d :: ds)
end
section
variable {prog : Program} {w : World} {g g' : Gm}
mutual
theorem Is.mono (le : GLe g g') : ∀ {v d}, Is prog w g v d → Is prog w g' v d
  | _, _, .any => .any
  | _, _, .none => .none
  | _, _, .bool => .bool
  | _, _, .int => .int
  | _, _, .str => .str
  | _, _, .tup a b => .tup (le _ _ a) (b.mono le)
  | _, _, .list a b => .list (le _ _ a) (b.mono le)
  | _, _, .obj a b c d => .obj (le _ _ a) (le _ _ b) c (d.mono le)
  | _, _, .dicti a b c d e f => .dicti (le _ _ a) b c d e (f.mono le)
  | _, _, .dicts a b c d e f => .dicts (le _ _ a) b c d e (f.mono le)
theorem Iss.mono (le : GLe g g') : ∀ {vs ds}, Iss prog w g vs ds → Iss prog w g' vs ds
  | _, _, .nil => .nil
  | _, _, .cons a b => .cons (a.mono le) (b.mono le)
end
theorem Iss.length : ∀ {vs ds}, Iss prog w g vs ds → vs.length = ds.length
  | _, _, .nil => rfl
  | _, _, .cons _ b => by rw [List.length_cons, List.length_cons, b.length]
theorem Iss.get : ∀ {vs ds}, Iss prog w g vs ds → ∀ {i : Nat} {v}, vs[i]? = some v → ∃ d, ds[i]? = some d ∧ Is prog w g v d
  | _, _, .nil, i, v, e => by simp at e
  | _, _, .cons a b, 0, v, e => by simp at e; subst e; exact ⟨_, rfl, a⟩
  | _, _, .cons a b, i + 1, v, e => by simpa using b.get (by simpa using e)
theorem Iss.get' : ∀ {vs ds}, Iss prog w g vs ds → ∀ {i : Nat} {d}, ds[i]? = some d → ∃ v, vs[i]? = some v ∧ Is prog w g v d
  | _, _, .nil, i, v, e => by simp at e
  | _, _, .cons a b, 0, v, e => by simp at e; subst e; exact ⟨_, rfl, a⟩
  | _, _, .cons a b, i + 1, v, e => by simpa using b.get' (by simpa using e)
theorem Iss.append : ∀ {vs ds us es}, Iss prog w g vs ds → Iss prog w g us es → Iss prog w g (vs ++ us) (ds ++ es)
  | _, _, _, _, .nil, y => y
  | _, _, _, _, .cons a b, y => .cons a (b.append y)
theorem Iss.snoc {vs ds v d} (x : Iss prog w g vs ds) (y : Is prog w g v d) : Iss prog w g (vs ++ [v]) (ds ++ [d]) := x.append (.cons y .nil)
theorem Iss.set : ∀ {vs ds}, Iss prog w g vs ds → ∀ {v d}, Is prog w g v d → ∀ i, Iss prog w g (vs.set i v) (ds.set i d)
  | _, _, .nil, _, _, _, _ => .nil
  | _, _, .cons a b, _, _, y, 0 => .cons y b
  | _, _, .cons a b, _, _, y, i + 1 => .cons a (b.set y i)
theorem Iss.take : ∀ {vs ds}, Iss prog w g vs ds → ∀ n, Iss prog w g (vs.take n) (ds.take n)
  | _, _, .nil, n => by simp; exact .nil
  | _, _, .cons a b, 0 => .nil
  | _, _, .cons a b, n + 1 => .cons a (b.take n)
theorem Iss.drop : ∀ {vs ds}, Iss prog w g vs ds → ∀ n, Iss prog w g (vs.drop n) (ds.drop n)
  | _, _, .nil, n => by simp; exact .nil
  | _, _, .cons a b, 0 => .cons a b
  | _, _, .cons a b, n + 1 => b.drop n
/-- a list of ints -/
noncomputable def iL (xs : List Int) : List D := xs.map .int
theorem Iss.iL : ∀ {vs xs}, Iss prog w g vs (Mine.iL xs) → IntsAre vs xs
  | [], [], _ => .nil
  | _ :: _, x :: xs, .cons a b => by cases a; exact .cons _ _ b.iL
  | [], x :: xs, h => nomatch h
  | _ :: _, [], h => nomatch h
theorem iss_of_ints : ∀ {vs xs}, IntsAre vs xs → Iss prog w g vs (Mine.iL xs)
  | _, _, .nil => .nil
  | _, _, .cons n t h => .cons .int (iss_of_ints h)
theorem iL_append (a b : List Int) : Mine.iL (a ++ b) = Mine.iL a ++ Mine.iL b := by unfold Mine.iL; simp
theorem iL_length (a : List Int) : (Mine.iL a).length = a.length := by unfold Mine.iL; simp
theorem Is.asList {v ds} (x : Is prog w g v (.list ds)) : ∃ a vs k, v = .ref a ∧ g a = some (lobj vs k) ∧ Iss prog w g vs ds := by cases x; exact ⟨_, _, _, rfl, ‹_›, ‹_›⟩
theorem Is.asTup {v ds} (x : Is prog w g v (.tup ds)) : ∃ a vs k, v = .ref a ∧ g a = some (tobj vs k) ∧ Iss prog w g vs ds := by cases x; exact ⟨_, _, _, rfl, ‹_›, ‹_›⟩
theorem Is.asInt {v i} (x : Is prog w g v (.int i)) : ∃ t, v = .int i t := by cases x; exact ⟨_, rfl⟩
theorem Is.asStr {v i} (x : Is prog w g v (.str i)) : ∃ t, v = .str i t := by cases x; exact ⟨_, rfl⟩
theorem Is.asBool {v b} (x : Is prog w g v (.bool b)) : v = .bool b := by cases x; rfl
theorem Is.asNone {v} (x : Is prog w g v .none) : v = .none := by cases x; rfl
end
/-! ## what is known of the names -/
noncomputable def Kn (m : Str → Option Value) (l : List (Str × Value)) : Prop := ∀ p ∈ l, m p.1 = some p.2
theorem Kn.nil {m} : Kn m [] := fun _ h => nomatch h
theorem Kn.get {m l x v} (k : Kn m l) (h : (x, v) ∈ l) : m x = some v := k _ h
theorem Kn.set {m l x v} (k : Kn m l) (hx : ∀ p ∈ l, p.1 ≠ x) : Kn (setM m x v) ((x, v) :: l) := fun p hp => by
  rcases List.mem_cons.mp hp with rfl | hp
  · unfold setM; rw [if_pos rfl]
  · unfold setM; rw [if_neg (hx p hp)]; exact k p hp
theorem Kn.other {m l x v} (k : Kn m l) (hx : (l.map (·.1)).contains x = false := by rfl) : Kn (setM m x v) l := fun p hp => by
  have : p.1 ≠ x := by
    rintro rfl
    have : (l.map (·.1)).contains p.1 = true := List.contains_iff_mem.mpr (List.mem_map.mpr ⟨p, hp, rfl⟩)
    rw [hx] at this; cases this
  unfold setM; rw [if_neg this]; exact k p hp
theorem Kn.sub {m l l'} (k : Kn m l) (h : ∀ p ∈ l', p ∈ l) : Kn m l' := fun p hp => k p (h p hp)
theorem Kn.cmp {cl m l l'} (k : Kn m l) (h : ∀ p ∈ l', p ∈ l ∧ (cl.lookup p.1).isSome = true) : Kn (cmpM cl m) l' := fun p hp => by
  unfold cmpM; rw [if_pos (h p hp).2]; exact k p (h p hp).1
section
variable {prog : Program} {w : World} {A : Around} {B : Bs} {g g' : Gm} {V V' : List (Addr × Obj)} {env : Env} {m : Str → Option Value} {h h' : Heap} {K : Frag} {mg mb : Str → Option Value}
theorem setM_self (m : Str → Option Value) (x : Str) (v : Value) : setM m x v x = some v := by unfold setM; rw [if_pos rfl]
theorem setM_ne {m : Str → Option Value} {x y : Str} {v : Value} (h : y ≠ x) : setM m x v y = m y := by unfold setM; rw [if_neg h]
/-- where a comprehension's turn leaves things -/
inductive Turn1 (B' : Bs) (cenv : Env) (lc : List (Str × Value)) (V₁ : List (Addr × Obj)) (J : Nat → Gm → List (Addr × Obj) → List Value → Prop) (i : Nat) (g : Gm) (I : Addr) (oI : Obj) (D : Addr) (k : Nat) (ys zs : List Value) (h : Heap) : Prop
  | mk (g' : Gm) (V' : List (Addr × Obj)) (m' : Str → Option Value) : GLe g g' → Kn m' lc → V'.map (·.1) = V₁.map (·.1) → St B' g' ((I, oI) :: (D, lobj ys k) :: V') cenv m' h → J (i + 1) g' V' zs → Turn1 B' cenv lc V₁ J i g I oI D k ys zs h
theorem comp1 {elt : Expr} {gc : Comprehension} {scope : Scope} {pos : Pos} {cl : List (Str × Addr)} {g₁ : Gm} {V₁ : List (Addr × Obj)} {m₁ : Str → Option Value} {h1 : Heap} {n : Nat} {Pi : Nat → Value → Prop}
    (lc : List (Str × Value)) (J : Nat → Gm → List (Addr × Obj) → List Value → Prop) (hlc : Kn (cmpM cl m₁) lc) (ha : gc.is_async = 0) (hn : n < 100000)
    (j0 : J 0 g₁ V₁ []) (jlen : ∀ i g V ys, i ≤ n → J i g V ys → ys.length ≤ i)
    (turn : ∀ i v g V ys k m h D I oI C, i < n → Pi i v → GLe g₁ g → V.map (·.1) = V₁.map (·.1) → J i g V ys → Kn m lc → St (cIn B g₁ h1 V₁ C scope) g ((I, oI) :: (D, lobj ys k) :: V) (cmpEnv scope cl C env) m h →
      Ev prog w A (assign gc.target (cmpEnv scope cl C env) v) h fun _ h2 => Ev prog w A (testsT gc.ifs (cmpEnv scope cl C env)) h2 fun ok h3 =>
        if ok = true then Ev prog w A (eval elt (cmpEnv scope cl C env)) h3 fun y h4 => Turn1 (cIn B g₁ h1 V₁ C scope) (cmpEnv scope cl C env) lc V₁ J i g I oI D k ys (ys ++ [y]) h4
        else Turn1 (cIn B g₁ h1 V₁ C scope) (cmpEnv scope cl C env) lc V₁ J i g I oI D k ys ys h3) :
    CompRun prog w A B elt [gc] scope pos cl env g₁ V₁ m₁ h1 n Pi (fun g V ys _ => J n g V ys) := by
  intro D I oI C h4 fp SW W hfp st hI S
  have hW : I ∉ (cIn B g₁ h1 V₁ C scope).W := hI
  refine evC_comp_loop (gc := gc) rfl ha (fun g' e => by simp at e)
    (fun i g V m => ∃ ys k V', V = (D, lobj ys k) :: V' ∧ V'.map (·.1) = V₁.map (·.1) ∧ Kn m lc ∧ J i g V' ys) W hW g₁ hfp ?_ ?_ n 0 g₁ _ _ h4 oI rfl (Nat.zero_le _) (GLe.refl _) ⟨[], 0, V₁, rfl, rfl, hlc, j0⟩ S st
  · rintro i v g _ m h oI hi pv le ⟨ys, k, V, rfl, hV, kn, j⟩ S
    refine (turn i v g V ys k m h D I oI C hi pv le hV j kn S).mono fun _ h2 y => y.mono fun ok h3 z => ?_
    cases ok with
    | false =>
      simp only [Bool.false_eq_true, if_false] at z ⊢
      obtain ⟨g', V', m', le', kn', hV', S', j'⟩ := z
      exact ⟨g', _, m', le', ⟨ys, k, V', rfl, hV', kn', j'⟩, S'⟩
    | true =>
      simp only [if_true] at z ⊢
      unfold InnerE; rw [show ([gc] : List Comprehension)[0 + 1]? = Option.none from rfl]; dsimp only
      refine z.mono fun y h4 ⟨g', V', m', le', kn', hV', S', j'⟩ => ?_
      have hl := jlen (i + 1) g' V' (ys ++ [y]) hi j'
      rw [List.length_append, List.length_singleton] at hl
      refine ev_append (S'.getV (.tail _ (.head _))) (by rw [sizeLine_eq]; (first | lia | omega)) fun h5 e5 b5 => ?_
      exact ⟨g', _, m', le', ⟨ys ++ [y], k + 1, V', rfl, hV', kn', j'⟩, S'.upd (.tail .head) b5 e5 (lobj_nocell _ _)⟩
  · rintro g _ m h le ⟨ys, k, V, rfl, hV, kn, j⟩ S
    exact ⟨g, V, m, ys, k, hV, S, le, j⟩
end
section
variable {prog : Program} {w : World} {A : Around} {B : Bs} {g g' : Gm} {V V' : List (Addr × Obj)} {env : Env} {m : Str → Option Value} {h h' : Heap} {K : Frag} {mg mb : Str → Option Value}
/-- where a turn leaves things, the volatile as they were -/
inductive CT (lc : List (Str × Value)) (B' : Bs) (g : Gm) (V' : List (Addr × Obj)) (cenv : Env) (R : Gm → Prop) (h : Heap) : Prop
  | mk (g' : Gm) (m' : Str → Option Value) : GLe g g' → Kn m' lc → St B' g' V' cenv m' h → R g' → CT lc B' g V' cenv R h
inductive C2K (lc : List (Str × Value)) (B' : Bs) (g : Gm) (V' : List (Addr × Obj)) (cenv : Env) (J : Gm → List Value → Prop) (T : Gm → Nat → (Nat → Value → Prop) → (Nat → Gm → List Value → Prop) → Prop) (ys : List Value) (xv : Value) (h : Heap) : Prop
  | mk (g' : Gm) (m' : Str → Option Value) (n2 : Nat) (Pi2 : Nat → Value → Prop) (J2 : Nat → Gm → List Value → Prop) : Src g' xv n2 Pi2 → GLe g g' → Kn m' lc → St B' g' V' cenv m' h → J2 0 g' ys →
      (∀ j g ys, J2 j g ys → ys.length ≤ 100000) → (∀ g ys, J2 n2 g ys → J g ys) → T g' n2 Pi2 J2 → C2K lc B' g V' cenv J T ys xv h
/-- two clauses: nothing but the new list is written -/
theorem comp2 {elt : Expr} {gc gd : Comprehension} {scope : Scope} {pos : Pos} {cl : List (Str × Addr)} {g₁ : Gm} {V₁ : List (Addr × Obj)} {m₁ : Str → Option Value} {h1 : Heap} {n : Nat} {Pi : Nat → Value → Prop}
    (lc : List (Str × Value)) (J : Nat → Gm → List Value → Prop) (hh : A.handled = none) (hlc : Kn (cmpM cl m₁) lc) (ha : gc.is_async = 0) (hd : gd.is_async = 0) (hds : ∀ C x, foldedSetIterable gd.iter (cmpEnv scope cl C env) x = Pure.pure x)
    (j0 : J 0 g₁ [])
    (turn : ∀ i v g ys k m h D I oI C, i < n → Pi i v → GLe g₁ g → J i g ys → Kn m lc → St (cIn B g₁ h1 V₁ C scope) g ((I, oI) :: (D, lobj ys k) :: V₁) (cmpEnv scope cl C env) m h →
      Ev prog w A (assign gc.target (cmpEnv scope cl C env) v) h fun _ h2 => Ev prog w A (testsT gc.ifs (cmpEnv scope cl C env)) h2 fun ok h3 =>
        if ok = true then Ev prog w A (eval gd.iter (cmpEnv scope cl C env)) h3 fun xv h4 => C2K lc (cIn B g₁ h1 V₁ C scope) g ((I, oI) :: (D, lobj ys k) :: V₁) (cmpEnv scope cl C env) (J (i + 1))
          (fun g' n2 Pi2 J2 => ∀ j v g ys k m h I2 oI2, j < n2 → Pi2 j v → GLe g' g → J2 j g ys → Kn m lc → St (cIn B g₁ h1 V₁ C scope) g ((I2, oI2) :: (I, oI) :: (D, lobj ys k) :: V₁) (cmpEnv scope cl C env) m h →
            Ev prog w A (assign gd.target (cmpEnv scope cl C env) v) h fun _ h2 => Ev prog w A (testsT gd.ifs (cmpEnv scope cl C env)) h2 fun ok h3 =>
              if ok = true then Ev prog w A (eval elt (cmpEnv scope cl C env)) h3 fun y h4 => CT lc (cIn B g₁ h1 V₁ C scope) g ((I2, oI2) :: (I, oI) :: (D, lobj ys k) :: V₁) (cmpEnv scope cl C env) (fun g' => J2 (j + 1) g' (ys ++ [y])) h4
              else CT lc (cIn B g₁ h1 V₁ C scope) g ((I2, oI2) :: (I, oI) :: (D, lobj ys k) :: V₁) (cmpEnv scope cl C env) (fun g' => J2 (j + 1) g' ys) h3) ys xv h4
        else CT lc (cIn B g₁ h1 V₁ C scope) g ((I, oI) :: (D, lobj ys k) :: V₁) (cmpEnv scope cl C env) (fun g' => J (i + 1) g' ys) h3) :
    CompRun prog w A B elt [gc, gd] scope pos cl env g₁ V₁ m₁ h1 n Pi (fun g V ys _ => V = V₁ ∧ J n g ys) := by
  intro D I oI C h4 fp SW W hfp st hI S
  have hW : I ∉ (cIn B g₁ h1 V₁ C scope).W := hI
  refine evC_comp_loop (gc := gc) rfl ha (fun g' e => by simp only [Nat.zero_add, List.getElem?_cons_succ, List.getElem?_cons_zero, Option.some.injEq] at e; subst e; exact ⟨hd, hds C⟩)
    (fun i g V m => ∃ ys k, V = (D, lobj ys k) :: V₁ ∧ Kn m lc ∧ J i g ys) W hW g₁ hfp ?_ ?_ n 0 g₁ _ _ h4 oI rfl (Nat.zero_le _) (GLe.refl _) ⟨[], 0, rfl, hlc, j0⟩ S st
  · rintro i v g _ m h oI hi pv le ⟨ys, k, rfl, kn, j⟩ S
    refine (turn i v g ys k m h D I oI C hi pv le j kn S).mono fun _ h2 y => y.mono fun ok h3 z => ?_
    cases ok with
    | false =>
      simp only [Bool.false_eq_true, if_false] at z ⊢
      obtain ⟨g', m', le', kn', S', j'⟩ := z
      exact ⟨g', _, m', le', ⟨ys, k, rfl, kn', j'⟩, S'⟩
    | true =>
      simp only [if_true] at z ⊢
      unfold InnerE; rw [show ([gc, gd] : List Comprehension)[0 + 1]? = some gd from rfl]; dsimp only
      refine z.mono fun xv h4 ⟨g', m', n2, Pi2, J2, src, le', kn', S', j2, jl, jend, turn2⟩ => ?_
      refine ev_iter_src S' hh src fun I2 oI2 h5 fp2 SW2 W2 st2 hfp2 S5 hI2 hn2 kp => ?_
      have loop : EvC prog w A (.compLoop (.ListComp elt [gc, gd] scope pos) (0 + 1) (.ref I2) (.ref D) (cmpEnv scope cl C env)) h5
          fun _ h6 => TurnC (cIn B g₁ h1 V₁ C scope) (cmpEnv scope cl C env) (fun i g V m => ∃ ys k, V = (D, lobj ys k) :: V₁ ∧ Kn m lc ∧ J i g ys) i g I oI h6 := by
        refine evC_comp_loop (gc := gd) rfl hd (fun g' e => by simp at e)
          (fun j g V m => ∃ ys k, V = (I, oI) :: (D, lobj ys k) :: V₁ ∧ Kn m lc ∧ J2 j g ys) W2 hI2 g' hfp2 ?_ ?_ n2 0 g' _ _ h5 oI2 rfl (Nat.zero_le _) (GLe.refl _) ⟨ys, k, rfl, kn', j2⟩ S5 st2
        · rintro j v g₂ _ m₂ h₂ oI2 hj pv2 le2 ⟨ys, k, rfl, kn2, j2⟩ S2
          refine (turn2 j v g₂ ys k m₂ h₂ I2 oI2 hj pv2 le2 j2 kn2 S2).mono fun _ h2 y => y.mono fun ok h3 z => ?_
          cases ok with
          | false =>
            simp only [Bool.false_eq_true, if_false] at z ⊢
            obtain ⟨g', m', le', kn', S', j'⟩ := z
            exact ⟨g', _, m', le', ⟨ys, k, rfl, kn', j'⟩, S'⟩
          | true =>
            simp only [if_true] at z ⊢
            unfold InnerE; rw [show ([gc, gd] : List Comprehension)[0 + 1 + 1]? = Option.none from rfl]; dsimp only
            refine z.mono fun y h4 ⟨g', m', le', kn', S', j'⟩ => ?_
            have hl := jl _ _ _ j'
            rw [List.length_append, List.length_singleton] at hl
            refine ev_append (S'.getV (.tail _ (.tail _ (.head _)))) (by rw [sizeLine_eq]; (first | lia | omega)) fun h5 e5 b5 => ?_
            exact ⟨g', _, m', le', ⟨ys ++ [y], k + 1, rfl, kn', j'⟩, S'.upd (.tail (.tail .head)) b5 e5 (lobj_nocell _ _)⟩
        · rintro g₂ _ m₂ h₂ le2 ⟨ys, k, rfl, kn2, j2⟩ S2
          exact ⟨g₂, _, m₂, le'.trans le2, ⟨ys, k, rfl, kn2, jend _ _ j2⟩, S2⟩
      refine evC_compStart (gc := gd) rfl hd loop ?_
      exact fun s E hs => W2.W.self 0 _ _ _ (by rw [hs]; exact st2) ⟨Same.refl _, by rw [hs]; exact loop⟩
  · rintro g _ m h le ⟨ys, k, rfl, kn, j⟩ S
    exact ⟨g, V₁, m, ys, k, rfl, S, le, rfl, j⟩
end
/-! ## the table of a set: its places rise -/
noncomputable def Rise (l : List Nat) : Prop := l.Pairwise (· < ·)
structure TOk (L : Bool) (t : SetTable) (n : Nat) : Prop where
  fits : t.fits n = true
  rise : Rise t.place.toList
  dum : t.dummies = #[]
  led : t.led = L
theorem rise_range (n : Nat) : Rise (List.range n) := List.pairwise_lt_range
theorem tok_standIn {L : Bool} {t : SetTable} (h : t.led = L) (n : Nat) : TOk L (t.standIn n) n := by
  refine ⟨?_, ?_, rfl, h⟩
  · unfold SetTable.fits SetTable.standIn SetTable.fill; simp; (first | lia | omega)
  · show Rise (Array.range n).toList
    rw [Array.toList_range]; exact rise_range n
/-- the first place that is not below j -/
theorem below_go {xs : Array Nat} (hr : Rise xs.toList) (j : Nat) : ∀ (fuel lo hi : Nat), hi - lo ≤ fuel → lo ≤ hi → hi ≤ xs.size → (∀ i, i < lo → xs.getD i 0 < j) → (∀ i, hi ≤ i → i < xs.size → j ≤ xs.getD i 0) →
    SetTable.below.go xs j fuel lo hi ≤ xs.size ∧ (∀ i, i < SetTable.below.go xs j fuel lo hi → xs.getD i 0 < j) ∧ ∀ i, SetTable.below.go xs j fuel lo hi ≤ i → i < xs.size → j ≤ xs.getD i 0 := by
  have mono : ∀ a b, a ≤ b → b < xs.size → xs.getD a 0 ≤ xs.getD b 0 := fun a b hab hb => by
    rcases Nat.lt_or_ge a b with q | q
    · have ha : a < xs.size := by (first | lia | omega)
      have := List.pairwise_iff_getElem.mp hr a b (by simpa using ha) (by simpa using hb) q
      simp [ha, hb] at this ⊢; (first | lia | omega)
    · have : a = b := by (first | lia | omega)
      subst this; exact Nat.le_refl _
  intro fuel
  induction fuel with
  | zero =>
    intro lo hi h1 h2 h3 h4 h5
    have : lo = hi := by (first | lia | omega)
    subst this
    unfold SetTable.below.go
    exact ⟨h3, h4, h5⟩
  | succ n ih =>
    intro lo hi h1 h2 h3 h4 h5
    unfold SetTable.below.go
    split
    · rename_i hlt
      dsimp only
      have m1 : lo ≤ (lo + hi) / 2 := by (first | lia | omega)
      have m2 : (lo + hi) / 2 < hi := by (first | lia | omega)
      have e0 : xs.getD ((lo + hi) / 2) j = xs.getD ((lo + hi) / 2) 0 := by
        have : (lo + hi) / 2 < xs.size := by (first | lia | omega)
        simp [this]
      rw [e0]
      split
      · rename_i hm
        refine ih _ _ (by (first | lia | omega)) (by (first | lia | omega)) h3 (fun i hi' => ?_) h5
        exact Nat.lt_of_le_of_lt (mono i _ (by (first | lia | omega)) (by (first | lia | omega))) hm
      · rename_i hm
        refine ih _ _ (by (first | lia | omega)) (by (first | lia | omega)) (by (first | lia | omega)) h4 (fun i hi' hs => ?_)
        exact Nat.le_trans (Nat.not_lt.mp hm) (mono _ i hi' hs)
    · have : lo = hi := by (first | lia | omega)
      subst this
      exact ⟨h3, h4, h5⟩
theorem below_spec {xs : Array Nat} (hr : Rise xs.toList) (j : Nat) :
    SetTable.below xs j ≤ xs.size ∧ (∀ i, i < SetTable.below xs j → xs.getD i 0 < j) ∧ ∀ i, SetTable.below xs j ≤ i → i < xs.size → j ≤ xs.getD i 0 := by
  unfold SetTable.below
  exact below_go hr j xs.size 0 xs.size (by (first | lia | omega)) (Nat.zero_le _) (Nat.le_refl _) (fun i h => nomatch h) (fun i h1 h2 => by (first | lia | omega))
theorem insertAt_toList {α : Type} (xs : Array α) (p : Nat) (x : α) : (SetTable.insertAt xs p x).toList = xs.toList.take p ++ x :: xs.toList.drop p := by
  exact SetTable.toList_insertAt xs p x
theorem rise_insert {xs : Array Nat} (hr : Rise xs.toList) {j : Nat} (h : xs[SetTable.below xs j]? ≠ some j) : Rise (SetTable.insertAt xs (SetTable.below xs j) j).toList := by
  obtain ⟨h1, h2, h3⟩ := below_spec hr j
  rw [insertAt_toList]
  generalize SetTable.below xs j = p at *
  have hl : ∀ a ∈ xs.toList.take p, a < j := fun a ha => by
    obtain ⟨i, hi, rfl⟩ := List.getElem_of_mem ha
    rw [List.length_take] at hi
    have hi' : i < xs.size := by simp at hi; (first | lia | omega)
    have := h2 i (by (first | lia | omega))
    simp [hi'] at this ⊢; exact this
  have hg : ∀ a ∈ xs.toList.drop p, j < a := fun a ha => by
    obtain ⟨i, hi, rfl⟩ := List.getElem_of_mem ha
    rw [List.length_drop] at hi
    have hi' : p + i < xs.size := by simp at hi; (first | lia | omega)
    have h0 := h3 (p + i) (by (first | lia | omega)) hi'
    simp only [List.getElem_drop, Array.getElem_toList]
    have e0 : xs.getD (p + i) 0 = xs[p + i] := by simp [hi']
    rw [e0] at h0
    rcases Nat.lt_or_ge j xs[p + i] with q | q
    · exact q
    · exfalso
      have e : xs[p + i] = j := by (first | lia | omega)
      by_cases hi0 : i = 0
      · subst hi0
        have hp : p < xs.size := by (first | lia | omega)
        exact h (by rw [Array.getElem?_eq_getElem hp]; exact congrArg some e)
      · have hp : p < xs.size := by (first | lia | omega)
        have h4 := List.pairwise_iff_getElem.mp hr p (p + i) (by simpa using hp) (by simpa using hi') (by (first | lia | omega))
        have h5 := h3 p (Nat.le_refl _) hp
        simp [hp] at h4 h5; (first | lia | omega)
  refine List.pairwise_append.mpr ⟨hr.sublist (List.take_sublist _ _), List.pairwise_cons.mpr ⟨hg, hr.sublist (List.drop_sublist _ _)⟩, fun a ha b hb => ?_⟩
  rcases List.mem_cons.mp hb with rfl | hb
  · exact hl a ha
  · exact Nat.lt_trans (hl a ha) (hg b hb)
theorem has_nil (j : Nat) : SetTable.has #[] j = false := by
  unfold SetTable.has; simp
theorem slot_nodum {t : SetTable} (hd : t.dummies = #[]) (j : Nat) : t.slot j ≠ .dummy := by
  unfold SetTable.slot
  rw [hd, has_nil]
  dsimp only
  split <;> simp
theorem probe_empty {t : SetTable} (hd : t.dummies = #[]) (ha : Nat → Int) (h : Int) : ∀ (fuel : Nat) (p : SetTable.Probe) (j : Nat) (dm : Option Nat), p.dummy = none → SetTable.probe.go t ha h fuel p = some (.empty j dm) → dm = none ∧ t.slot j = .empty
  | 0, p, j, dm, hp, e => by unfold SetTable.probe.go at e; cases e
  | fuel + 1, p, j, dm, hp, e => by
    unfold SetTable.probe.go at e
    split at e
    · rename_i q; cases e; exact ⟨hp, q⟩
    · rename_i q; exact absurd q (slot_nodum hd _)
    · split at e
      · cases e
      · refine probe_empty hd ha h fuel _ j dm ?_ e
        unfold SetTable.advance; split
        · exact hp
        · exact hp
theorem tok_layNew {L : Bool} {t : SetTable} {es : Array (Int × Value)} (T : TOk L t es.size) (h : Int) (x : Value) : TOk L (layNew t es h x).2.1 (layNew t es h x).1.size := by
  refine ⟨layNew_fits t es h x, ?_, ?_, ?_⟩ <;>
  · unfold layNew
    split
    · rename_i slot wd q
      unfold SetTable.freeSlot at q
      split at q
      · rename_i j dm e
        obtain ⟨rfl, hs⟩ := probe_empty T.dum _ _ _ _ _ _ rfl e
        cases q
        dsimp only [SetTable.orStandIn]
        split
        · first
            | (unfold SetTable.put; dsimp only [Option.getD]
               refine rise_insert T.rise fun hc => ?_
               unfold SetTable.slot at hs; dsimp only at hs
               rw [if_pos (by rw [hc]; simp)] at hs; cases hs)
            | (simp [SetTable.put, T.dum, has_nil]; done)
            | exact T.led
        · first | exact (tok_standIn (L := L) (t := (t.put (Option.getD none j)).1) T.led _).rise | rfl | exact T.led
      · cases q
    · first | exact (tok_standIn T.led _).rise | rfl | exact T.led
theorem tok_relay {L : Bool} {t : SetTable} {es : Array (Int × Value)} (T : TOk L t es.size) (n : Nat) : TOk L (relayAll t es n).2.1 (relayAll t es n).1.size := by
  refine ⟨relayAll_fits t es n, ?_, ?_, ?_⟩ <;>
  · unfold relayAll
    split
    · rename_i t' order q
      dsimp only
      unfold SetTable.relaid SetTable.laid at q
      obtain ⟨owner, ho, q⟩ := Option.bind_eq_some_iff.mp q
      cases q
      split
      · first
          | (show Rise (List.map _ (List.filterMap _ _)).toArray.toList
             rw [List.toList_toArray]
             unfold Rise
             rw [List.pairwise_map, List.pairwise_filterMap]
             refine List.Pairwise.imp ?_ (rise_range _)
             intro a b hab c hc d hd
             rw [Option.map_eq_some_iff] at hc hd
             obtain ⟨_, _, rfl⟩ := hc
             obtain ⟨_, _, rfl⟩ := hd
             exact hab)
          | rfl
          | exact T.led
      · first | exact (tok_standIn T.led _).rise | rfl | exact T.led
    · first | exact (tok_standIn T.led _).rise | rfl | exact T.led
theorem tok_off {L : Bool} {t : SetTable} {n : Nat} (T : TOk L t n) : TOk L { t with plain := false } n := ⟨SetTable.fits_plain_off T.fits, T.rise, T.dum, T.led⟩
noncomputable def byText (w : World) : Bool := w.params.followText "set-order"
/-- a set of ints, its table sound -/
structure SetIn (prog : Program) (w : World) (es : Array (Int × Value)) (t : SetTable) (xs : List Int) : Prop where
  el : ElemsOf (intKind prog w) es.toList
  ys : ∃ ys, IntsAre (es.toList.map (·.2)) ys ∧ ys.Nodup ∧ ∀ k, k ∈ ys ↔ k ∈ xs
  tok : TOk (!byText w) t es.size
structure SetAtI (prog : Program) (w : World) (o : Obj) (xs : List Int) : Prop where
  ex : o.ExactSet
  body : ∃ es ep t, o.data = .set es ep t ∧ SetIn prog w es t xs
section
variable {prog : Program} {w : World} {A : Around} {E : Value → Shared → Prop} {s : Shared}
theorem intsAre_perm {l l' : List (Int × Value)} (p : l'.Perm l) : ∀ {ys}, IntsAre (l.map (·.2)) ys → ∃ ys', IntsAre (l'.map (·.2)) ys' ∧ ys'.Perm ys := by
  induction p with
  | nil => exact fun h => ⟨_, h, .refl _⟩
  | cons x _ ih =>
    intro ys h
    rw [List.map_cons] at h
    generalize hx : x.2 = v at h
    cases h with
    | cons n t h =>
      obtain ⟨ys', a, b⟩ := ih h
      exact ⟨n :: ys', by rw [List.map_cons, hx]; exact .cons n t a, b.cons n⟩
  | swap x y l =>
    intro ys h
    rw [List.map_cons, List.map_cons] at h
    generalize hx : x.2 = v at h
    generalize hy : y.2 = u at h
    cases h with
    | cons n t h =>
      cases h with
      | cons m t' h => exact ⟨m :: n :: _, by rw [List.map_cons, List.map_cons, hx, hy]; exact .cons m t' (.cons n t h), List.Perm.swap _ _ _⟩
  | trans _ _ ih1 ih2 =>
    intro ys h
    obtain ⟨y1, a1, b1⟩ := ih2 h
    obtain ⟨y2, a2, b2⟩ := ih1 a1
    exact ⟨y2, a2, b2.trans b1⟩
theorem intsAre_app : ∀ {vs ns us ms}, IntsAre vs ns → IntsAre us ms → IntsAre (vs ++ us) (ns ++ ms)
  | _, _, _, _, .nil, y => y
  | _, _, _, _, .cons n t h, y => .cons n t (intsAre_app h y)
theorem SetIn.perm {es es' : Array (Int × Value)} {t t' : SetTable} {xs : List Int} (h : SetIn prog w es t xs) (p : es'.toList.Perm es.toList) (T : TOk (!byText w) t' es'.size) : SetIn prog w es' t' xs := by
  obtain ⟨ys, a, b, c⟩ := h.ys
  obtain ⟨ys', a', p'⟩ := intsAre_perm p a
  exact ⟨h.el.perm p, ⟨ys', a', p'.nodup_iff.mpr b, fun k => p'.mem_iff.trans (c k)⟩, T⟩
theorem SetIn.find {es : Array (Int × Value)} {t : SetTable} {xs : List Int} (h : SetIn prog w es t xs) (k : Int) : ((List.findIdx? (fun e => (intKind prog w).is k e.2) es.toList).isSome = true ↔ k ∈ xs) := by
  obtain ⟨ys, a, b, c⟩ := h.ys
  rw [← c k, List.findIdx?_isSome]
  have go : ∀ (l : List (Int × Value)) (ys : List Int), IntsAre (l.map (·.2)) ys → (l.any (fun e => (intKind prog w).is k e.2) = true ↔ k ∈ ys) := by
    intro l
    induction l with
    | nil => intro ys h; cases h; simp
    | cons e r ih =>
      intro ys h
      rw [List.map_cons] at h
      generalize hx : e.2 = v at h
      cases h with
      | cons n t h =>
        rw [List.any_cons, Bool.or_eq_true, ih _ h, List.mem_cons, hx]
        have : (intKind prog w).is k (.int n t) = (n == k) := rfl
        rw [this, beq_iff_eq, eq_comm]
  exact go _ _ a
theorem setIn_at {a : Addr} {h h' : Heap} {o : Obj} {es es' : Array (Int × Value)} {ep : Nat} {t t' : SetTable} (ho : h.get? a = some o) (hex : o.ExactSet) (hd : o.data = .set es ep t) :
    ∃ o', (h.update a (Obj.putSet es' t')).get? a = some o' ∧ o'.ExactSet ∧ o'.data = .set es' (ep + 1) t' := by
  have hg := Heap.get?_update_self (Obj.putSet es' t') ho (by rw [putSet_of es' t' hd]; rfl)
  rw [putSet_of es' t' hd] at hg
  exact ⟨_, hg, hex, rfl⟩
theorem set_put {a : Addr} {o : Obj} {es es1 : Array (Int × Value)} {ep : Nat} {t t1 : SetTable} {xs : List Int} {wd : Bool} {R : Option Bool → Shared → Prop} (ho : s.heap.get? a = some o) (hex : o.ExactSet) (hd : o.data = .set es ep t)
    {g : Bool → Sem Unit} (hg : ∀ (b : Bool) (s₁ : Shared) (Q' : Unit → Shared → Prop), Q' () s₁ → wpAny (model prog w) A (g b) Q' E s₁)
    (I : SetIn prog w es1 t1 xs) (hb : es1.size < scanBound)
    (h : ∀ h' o', Heap.SameBut a s.heap h' → h'.get? a = some o' → SetAtI prog w o' xs → (∃ es' ep' t', o'.data = .set es' ep' t' ∧ es'.size = es1.size) → R (some true) { s with heap := h' }) :
    wpAny (model prog w) A (do
        storeSet a es1 t1
        if (!wd && t1.tooFull) = true then do
            g (relayAll t1 es1 (SetTable.grown es1.size)).2.2
            storeSet a (relayAll t1 es1 (SetTable.grown es1.size)).1 (relayAll t1 es1 (SetTable.grown es1.size)).2.1
            pure (some true)
          else pure (some true)) R E s := by
  refine wpAny_bind (wpAny_storeSet_of ho hd ?_ (fits_of_scanBound hb))
  obtain ⟨o1, ho1, hex1, hd1⟩ := setIn_at (h' := s.heap) (es' := es1) (t' := t1) ho hex hd
  have sb1 := Heap.SameBut.update s.heap a (Obj.putSet es1 t1)
  split
  · have hp := relayAll_perm t1 es1 (SetTable.grown es1.size)
    have hsz : (relayAll t1 es1 (SetTable.grown es1.size)).1.size = es1.size := by rw [← Array.length_toList, hp.length_eq, Array.length_toList]
    have hT := tok_relay I.tok (SetTable.grown es1.size)
    refine wpAny_bind (hg _ _ _ ?_)
    refine wpAny_bind (wpAny_storeSet_of ho1 hd1 ?_ (fits_of_scanBound (by rw [hsz]; exact hb)))
    obtain ⟨o2, ho2, hex2, hd2⟩ := setIn_at (h' := s.heap) (es' := (relayAll t1 es1 (SetTable.grown es1.size)).1) (t' := (relayAll t1 es1 (SetTable.grown es1.size)).2.1) ho1 hex1 hd1
    refine wpAny_pure ?_
    exact h _ o2 (sb1.trans (Heap.SameBut.update _ a _)) ho2 ⟨hex2, _, _, _, hd2, I.perm hp hT⟩ ⟨_, _, _, hd2, hsz⟩
  · exact wpAny_pure (h _ o1 sb1 ho1 ⟨hex1, _, _, _, hd1, I⟩ ⟨_, _, _, hd1, rfl⟩)
/-- how many a set holds -/
noncomputable def sizeIs (o : Obj) (n : Nat) : Prop := ∃ es ep t, o.data = .set es ep t ∧ es.size = n
theorem set_add {a : Addr} {o : Obj} {xs : List Int} {k : Int} {tk : Tok} {n : Nat} {Q : Bool → Shared → Prop} (ho : s.heap.get? a = some o) (hS : SetAtI prog w o xs) (hn : sizeIs o n) (hroom : n + 1 < scanBound)
    (h : ∀ b h' o' n', Heap.SameBut a s.heap h' → h'.get? a = some o' → SetAtI prog w o' (xs ++ [k]) → sizeIs o' n' → n' ≤ n + 1 → Q b { s with heap := h' }) :
    wpAny (model prog w) A (setAddHashed a (.int k tk) ((intKind prog w).hash k)) Q E s := by
  obtain ⟨hex, es, ep, t, hd, I⟩ := hS
  obtain ⟨es0, ep0, t0, hd0, rfl⟩ := hn
  rw [hd] at hd0; cases hd0
  have hkey : (intKind prog w).is k (.int k tk) = true := intKind_is _ _ _ _
  have hb : es.size < scanBound := by (first | lia | omega)
  unfold setAddHashed setAddHashedIn
  refine wpAny_holding (wpAny_bind (wpAny_setState_of ho hd I.tok.fits ?_))
  dsimp only
  rw [byScan_of rfl hb I.el]
  simp only [↓reduceIte]
  unfold setAddByScan
  refine wpAny_bind (wpAny_bind (wpAny_rule (wpAny_bind (wpAny_setScan_of hkey ho hd I.tok.fits I.el ?_))))
  have hf := I.find k
  cases hr : List.findIdx? (fun e => (intKind prog w).is k e.2) es.toList with
  | some j =>
    dsimp only
    refine wpAny_pure (wpAny_pure ?_)
    have hk : k ∈ xs := hf.mp (by rw [hr]; rfl)
    obtain ⟨ys, a1, a2, a3⟩ := I.ys
    exact h _ s.heap o es.size (Heap.SameBut.refl a s.heap) ho ⟨hex, es, ep, t, hd, I.el, ⟨ys, a1, a2, fun k' => by
      rw [a3, List.mem_append, List.mem_singleton]
      exact ⟨.inl, fun q => q.elim id fun e => e ▸ hk⟩⟩, I.tok⟩ ⟨es, ep, t, hd, rfl⟩ (Nat.le_succ _)
  | none =>
    dsimp only
    have hk : k ∉ xs := fun q => by have := hf.mpr q; rw [hr] at this; cases this
    have hgw : ∀ (b : Bool) (s₁ : Shared) (Q' : Unit → Shared → Prop), Q' () s₁ → wpAny (model prog w) A (match b with | true => rule "set.scan.the-table-gave-way" | false => pure ()) Q' E s₁ :=
      fun b s₁ Q' hq => by cases b <;> first | exact wpAny_pure hq | exact wpAny_rule hq
    have hperm := layNew_perm t es ((intKind prog w).hash k) (.int k tk)
    have hT := tok_layNew I.tok ((intKind prog w).hash k) (.int k tk)
    generalize hL : layNew t es ((intKind prog w).hash k) (.int k tk) = L at hperm hT ⊢
    obtain ⟨es1, t1, wd, gave⟩ := L
    dsimp only at hperm hT ⊢
    rw [Array.toList_push] at hperm
    have hsz1 : es1.size = es.size + 1 := by rw [← Array.length_toList, hperm.length_eq, List.length_append, Array.length_toList]; rfl
    have I1 : ∀ t', TOk (!byText w) t' es1.size → SetIn prog w es1 t' (xs ++ [k]) := fun t' hT' => by
      obtain ⟨ys, a1, a2, a3⟩ := I.ys
      have b1 : IntsAre ((es.toList ++ [((intKind prog w).hash k, Value.int k tk)]).map (·.2)) (ys ++ [k]) := by
        rw [List.map_append]; exact intsAre_app a1 (.cons k tk .nil)
      obtain ⟨ys', b2, b3⟩ := intsAre_perm hperm b1
      refine ⟨(I.el.push hkey rfl).perm hperm, ⟨ys', b2, b3.nodup_iff.mpr ?_, fun k' => b3.mem_iff.trans ?_⟩, hT'⟩
      · rw [List.nodup_append]
        exact ⟨a2, by simp, fun x hx y hy => by rw [List.mem_singleton.mp hy]; rintro rfl; exact hk ((a3 _).mp hx)⟩
      · rw [List.mem_append, List.mem_append, a3]
    have hb1 : es1.size < scanBound := by (first | lia | omega)
    refine wpAny_bind (hgw _ _ _ ?_)
    have fin : ∀ h' o', Heap.SameBut a s.heap h' → h'.get? a = some o' → SetAtI prog w o' (xs ++ [k]) → (∃ es' ep' t', o'.data = .set es' ep' t' ∧ es'.size = es1.size) → Q true { s with heap := h' } :=
      fun h' o' b1 b2 b3 ⟨es', ep', t', b4, b5⟩ => h true h' o' es1.size b1 b2 b3 ⟨es', ep', t', b4, b5⟩ (by (first | lia | omega))
    split
    · refine wpAny_bind ?_
      rw [hashByValue_scannable 8 rfl]
      refine wpAny_pure (set_put ho hex hd ?_ (I1 _ ?_) hb1 fun h' o' b1 b2 b3 b4 => ?_)
      · intro b s₁ Q' hq; cases b <;> first | exact wpAny_pure hq | exact wpAny_rule hq
      · split
        · exact hT
        · exact tok_off hT
      · dsimp only; exact wpAny_pure (fin h' o' b1 b2 b3 b4)
    · refine wpAny_bind (wpAny_pure ?_)
      simp only [↓reduceIte]
      refine set_put ho hex hd ?_ (I1 _ hT) hb1 fun h' o' b1 b2 b3 b4 => ?_
      · intro b s₁ Q' hq; cases b <;> first | exact wpAny_pure hq | exact wpAny_rule hq
      · dsimp only; exact wpAny_pure (fin h' o' b1 b2 b3 b4)
end
section
variable {prog : Program} {w : World} {A : Around} {E : Value → Shared → Prop} {s : Shared}
/-- the loop that fills a set -/
theorem set_fill {R : Result → Shared → Prop} {I : Addr} {fp wr : List Addr} {G : Array GenState → Array GenState → Prop} {n : Nat} {P : Nat → Value → Prop} {St : Nat → Shared → Prop} (W : WalksS prog w A.in1 I fp wr G n P St) {S : Addr} (hSf : S ∉ fp)
    (ns : List Int) (hln : ns.length = n) (hval : ∀ i v, P i v → ∃ t, v = .int (ns.getD i 0) t) (hb : n + 1 < scanBound) :
    ∀ (k i : Nat) (s : Shared) (o : Obj) (c : Nat), n - i = k → i ≤ n → St i s → s.heap.get? S = some o → SetAtI prog w o (ns.take i) → sizeIs o c → c ≤ i →
      (∀ s' o' c', Moved (S :: wr) G s s' → s'.heap.get? S = some o' → SetAtI prog w o' ns → sizeIs o' c' → c' ≤ n → R (.ok (.ret .none)) s') →
      codeAny (model prog w) A (.builtin "set.update.loop" ⟨[.ref S, .ref I], []⟩) R s := by
  have hSw : S ∉ wr := fun h => hSf (W.sub _ h)
  have hsub : ∀ b ∈ wr, b ∈ S :: wr := fun b hb => List.mem_cons_of_mem _ hb
  intro k
  induction k with
  | zero =>
    intro i s o c hk hi st ho hS hc hci hR
    have hin : i = n := by (first | lia | omega)
    subst hin
    rw [List.take_of_length_le (by (first | lia | omega))] at hS
    refine codeAny_builtin PyProof.Rows.F.entry_set_update_loop ?_
    rw [Around.under_plainId PyProof.Rows.F.plain_set_update_loop _]
    show wpAny _ A.in1 (pyNext (.ref I) >>= _) _ _ s
    exact wpAny_bind (W.done s _ _ st fun s' hm => wpAny_pure (hR s' o c (hm.mono hsub) (hm.heap S _ hSw ho) hS hc hci))
  | succ k ih =>
    intro i s o c hk hi st ho hS hc hci hR
    have hlt : i < n := by (first | lia | omega)
    refine codeAny_builtin PyProof.Rows.F.entry_set_update_loop ?_
    rw [Around.under_plainId PyProof.Rows.F.plain_set_update_loop _]
    show wpAny _ A.in1 (pyNext (.ref I) >>= _) _ _ s
    refine wpAny_bind (W.item i s _ _ hlt st fun v s' hP st' hm => ?_)
    obtain ⟨t, rfl⟩ := hval i v hP
    show wpAny _ A.in1 (holding [Value.int (ns.getD i 0) t] (setAdd S (.int (ns.getD i 0) t)) >>= _) _ _ s'
    unfold setAdd
    refine wpAny_bind (wpAny_holding (wpAny_holding (wpAny_bind ((intKind prog w).pyHash (k := ns.getD i 0) (intKind_is _ _ _ _) ?_))))
    refine set_add (s := { s' with toks := s'.toks + 1 }) (hm.heap S _ hSw ho) hS hc (by (first | lia | omega)) fun b h' o' c' hsb ho' hS' hc' hcl => ?_
    have e : ns.take i ++ [ns.getD i 0] = ns.take (i + 1) := by
      rw [List.take_succ_eq_append_getElem (by (first | lia | omega))]; simp [show i < ns.length by (first | lia | omega)]
    rw [e] at hS'
    refine wpAny_pure ⟨plainId_quiet PyProof.Rows.F.plain_set_update_loop _, ih (i + 1) _ o' c' (by (first | lia | omega)) hlt (W.frame _ s' _ _ st' (Nat.le_succ _) fun b hb o e => ?_) ho' hS' hc' (by (first | lia | omega)) fun s'' o'' c'' hm'' a1 a2 a3 a4 => hR s'' o'' c'' (Moved.trans W.gtrans ((hm.mono hsub).then_heap (Nat.le_succ _) fun b o hb e => ?_) hm'') a1 a2 a3 a4⟩
    · exact (hsb.2 b (fun h : b = S => hSf (h ▸ hb))).trans e
    · exact (hsb.2 b (fun h : b = S => hb (h ▸ List.mem_cons_self))).trans e
theorem set_new (a : Value) {Q₁ : Value → Shared → Prop}
    (h : Q₁ (.ref s.heap.objs.size) { s with heap := s.heap.push { cls := .type "set", dict := none, data := .set #[] 0 (.fresh 0 0 (!byText w)) } }) :
    codeAny (model prog w) A (.call (.builtin "set.__new__") ⟨[.type "set", a], []⟩) (wants Q₁ E) s := by
  refine codeAny_of_tree ?_
  show wpAny _ A.in1 (do checkBuiltinCall "set.__new__" ⟨[.type "set", a], []⟩; again (.builtin "set.__new__" ⟨[.type "set", a], []⟩)) _ _ s
  refine wpAny_bind (wpAny_of_eq (PySem.F.newCall_set_1 a) (wpAny_pure ⟨plainId_quiet PySem.F.plain_set_new _, codeAny_builtin PySem.F.entry_set_new ?_⟩))
  rw [Around.under_plainId PySem.F.plain_set_new _]
  unfold Builtin.«set.__new__» Builtin.Frozenset.newClass
  have hsub := PySem.sub_set_self
  obtain ⟨hp, g, d, tk, os⟩ := s
  dsimp only
  wp_walk
  refine wpAny_askSetting (wpAny_pure ?_)
  dsimp only
  simp only [newObj]
  refine wpAny_bind (wpAny_alloc (wpAny_pure ?_))
  exact wpAny_pure h
theorem setAtI_new (L : Bool) (hL : L = !byText w) : SetAtI prog w { cls := .type "set", dict := none, data := .set #[] 0 (.fresh 0 0 L) } [] :=
  ⟨⟨rfl, rfl, rfl⟩, #[], 0, _, rfl, (fun e he => by simp at he), ⟨[], .nil, List.nodup_nil, fun k => Iff.rfl⟩, ⟨rfl, List.Pairwise.nil, rfl, hL⟩⟩
set_option maxHeartbeats 3200000 in
theorem call_set {l : Addr} {items : Array Value} {ns : List Int} {Q : Value → Shared → Prop}
    (hh : A.handled = none) (hl : s.heap.IsList l items) (hi : IntsAre items.toList ns) (hb : items.size + 1 < scanBound)
    (h : ∀ (h' : Heap) (tk : Nat) o c, (∀ b o, s.heap.get? b = some o → h'.get? b = some o) → h'.get? s.heap.objs.size = some o → SetAtI prog w o ns → sizeIs o c → c ≤ items.size → Q (.ref s.heap.objs.size) { s with heap := h', toks := tk }) :
    wpAny (model prog w) A (call (.type "set") [.ref l]) Q E s := by
  obtain ⟨c, tl, hmro⟩ := PySem.F.called_set.mro
  have hmade := PySem.F.called_set.made
  have hsub := PySem.F.called_set.sub
  refine wpAny_call (codeAny_of_tree ?_)
  show wpAny _ _ (callAny (.type "set") _) _ _ _
  refine wpAny_pure ⟨Code.quiet_builtin _ (by decide +kernel), codeAny_builtin PySem.F.entry_type_call ?_⟩
  rw [Around.under_plain (weight_type_call_type "set" [.ref l] []) rfl]
  have h1 := PySem.F.called_set.notType
  have h2 := PySem.F.called_set.canCreate
  have hct := PySem.F.typeCall_set_1 (.ref l)
  repeat (any_goals (first | assumption | wp_step))
  refine codeAny_mono (set_new (.ref l) (E := E) (Q₁ := fun obj s₁ => obj = .ref s.heap.objs.size ∧ s₁ = { s with heap := s.heap.push { cls := .type "set", dict := none, data := .set #[] 0 (.fresh 0 0 (!byText w)) } }) ⟨rfl, rfl⟩) fun r s₁ hr => ?_
  cases r with
  | error e => exact hr
  | ok fl =>
    cases fl with
    | ret obj =>
      obtain ⟨rfl, rfl⟩ := hr
      generalize hled : (!byText w) = led
      have hS : (s.heap.push { cls := .type "set", dict := none, data := .set #[] 0 (.fresh 0 0 led) }).get? s.heap.objs.size = some { cls := .type "set", dict := none, data := .set #[] 0 (.fresh 0 0 led) } := Heap.get?_push_size _ rfl
      have hT : Shared.TypeIs { s with heap := s.heap.push { cls := .type "set", dict := none, data := .set #[] 0 (.fresh 0 0 led) } } (.ref s.heap.objs.size) "set" := ⟨_, hS, rfl⟩
      have hli := PySem.F.called_set.init.lookup
      have hbi := PySem.F.called_set.init.bind (.ref s.heap.objs.size)
      repeat (any_goals (first | assumption | wp_step))
      refine codeAny_mono (codeAny_call_builtin (R := wants (fun r s₂ => r = .none ∧ ∃ h' tk o c, s₂ = { s with heap := h', toks := tk } ∧ h'.get? s.heap.objs.size = some o ∧ SetAtI prog w o ns ∧ sizeIs o c ∧ c ≤ items.size ∧
          (∀ b o, s.heap.get? b = some o → h'.get? b = some o)) E) PySem.F.called_set.init.plain PySem.F.entry_set_init (PySem.check_set_init_1 hT ?_)) fun r₂ s₂ hr₂ => ?_
      · obtain ⟨ol, hol, hcl, nl, hdl⟩ := hl
        obtain ⟨ocls, odict, odata, oslots⟩ := ol
        simp only at hcl hdl
        subst hcl; subst hdl
        have hol' : (s.heap.push { cls := .type "set", dict := none, data := .set #[] 0 (.fresh 0 0 led) }).get? l = some { cls := .type "list", dict := odict, data := .seq items nl, slots := oslots } := Heap.get?_push_of_some _ hol
        have hsls := PySem.F.sub_list_set
        have hslf := PySem.F.sub_list_frozenset
        have hne : (Value.type "list" == Value.type "dict") = false := by decide
        have hl1 : (s.heap.push { cls := .type "set", dict := none, data := .set #[] 0 (.fresh 0 0 led) }).IsList l items := ⟨_, hol', rfl, nl, rfl⟩
        unfold Builtin.«set.__init__» noKeywords Builtin.Frozenset.updateFrom
        generalize hPI : pyIter = PI
        wp_walk
        subst hPI
        refine wpAny_pyIter_list hl1 ?_
        refine wpAny_bind (wpAny_runValue ?_)
        have hlS : l < s.heap.objs.size := Heap.lt_size hol
        have hh3 : A.in1.in1.in1.handled = none := by simp [hh]
        have hneI : l ≠ (s.heap.push { cls := .type "set", dict := none, data := .set #[] 0 (.fresh 0 0 led) }).objs.size := by
          rw [Heap.size_push]; exact Nat.ne_of_lt (Nat.lt_succ_of_lt hlS)
        have hSf : s.heap.objs.size ∉ [(s.heap.push { cls := .type "set", dict := none, data := .set #[] 0 (.fresh 0 0 led) }).objs.size, l] := by
          rw [Heap.size_push]; simp only [List.mem_cons, List.mem_singleton, List.not_mem_nil, or_false, not_or]
          exact ⟨Nat.ne_of_lt (Nat.lt_succ_self _), Nat.ne_of_gt hlS⟩
        have hlen : ns.length = items.size := by rw [← IntsAre.length hi]; simp
        refine set_fill ((Walks.list hh3 _ l hneI items).toS) (S := s.heap.objs.size) hSf ns hlen (fun i v hv => IntsAre.int_at hi i v (by rw [Array.getElem?_toList]; exact hv)) hb (items.size - 0) 0 _ _ 0 (by (first | lia | omega)) (Nat.zero_le _)
          ⟨⟨_, Heap.get?_push_size _ rfl, rfl, rfl⟩, (hl1.push _)⟩ (Heap.get?_push_of_some _ hS) (by rw [List.take_zero]; exact setAtI_new led hled.symm) ⟨_, _, _, rfl, rfl⟩ (Nat.le_refl _) ?hR
        case hR =>
          intro s' o' c' hm ho' hS' hc' hcl'
          obtain ⟨h', g', d', tk', os'⟩ := s'
          have eg : g' = s.gens := hm.gens
          have ed : d' = s.drawn := hm.drawn
          have eo : os' = s.os := hm.os
          subst eg; subst ed; subst eo
          show wpAny _ _ _ _ _ _
          refine wpAny_pure ?_
          show wpAny _ _ (ret Value.none) _ _ _
          refine wpAny_pure ⟨rfl, h', tk', o', c', rfl, ho', hS', hc', hcl', fun b o e => ?_⟩
          have hb0 := Heap.lt_size e
          have hb1 : b ≠ s.heap.objs.size := Nat.ne_of_lt hb0
          have hb2 : b ≠ (s.heap.push { cls := .type "set", dict := none, data := .set #[] 0 (.fresh 0 0 led) }).objs.size := by
            rw [Heap.size_push]; exact Nat.ne_of_lt (Nat.lt_succ_of_lt hb0)
          exact hm.heap b o (by simp only [List.mem_cons, List.mem_singleton, List.not_mem_nil, or_false, not_or]; exact ⟨hb1, hb2⟩) (Heap.get?_push_of_some _ (Heap.get?_push_of_some _ e))
      · cases r₂ with
        | error e => exact hr₂
        | ok fl₂ =>
          cases fl₂ with
          | ret r =>
            obtain ⟨rfl, h', tk, o', c', rfl, ho', hS', hc', hcl', hk'⟩ := hr₂
            repeat (any_goals (first | assumption | wp_step))
            exact h _ _ o' c' hk' ho' hS' hc' hcl'
          | _ => exact hr₂.elim
    | _ => exact hr.elim
end
/-! ## the order in which a set is walked -/
theorem perm_eraseIdx {α : Type} : ∀ (l : List α) (i : Nat) (x : α), l[i]? = some x → (x :: l.eraseIdx i).Perm l
  | [], i, x, e => by simp at e
  | a :: r, 0, x, e => by simp at e; subst e; simp
  | a :: r, i + 1, x, e => by
    simp only [List.getElem?_cons_succ] at e
    rw [List.eraseIdx_cons_succ]
    exact (List.Perm.swap a x _).trans ((perm_eraseIdx r i x e).cons a)
theorem pick_perm {α : Type} (next : Nat → Nat) : ∀ (fuel k : Nat) (left : List α) (out : Array α), left.length = fuel → (pickOrder.go next fuel k left out).toList.Perm (out.toList ++ left)
  | 0, k, left, out, h => by
    have : left = [] := List.length_eq_zero_iff.mp h
    subst this; unfold pickOrder.go; simp
  | fuel + 1, k, left, out, h => by
    unfold pickOrder.go
    have hi : next k % left.length < left.length := Nat.mod_lt _ (by (first | lia | omega))
    rw [List.getElem?_eq_getElem hi]
    dsimp only
    refine (pick_perm next fuel (k + 1) _ _ (by rw [List.length_eraseIdx]; simp [hi]; (first | lia | omega))).trans ?_
    rw [Array.toList_push, List.append_assoc]
    refine List.Perm.append_left _ ?_
    exact perm_eraseIdx left _ _ (List.getElem?_eq_getElem hi)
theorem pickOrder_perm {α : Type} (next : Nat → Nat) (xs : Array α) : (pickOrder next xs).toList.Perm xs.toList := by
  unfold pickOrder
  exact (pick_perm next xs.size 0 xs.toList #[] (by simp)).trans (by simp)
section
variable {M : Model} {A : Around} {E : Value → Shared → Prop} {s : Shared}
theorem wpAny_choose' {src : Source} {n : Nat} {Q : Nat → Shared → Prop} (hn : n ≠ 0) (h : ∀ r d, r < n → Q r { s with drawn := d }) : wpAny M A (choose src n) Q E s := fun Γ p hΓ => by
  unfold choose
  rw [Sem.wp_choose]
  exact ⟨hn, h _ _ (Nat.mod_lt _ (Nat.pos_of_ne_zero hn))⟩
theorem wpAny_drawOrder {α : Type} : ∀ (n : Nat) (xs : List α) (s : Shared) {Q : List α → Shared → Prop}, xs.length = n → (∀ ys d, ys.Perm xs → Q ys { s with drawn := d }) → wpAny M A (drawOrder n xs) Q E s
  | 0, xs, s, Q, hl, h => by
    have : xs = [] := List.length_eq_zero_iff.mp hl
    subst this; unfold drawOrder; exact wpAny_pure (h [] s.drawn (.refl _))
  | n + 1, [], s, Q, hl, h => by cases hl
  | n + 1, x :: r, s, Q, hl, h => by
    unfold drawOrder
    refine wpAny_bind (wpAny_choose' (by simp) fun i d hi => ?_)
    rw [List.getElem?_eq_getElem hi]
    dsimp only
    refine wpAny_bind (wpAny_drawOrder n _ _ (by rw [List.length_eraseIdx, if_pos hi]; simpa using hl) fun ys d' hp => wpAny_pure ?_)
    exact h _ d' ((hp.cons _).trans (perm_eraseIdx _ i _ (List.getElem?_eq_getElem hi)))
end
/-! ## the iterator of a set -/
noncomputable def sitO (first : Value) (i : Nat) (a : Addr) (n ep : Nat) : Obj := { cls := .type "set_iterator", data := .fields #[first, .int i 0, .ref a, .int n 0, .int ep 0] }
theorem slot_si_next : Slot "set_iterator" "__next__" "set_iterator.__next__" :=
  .of (owner := "set_iterator") (n := "__next__") (by rw [typeLookup_type, builtinLookup_eq_fast]; kernel_rfl) (by decide +kernel) (by decide +kernel) (by decide +kernel)
    (by first | exact .inl (by decide +kernel) | exact .inr (by decide +kernel)) (by rw [isSubtype_type]; kernel_rfl)
theorem entry_si_next : entryFor table "set_iterator.__next__" = some Builtin.«set_iterator.__next__» := entryFor_of_tree (by kernel_rfl)
theorem args_si_next (a : Value) : argsOk "set_iterator.__next__" ⟨[a], []⟩ := by unfold argsOk; kernel_rfl
theorem slot_si_iter : Slot "set_iterator" "__iter__" "set_iterator.__iter__" :=
  .of (owner := "set_iterator") (n := "__iter__") (by rw [typeLookup_type, builtinLookup_eq_fast]; kernel_rfl) (by decide +kernel) (by decide +kernel) (by decide +kernel)
    (by first | exact .inl (by decide +kernel) | exact .inr (by decide +kernel)) (by rw [isSubtype_type]; kernel_rfl)
theorem entry_si_iter : entryFor table "set_iterator.__iter__" = some Builtin.«dict_keyiterator.__iter__» :=
  entryFor_alias (id' := "dict_keyiterator.__iter__") (by kernel_rfl) rfl (by decide +kernel) (by kernel_rfl)
theorem args_si_iter (a : Value) : argsOk "set_iterator.__iter__" ⟨[a], []⟩ := by unfold argsOk; kernel_rfl
theorem entry_set_iter : entryFor table "set.__iter__" = some Builtin.«frozenset.__iter__» :=
  entryFor_alias (id' := "frozenset.__iter__") (by kernel_rfl) rfl (by decide +kernel) (by kernel_rfl)
section
variable {prog : Program} {w : World} {A : Around} {E : Value → Shared → Prop} {s : Shared}
/-- an iterator that ends says so -/
theorem stop_end {α : Type} {P : α → Shared → Prop} {Ex : Value → Shared → Prop} (hh : A.handled = none) (h : ∀ x h', (∀ b o, s.heap.get? b = some o → h'.get? b = some o) → Shared.TypeIs { s with heap := h' } (.ref x) "StopIteration" → Ex (.ref x) { s with heap := h' }) :
    wpAny (model prog w) A (newExc (.type "StopIteration") [] >>= fun x => (raiseNew x : Sem α)) P Ex s := by
  refine wpAny_bind ?_
  simp only [newExc, newTuple]
  refine wpAny_bind (wpAny_newObj_type ?_ (by size_fits))
  refine wpAny_bind (m := firstArgMember _ _) (wpAny_of_eq (a := Value.none) (by first | rfl | (simp only [firstArgMember]; rfl)) ?_)
  refine wpAny_newObj_type ?_ (by size_fits)
  simp only [raiseNew]
  refine wpAny_bind (wpAny_handled ?_)
  rw [hh]
  refine wpAny_bind (wpAny_pure (wpAny_throw ?_))
  exact h _ _ (fun b o e => Heap.get?_push_of_some _ (Heap.get?_push_of_some _ e)) ⟨_, Heap.get?_push_size _ rfl, rfl⟩
/-- what the set's own step gives -/
noncomputable def StepOk (prog : Program) (w : World) (a : Addr) (es : Array (Int × Value)) (ep : Nat) (t : SetTable) (vs : List Value) (sl : Nat → Nat) : Prop :=
  ∀ (A : Around) (i : Nat) (s : Shared) (o : Obj) (E : Value → Shared → Prop) (Q : Option (Value × Nat) → Shared → Prop), s.heap.get? a = some o → o.data = .set es ep t → i ≤ vs.length → Q ((vs[i]?).map fun x => (x, sl (i + 1))) s → wpAny (model prog w) A (setNext a (sl i) i ep) Q E s
theorem byText_ask {Q : Bool → Shared → Prop} (h : Q (byText w) s) : wpAny (model prog w) A setsByText Q E s := by
  unfold setsByText
  exact wpAny_bind (wpAny_askSetting (wpAny_pure h))
theorem setWalk_text {a : Addr} {o : Obj} {es : Array (Int × Value)} {ep : Nat} {t : SetTable} {Q : Array (Int × Value) → Shared → Prop} (hb : byText w = true) (ho : s.heap.get? a = some o) (hd : o.data = .set es ep t) (hf : t.fits es.size = true)
    (h : Q (pickOrder (w.params.setOrder a ep) es) s) : wpAny (model prog w) A (setWalk a) Q E s := by
  unfold setWalk
  refine wpAny_bind (wpAny_setState_of ho hd hf ?_)
  refine wpAny_bind (byText_ask ?_)
  rw [hb]
  exact wpAny_bind (wpAny_askSetting (wpAny_pure h))
theorem step_text {a : Addr} {es : Array (Int × Value)} {ep : Nat} {t : SetTable} (hb : byText w = true) (hf : t.fits es.size = true) :
    StepOk prog w a es ep t ((pickOrder (w.params.setOrder a ep) es).toList.map (·.2)) (fun _ => 0) := by
  intro A i s o E Q ho hd hi hq
  unfold setNext
  refine wpAny_bind (wpAny_setState_of ho hd hf ?_)
  refine wpAny_bind (byText_ask ?_)
  rw [hb]
  simp only [bne_self_eq_false, Bool.false_eq_true, if_false, if_true]
  refine wpAny_bind (setWalk_text hb ho hd hf (wpAny_pure ?_))
  simp only [List.getElem?_map, Array.getElem?_toList, Option.map_map] at hq
  exact hq
noncomputable def slP (place : Array Nat) : Nat → Nat
  | 0 => 0
  | i + 1 => place.getD i 0 + 1
theorem below_slP {place : Array Nat} (hr : Rise place.toList) (i : Nat) (hi : i ≤ place.size) : SetTable.below place (slP place i) = i := by
  obtain ⟨b1, b2, b3⟩ := below_spec hr (slP place i)
  have mono : ∀ x y, x < y → y < place.size → place.getD x 0 < place.getD y 0 := fun x y hxy hy => by
    have hx : x < place.size := by (first | lia | omega)
    have := List.pairwise_iff_getElem.mp hr x y (by simpa using hx) (by simpa using hy) hxy
    simp [hx, hy] at this ⊢; exact this
  cases i with
  | zero =>
    rcases Nat.eq_zero_or_pos (SetTable.below place (slP place 0)) with q | q
    · exact q
    · have := b2 0 q; simp only [slP] at this; (first | lia | omega)
  | succ j =>
    simp only [slP] at b1 b2 b3 ⊢
    generalize SetTable.below place (place.getD j 0 + 1) = p at b1 b2 b3 ⊢
    rcases Nat.lt_trichotomy p (j + 1) with q | q | q
    · have := b3 j (by (first | lia | omega)) (by (first | lia | omega)); (first | lia | omega)
    · exact q
    · have h1 := b2 (j + 1) q
      have h2 := mono j (j + 1) (by (first | lia | omega)) (by (first | lia | omega))
      (first | lia | omega)
theorem step_plain {a : Addr} {es : Array (Int × Value)} {ep : Nat} {t : SetTable} (hb : byText w = false) (T : TOk (!byText w) t es.size) (hd' : (!t.plain && decide (es.size > 1)) = false) :
    StepOk prog w a es ep t (es.toList.map (·.2)) (slP t.place) := by
  intro A i s o E Q ho hd hi hq
  have hps : t.place.size = es.size := by have := T.fits; unfold SetTable.fits at this; simp at this; exact this.1
  simp only [List.length_map, Array.length_toList] at hi
  have hbl := below_slP T.rise i (by (first | lia | omega))
  unfold setNext
  refine wpAny_bind (wpAny_setState_of ho hd T.fits ?_)
  refine wpAny_bind (byText_ask ?_)
  rw [hb]
  simp only [Bool.false_eq_true, if_false]
  have hneg : ¬ ((!t.plain && decide (es.size > 1)) = true) := by rw [hd']; decide
  refine wpAny_ite_split (fun hab => absurd hab hneg) (fun _ => ?_)
  refine wpAny_bind (wpAny_of_eq (a := ()) ?_ ?_)
  · show (if (!t.led && !es.isEmpty) = true then unsupported _ else pure ()) = pure ()
    rw [T.led, hb]; rfl
  rw [hbl]
  refine wpAny_pure ?_
  rcases Nat.lt_or_ge i es.size with q | q
  · have h1 : es[i]? = some es[i] := Array.getElem?_eq_getElem q
    have h2 : t.place[i]? = some t.place[i] := Array.getElem?_eq_getElem (by (first | lia | omega))
    simp only [h1, h2]
    simp only [List.getElem?_map, Array.getElem?_toList, h1, Option.map_some, slP] at hq
    have : t.place.getD i 0 = t.place[i] := by simp [show i < t.place.size by (first | lia | omega)]
    rw [this] at hq
    exact hq
  · have h1 : es[i]? = none := Array.getElem?_eq_none q
    simp only [h1]
    simpa [h1] using hq
end
section
variable {prog : Program} {w : World} {A : Around} {E : Value → Shared → Prop} {s : Shared}
theorem setEntries_at {a : Addr} {o : Obj} {es : Array (Int × Value)} {ep : Nat} {t : SetTable} {Q : Array (Int × Value) → Shared → Prop} (ho : s.heap.get? a = some o) (hd : o.data = .set es ep t) (hf : t.fits es.size = true) (h : Q es s) :
    wpAny (model prog w) A (setEntries a) Q E s := by
  unfold setEntries
  exact wpAny_bind (wpAny_setState_of ho hd hf (wpAny_pure h))
theorem sit_set {h : Heap} {I : Addr} {first : Value} {i : Nat} {a : Addr} {n ep : Nat} (k : Nat) (v : Value) (ho : h.get? I = some (sitO first i a n ep)) :
    (h.update I (Obj.mapFields (·.setIfInBounds k v))).get? I = some (Obj.mapFields (·.setIfInBounds k v) (sitO first i a n ep)) :=
  Heap.get?_update_self _ ho rfl
theorem walks_si (hh : A.handled = none) {I a : Addr} (hne : a ≠ I) {es : Array (Int × Value)} {ep : Nat} {t : SetTable} {vs : List Value} {sl : Nat → Nat} (hf : t.fits es.size = true) (hln : vs.length = es.size) (st : StepOk prog w a es ep t vs sl) :
    Walks prog w A I [I, a] [I] vs.length (fun i v => vs[i]? = some v) (fun i h => (∃ o, h.get? a = some o ∧ o.data = .set es ep t) ∧ h.get? I = some (sitO (.int (sl i) 0) i a es.size ep)) where
  sub := fun b hb => by simp at hb; simp [hb]
  frame := fun i h h' ⟨⟨o, ho, hd⟩, hI⟩ hk => ⟨⟨o, hk a (by simp) o ho, hd⟩, hk I (by simp) _ hI⟩
  item := fun i s Q E hi ⟨⟨o, ho, hd⟩, hI⟩ hQ => by
    have hT : s.TypeIs (.ref I) "set_iterator" := ⟨_, hI, rfl⟩
    unfold pyNext
    refine wpAny_bind (wpAny_attempt (wpAny_callSpecial?_slot (name := Str.ofString "__next__") hT slot_si_next (wpAny_call_entry slot_si_next hT entry_si_next ?_ (args_si_next _))))
    show wpAny _ _ (fieldsOf (.ref I) >>= _) _ _ s
    refine wpAny_bind (wpAny_fieldsOf hI rfl ?_)
    show wpAny _ _ (setEntries a >>= _) _ _ s
    refine wpAny_bind (setEntries_at ho hd hf ?_)
    simp only [bne_self_eq_false, Bool.false_eq_true, if_false]
    show wpAny _ _ (setNext a (sl i) i ep >>= _) _ _ s
    refine wpAny_bind (st _ i s o _ _ ho hd (Nat.le_of_lt hi) ?_)
    rw [List.getElem?_eq_getElem hi]
    dsimp only [Option.map_some]
    show wpAny _ _ (setField (.ref I) 0 (rawInt (sl (i + 1))) >>= fun _ => setField (.ref I) 1 (rawInt ((i : Int) + 1)) >>= fun _ => ret vs[i]) _ _ s
    refine wpAny_bind (wpAny_setField hI rfl (by simp) ?_)
    have h1 := sit_set 0 (rawInt (sl (i + 1))) hI
    refine wpAny_bind (wpAny_setField (s := { s with heap := _ }) h1 rfl (by simp) ?_)
    refine wpAny_pure ⟨vs[i], rfl, wpAny_pure (hQ _ _ s.toks (by simp [hi]) ⟨⟨o, ?_, hd⟩, ?_⟩ fun b o hb e => ?_)⟩
    · rw [Heap.get?_update_other _ _ (Ne.symm hne), Heap.get?_update_other _ _ (Ne.symm hne)]; exact ho
    · exact Heap.get?_update_self _ h1 rfl
    · have hb' : I ≠ b := fun q => hb (by simp [q])
      rw [Heap.get?_update_other _ _ hb', Heap.get?_update_other _ _ hb']; exact e
  done := fun s Q E ⟨⟨o, ho, hd⟩, hI⟩ hQ => by
    have hT : s.TypeIs (.ref I) "set_iterator" := ⟨_, hI, rfl⟩
    unfold pyNext
    refine wpAny_bind (wpAny_attempt (wpAny_callSpecial?_slot (name := Str.ofString "__next__") hT slot_si_next (wpAny_call_entry slot_si_next hT entry_si_next ?_ (args_si_next _))))
    show wpAny _ _ (fieldsOf (.ref I) >>= _) _ _ s
    refine wpAny_bind (wpAny_fieldsOf hI rfl ?_)
    show wpAny _ _ (setEntries a >>= _) _ _ s
    refine wpAny_bind (setEntries_at ho hd hf ?_)
    simp only [bne_self_eq_false, Bool.false_eq_true, if_false]
    show wpAny _ _ (setNext a (sl vs.length) vs.length ep >>= _) _ _ s
    refine wpAny_bind (st _ vs.length s o _ _ ho hd (Nat.le_refl _) ?_)
    rw [List.getElem?_eq_none (Nat.le_refl _)]
    dsimp only [Option.map_none]
    refine wpAny_bind (wpAny_setField hI rfl (by simp) ?_)
    refine stop_end (by exact hh) fun x h' k hTx => ?_
    refine wpAny_bind (wpAny_isInstance (T := "StopIteration") (b := true) hTx isSubtype_stop ?_)
    refine wpAny_pure (hQ h' s.toks fun b o hb e => k b o ?_)
    have hb' : I ≠ b := fun q => hb (by simp [q])
    rw [Heap.get?_update_other _ _ hb']; exact e
  self := fun i s Q E ⟨_, hI⟩ hQ => by
    have hT : s.TypeIs (.ref I) "set_iterator" := ⟨_, hI, rfl⟩
    refine wpAny_pyIter_slot hT slot_si_iter (wpAny_call_entry slot_si_iter hT entry_si_iter ?_ (args_si_iter _))
    show wpAny _ _ (ret (.ref I)) _ _ s
    exact wpAny_pure ⟨_, rfl, "set_iterator", _, hT, slot_si_next.lookup, hQ⟩
end
section
variable {prog : Program} {w : World} {A : Around} {E : Value → Shared → Prop} {s : Shared}
noncomputable def plO (pl : List Nat) (n : Nat) : Obj := tobj (pl.map fun i : Nat => rawInt i) n
theorem walks_sd (hh : A.handled = none) {I a T : Addr} (hne : a ≠ I) (hTI : T ≠ I) {es : Array (Int × Value)} {ep : Nat} {t : SetTable} {pl : List Nat} {c : Nat} (hf : t.fits es.size = true) (hln : pl.length = es.size) (hpl : ∀ j ∈ pl, j < es.size) :
    Walks prog w A I [I, a, T] [I] es.size (fun i v => ((pl[i]?).bind fun j => (es[j]?).map (·.2)) = some v)
      (fun i h => (∃ o, h.get? a = some o ∧ o.data = .set es ep t) ∧ h.get? I = some (sitO (.ref T) i a es.size ep) ∧ h.get? T = some (plO pl c)) where
  sub := fun b hb => by simp at hb; simp [hb]
  frame := fun i h h' ⟨⟨o, ho, hd⟩, hI, hT⟩ hk => ⟨⟨o, hk a (by simp) o ho, hd⟩, hk I (by simp) _ hI, hk T (by simp) _ hT⟩
  item := fun i s Q E hi ⟨⟨o, ho, hd⟩, hI, hTu⟩ hQ => by
    have hT : s.TypeIs (.ref I) "set_iterator" := ⟨_, hI, rfl⟩
    have hil : i < pl.length := by (first | lia | omega)
    have hj : pl[i] < es.size := hpl _ (List.getElem_mem hil)
    unfold pyNext
    refine wpAny_bind (wpAny_attempt (wpAny_callSpecial?_slot (name := Str.ofString "__next__") hT slot_si_next (wpAny_call_entry slot_si_next hT entry_si_next ?_ (args_si_next _))))
    show wpAny _ _ (fieldsOf (.ref I) >>= _) _ _ s
    refine wpAny_bind (wpAny_fieldsOf hI rfl ?_)
    show wpAny _ _ (setEntries a >>= _) _ _ s
    refine wpAny_bind (setEntries_at ho hd hf ?_)
    simp only [bne_self_eq_false, Bool.false_eq_true, if_false]
    show wpAny _ _ (seqItems? (.ref T) >>= _) _ _ s
    refine wpAny_bind (wpAny_seqItems (items := (pl.map fun i : Nat => rawInt i).toArray) hTu rfl ?_)
    have e1 : (pl.map fun i : Nat => rawInt (i : Int)).toArray[((i : Nat) : Int).toNat]? = some (rawInt pl[i]) := by simp [hil]
    dsimp only
    rw [e1]
    show wpAny _ _ (setNextDrawn a pl[i] ep >>= _) _ _ s
    have e2 : es[pl[i]]? = some es[pl[i]] := Array.getElem?_eq_getElem hj
    refine wpAny_bind ?_
    unfold setNextDrawn
    refine wpAny_bind (wpAny_setState_of ho hd hf ?_)
    dsimp only
    rw [e2]
    simp only [bne_self_eq_false, Bool.false_eq_true, if_false]
    refine wpAny_pure ?_
    show wpAny _ _ (setField (.ref I) 1 (rawInt ((i : Int) + 1)) >>= fun _ => ret es[pl[i]].2) _ _ s
    refine wpAny_bind (wpAny_setField hI rfl (by simp) ?_)
    have h1 := sit_set 1 (rawInt ((i : Int) + 1)) hI
    refine wpAny_pure ⟨es[pl[i]].2, rfl, wpAny_pure (hQ _ _ s.toks ?_ ⟨⟨o, ?_, hd⟩, h1, ?_⟩ fun b o hb e => ?_)⟩
    · rw [List.getElem?_eq_getElem hil]; simp [e2]
    · rw [Heap.get?_update_other _ _ (Ne.symm hne)]; exact ho
    · rw [Heap.get?_update_other _ _ (Ne.symm hTI)]; exact hTu
    · have hb' : I ≠ b := fun q => hb (by simp [q])
      rw [Heap.get?_update_other _ _ hb']; exact e
  done := fun s Q E ⟨⟨o, ho, hd⟩, hI, hTu⟩ hQ => by
    have hT : s.TypeIs (.ref I) "set_iterator" := ⟨_, hI, rfl⟩
    unfold pyNext
    refine wpAny_bind (wpAny_attempt (wpAny_callSpecial?_slot (name := Str.ofString "__next__") hT slot_si_next (wpAny_call_entry slot_si_next hT entry_si_next ?_ (args_si_next _))))
    show wpAny _ _ (fieldsOf (.ref I) >>= _) _ _ s
    refine wpAny_bind (wpAny_fieldsOf hI rfl ?_)
    show wpAny _ _ (setEntries a >>= _) _ _ s
    refine wpAny_bind (setEntries_at ho hd hf ?_)
    simp only [bne_self_eq_false, Bool.false_eq_true, if_false]
    show wpAny _ _ (seqItems? (.ref T) >>= _) _ _ s
    refine wpAny_bind (wpAny_seqItems (items := (pl.map fun i : Nat => rawInt i).toArray) hTu rfl ?_)
    have e1 : (pl.map fun i : Nat => rawInt (i : Int)).toArray[((es.size : Nat) : Int).toNat]? = none := by simp [hln]
    dsimp only
    rw [e1]
    refine wpAny_bind (wpAny_setField hI rfl (by simp) ?_)
    have h1 := sit_set 0 (rawInt 0) hI
    refine wpAny_bind (wpAny_setField (s := { s with heap := _ }) h1 rfl (by simp) ?_)
    refine stop_end (by exact hh) fun x h' k hTx => ?_
    refine wpAny_bind (wpAny_isInstance (T := "StopIteration") (b := true) hTx isSubtype_stop ?_)
    refine wpAny_pure (hQ h' s.toks fun b o hb e => k b o ?_)
    have hb' : I ≠ b := fun q => hb (by simp [q])
    rw [Heap.get?_update_other _ _ hb', Heap.get?_update_other _ _ hb']; exact e
  self := fun i s Q E ⟨_, hI, _⟩ hQ => by
    have hT : s.TypeIs (.ref I) "set_iterator" := ⟨_, hI, rfl⟩
    refine wpAny_pyIter_slot hT slot_si_iter (wpAny_call_entry slot_si_iter hT entry_si_iter ?_ (args_si_iter _))
    show wpAny _ _ (ret (.ref I)) _ _ s
    exact wpAny_pure ⟨_, rfl, "set_iterator", _, hT, slot_si_next.lookup, hQ⟩
/-- an iterator over a set stands: a source of ints in some order -/
noncomputable def SetSrc (prog : Program) (w : World) (A : Around) (h₀ : Heap) (a : Addr) (xs : List Int) (I : Addr) (h : Heap) : Prop :=
  ∃ (fp : List Addr) (n : Nat) (P : Nat → Value → Prop) (St' : Nat → Heap → Prop) (vs : List Value) (ys : List Int), Walks prog w A I fp [I] n P St' ∧ St' 0 h ∧ (∀ i v, P i v → vs[i]? = some v) ∧ vs.length = n ∧ IntsAre vs ys ∧ ys.Nodup ∧ (∀ k, k ∈ ys ↔ k ∈ xs) ∧ (∀ b ∈ fp, b = a ∨ h₀.objs.size ≤ b ∧ b < h.objs.size)
theorem iter_set {a : Addr} {o : Obj} {xs : List Int} {Q : Value → Shared → Prop} (hh : A.handled = none) (ho : s.heap.get? a = some o) (hS : SetAtI prog w o xs) (hz : ∀ n, sizeIs o n → n ≤ sizeLine)
    (h : ∀ I h' d, (∀ b o, s.heap.get? b = some o → h'.get? b = some o) → I < h'.objs.size → s.heap.objs.size ≤ I → (∀ A', A'.handled = none → SetSrc prog w A' s.heap a xs I h') → Q (.ref I) { s with heap := h', drawn := d }) :
    wpAny (model prog w) A (pyIter (.ref a)) Q E s := by
  obtain ⟨hex, es, ep, t, hd, SI⟩ := hS
  have hT : s.TypeIs (.ref a) "set" := ⟨o, ho, hex.1⟩
  have hf := SI.tok.fits
  obtain ⟨ys, hys, hnd, hmem⟩ := SI.ys
  have hes : es.size ≤ sizeLine := hz _ ⟨es, ep, t, hd, rfl⟩
  refine wpAny_pyIter_slot hT PySem.F.slot_set_iter (wpAny_call_entry PySem.F.slot_set_iter hT entry_set_iter ?_ (PySem.F.args_set_iter_1 _))
  show wpAny _ _ (Builtin.Frozenset.sizeOf a >>= _) _ _ s
  refine wpAny_bind ?_
  unfold Builtin.Frozenset.sizeOf
  refine wpAny_bind (setEntries_at ho hd hf (wpAny_pure ?_))
  show wpAny _ _ (setDrawn a >>= _) _ _ s
  refine wpAny_bind ?_
  unfold setDrawn
  refine wpAny_bind (wpAny_setState_of ho hd hf (wpAny_bind (byText_ask (wpAny_pure ?_))))
  have hlt : a < s.heap.objs.size := Heap.lt_size ho
  cases hdr : (!byText w && (!t.plain && decide (es.size > 1))) with
  | false =>
    -- the places are walked one by one
    refine wpAny_ite_split (fun hab => absurd hab (fun q => by have : (!byText w && (!t.plain && decide (es.size > 1))) = true := q; rw [hdr] at this; cases this)) (fun _ => ?_)
    refine wpAny_bind (wpAny_pure ?_)
    show wpAny _ _ (setEpoch a >>= _) _ _ s
    refine wpAny_bind (wpAny_bind (wpAny_setState_of ho hd hf (wpAny_pure ?_)))
    show wpAny _ _ (newObj (.type "set_iterator") (.fields #[rawInt 0, rawInt 0, .ref a, rawInt es.size, rawInt ep]) >>= _) _ _ s
    refine wpAny_bind (wpAny_newObj_type ?_)
    refine wpAny_pure ⟨_, rfl, "set_iterator", _, ⟨_, Heap.get?_push_size _ rfl, rfl⟩, slot_si_next.lookup, ?_⟩
    have hI : (s.heap.push (sitO (.int 0 0) 0 a es.size ep)).get? s.heap.objs.size = some (sitO (.int 0 0) 0 a es.size ep) := Heap.get?_push_size _ rfl
    refine h s.heap.objs.size (s.heap.push (sitO (.int 0 0) 0 a es.size ep)) s.drawn (fun b o e => Heap.get?_push_of_some _ e) (Heap.lt_size hI) (Nat.le_refl _) fun A' hh' => ?_
    have hne : a ≠ s.heap.objs.size := Nat.ne_of_lt hlt
    have fin : ∀ (vs : List Value) ys' (sl : Nat → Nat), StepOk prog w a es ep t vs sl → sl 0 = 0 → vs.length = es.size → IntsAre vs ys' → ys'.Perm ys → SetSrc prog w A' s.heap a xs s.heap.objs.size (s.heap.push (sitO (.int 0 0) 0 a es.size ep)) := fun vs ys' sl st h0 hl hi hp =>
      ⟨_, _, _, _, vs, ys', walks_si hh' hne hf hl st, ⟨⟨o, Heap.get?_push_of_some _ ho, hd⟩, by rw [h0]; exact hI⟩, (fun i v e => e), rfl, hi, hp.nodup_iff.mpr hnd, fun k => (hp.mem_iff).trans (hmem k), fun b hb => by
        simp only [List.mem_cons, List.not_mem_nil, or_false] at hb
        rcases hb with rfl | rfl
        · exact .inr ⟨Nat.le_refl _, Heap.lt_size hI⟩
        · exact .inl rfl⟩
    cases hb : byText w with
    | true =>
      have hp := pickOrder_perm (w.params.setOrder a ep) es
      obtain ⟨ys', i1, i2⟩ := intsAre_perm hp hys
      exact fin _ ys' _ (step_text hb hf) rfl (by rw [List.length_map, hp.length_eq, Array.length_toList]) i1 i2
    | false =>
      rw [hb] at hdr
      exact fin _ ys _ (step_plain hb SI.tok (by simpa using hdr)) rfl (by simp) hys (.refl _)
  | true =>
    refine wpAny_ite_split (fun _ => ?_) (fun hab => absurd (show (!byText w && (!t.plain && decide (es.size > 1))) = true from hdr) hab)
    refine wpAny_bind (wpAny_drawOrder es.size (List.range es.size) s (by simp) fun pl d hp => ?_)
    have hpl : ∀ j ∈ pl, j < es.size := fun j hj => List.mem_range.mp (hp.mem_iff.mp hj)
    have hln : pl.length = es.size := by rw [hp.length_eq, List.length_range]
    refine wpAny_bind ?_
    show wpAny _ _ (newObj (.type "tuple") (.seq (pl.map fun i : Nat => rawInt i).toArray)) _ _ _
    refine wpAny_newObj_type ?_ (by show (pl.map fun i : Nat => rawInt i).toArray.size ≤ _; simp; (first | lia | omega))
    have hTu : (s.heap.push (plO pl 0)).get? s.heap.objs.size = some (plO pl 0) := Heap.get?_push_size _ rfl
    have ho2 := Heap.get?_push_of_some (plO pl 0) ho
    show wpAny _ _ (setEpoch a >>= _) _ _ { s with heap := s.heap.push (plO pl 0), drawn := d }
    refine wpAny_bind (wpAny_bind (wpAny_setState_of ho2 hd hf (wpAny_pure ?_)))
    show wpAny _ _ (newObj (.type "set_iterator") (.fields #[.ref s.heap.objs.size, rawInt 0, .ref a, rawInt es.size, rawInt ep]) >>= _) _ _ { s with heap := s.heap.push (plO pl 0), drawn := d }
    refine wpAny_bind (wpAny_newObj_type ?_)
    refine wpAny_pure ⟨_, rfl, "set_iterator", _, ⟨_, Heap.get?_push_size _ rfl, rfl⟩, slot_si_next.lookup, ?_⟩
    have hI : ((s.heap.push (plO pl 0)).push (sitO (.ref s.heap.objs.size) 0 a es.size ep)).get? (s.heap.push (plO pl 0)).objs.size = some (sitO (.ref s.heap.objs.size) 0 a es.size ep) := Heap.get?_push_size _ rfl
    have hsz : (s.heap.push (plO pl 0)).objs.size = s.heap.objs.size + 1 := Heap.size_push ..
    refine h _ ((s.heap.push (plO pl 0)).push (sitO (.ref s.heap.objs.size) 0 a es.size ep)) d (fun b o e => Heap.get?_push_of_some _ (Heap.get?_push_of_some _ e)) (Heap.lt_size hI) (by rw [hsz]; (first | lia | omega)) fun A' hh' => ?_
    -- the values in the order drawn
    have ex : ∃ l : List (Int × Value), l.Perm es.toList ∧ l.length = es.size ∧ ∀ i : Nat, l[i]? = (pl[i]?).bind fun j => es[j]? := by
      refine ⟨pl.filterMap (es[·]?), ?_, ?_, ?_⟩
      · exact (hp.filterMap _).trans (by rw [filterMap_getElem?_range])
      · rw [List.length_filterMap_eq_countP, List.countP_eq_length.mpr (fun j hj => by simp [hpl j hj])]; exact hln
      · have go : ∀ (l : List Nat), (∀ j ∈ l, j < es.size) → ∀ i : Nat, (l.filterMap (es[·]?))[i]? = (l[i]?).bind fun j => es[j]? := by
          intro l
          induction l with
          | nil => intro _ i; simp
          | cons j r ih =>
            intro hl i
            have hj : es[j]? = some (es[j]'(hl j (.head _))) := Array.getElem?_eq_getElem (hl j (.head _))
            rw [List.filterMap_cons_some hj]
            cases i with
            | zero => simp
            | succ i => simpa using ih (fun j hj => hl j (.tail _ hj)) i
        exact go pl hpl
    obtain ⟨l, lp, ll, lg⟩ := ex
    obtain ⟨ys', i1, i2⟩ := intsAre_perm lp hys
    refine ⟨_, _, _, _, l.map (·.2), ys', walks_sd hh' (T := s.heap.objs.size) (c := 0) (Nat.ne_of_lt (by rw [hsz]; exact Nat.lt_succ_of_lt hlt)) (Nat.ne_of_lt (by rw [hsz]; exact Nat.lt_succ_self _)) hf hln hpl, ⟨⟨o, Heap.get?_push_of_some _ ho2, hd⟩, hI, Heap.get?_push_of_some _ hTu⟩, fun i v e => ?_, by rw [List.length_map, ll], i1, i2.nodup_iff.mpr hnd, fun k => i2.mem_iff.trans (hmem k), fun b hb => ?_⟩
    · rw [List.getElem?_map, lg]
      rw [← e]
      cases pl[i]? <;> rfl
    · simp only [List.mem_cons, List.not_mem_nil, or_false] at hb
      have hIlt := Heap.lt_size hI
      rcases hb with rfl | rfl | rfl
      · exact .inr ⟨by rw [hsz]; (first | lia | omega), hIlt⟩
      · exact .inl rfl
      · exact .inr ⟨Nat.le_refl _, by rw [hsz] at hIlt; exact Nat.lt_of_succ_lt hIlt⟩
end
section
variable {prog : Program} {w : World} {A : Around} {E : Value → Shared → Prop} {s : Shared}
theorem hint_set {r : Addr} {Q : Bool → Shared → Prop} (hT : s.TypeIs (.ref r) "set") (h : Q false s) : wpAny (model prog w) A (Builtin.List.listLengthHint (.ref r)) Q E s := by
  unfold Builtin.List.listLengthHint
  refine wpAny_bind (wpAny_specialOf hT PySem.F.slot_set_len.lookup ?_)
  generalize hid : ("set.__len__" : String) = id0
  wp_delta
  rw [show splitId id0 = some ("set", "__len__") from by subst hid; decide +kernel]
  subst hid
  refine wpAny_bind (wpAny_isInstance (T := "set") (b := true) hT (by rw [isSubtype_type]; kernel_rfl) ?_)
  refine wpAny_ite_split (fun hab => absurd hab (by decide)) (fun _ => ?_)
  refine wpAny_ite_split (fun _ => ?_) (fun hab => absurd (by decide +kernel) hab)
  exact wpAny_bind (wpAny_typeOf hT (wpAny_pure h))
theorem intsAre_ext : ∀ {vs us : List Value}, (∀ i : Nat, i < vs.length → vs[i]? = us[i]?) → vs.length = us.length → vs = us
  | vs, us, h, hl => List.ext_getElem? fun i => by
    rcases Nat.lt_or_ge i vs.length with q | q
    · exact h i q
    · rw [List.getElem?_eq_none q, List.getElem?_eq_none (by (first | lia | omega))]
theorem extend_set {R : Result → Shared → Prop} {a S : Addr} {o : Obj} {xs : List Int} (hh : A.handled = none) (ho : s.heap.get? a = some o) (hS : SetAtI prog w o xs) (hz : ∀ n, sizeIs o n → n < 5000) (hSa : S ≠ a) (res : Value)
    (hl : s.heap.get? S = some { cls := .type "list", data := .seq #[] 0 })
    (hR : ∀ h' tk d vs ys c, (∀ b o, b ≠ S → s.heap.get? b = some o → h'.get? b = some o) → h'.get? S = some (lobj vs c) → IntsAre vs ys → ys.Nodup → (∀ k, k ∈ ys ↔ k ∈ xs) → R (.ok (.ret res)) { s with heap := h', toks := tk, drawn := d }) :
    wpAny (model prog w) A.in1 (Builtin.List.listExtendWith (.ref S) (.ref a) res)
      (fun fin s' => match fin with | .done f => R (.ok f) s' | .again c' => c'.quiet = true ∧ codeAny (model prog w) A c' R s') (fun e s' => R (.error e) s') s := by
  have hT : s.TypeIs (.ref a) "set" := ⟨o, ho, hS.ex.1⟩
  unfold Builtin.List.listExtendWith
  refine wpAny_bind (wpAny_typeOf (T := "set") hT ?_)
  have h1 : Builtin.List.listSameRef (.ref S) (.ref a) = false := by simp [Builtin.List.listSameRef, hSa]
  have h2 : (Value.type "set" == Value.type "list") = false := by decide
  have h3 : (Value.type "set" == Value.type "tuple") = false := by decide
  simp only [h1, h2, h3, Bool.or_false, Bool.false_eq_true, if_false]
  refine wpAny_bind (iter_set hh ho hS (fun n hn => by have := hz n hn; rw [sizeLine_eq]; (first | lia | omega)) fun I h1 d k1 hI1 hI0 src => ?_)
  obtain ⟨fp, n, P, St', vs, ys, W, st, hP, hln, hi, hnd, hmem, hfp⟩ := src A.in1 hh
  have hn5 : n ≤ sizeLine := by
    obtain ⟨hex, es, ep, t, hd, SI⟩ := hS
    obtain ⟨ys2, y1, y2, y3⟩ := SI.ys
    have p : ys.Perm ys2 := (List.perm_ext_iff_of_nodup hnd y2).mpr fun k => (hmem k).trans (y3 k).symm
    have e1 := IntsAre.length hi
    have e2 := IntsAre.length y1
    have e3 := p.length_eq
    have e4 := hz _ ⟨es, ep, t, hd, rfl⟩
    simp only [List.length_map, Array.length_toList] at e2
    rw [sizeLine_eq]; (first | lia | omega)
  have hSlt : S < s.heap.objs.size := Heap.lt_size hl
  have hSf : S ∉ fp := fun q => (hfp S q).elim hSa fun ⟨x, _⟩ => absurd hSlt (Nat.not_lt.mpr x)
  have hl1 := k1 _ _ hl
  refine wpAny_bind (wpAny_holding (hint_set ⟨o, k1 _ _ ho, hS.ex.1⟩ ?_))
  have key : ∀ (h : Heap) (c₁ : Nat), St' 0 h → (∀ b o, b ≠ S → s.heap.get? b = some o → h.get? b = some o) → h.get? S = some { cls := .type "list", data := .seq #[] c₁ } →
      codeAny (model prog w) A (.builtin "list.extend.loop" ⟨[.ref S, .ref I, res], []⟩) R { s with heap := h, drawn := d } := by
    intro h c₁ hst hk hS₁
    refine codeAny_extend_loopS W.toS hn5 S hSf res n 0 _ #[] c₁ rfl (Nat.zero_le _) hst hS₁ (ItemsOf.nil _) fun s' acc' c' hm hS' hacc => ?_
    have e : acc'.toList = vs := by
      refine intsAre_ext (fun i hi => ?_) (by rw [Array.length_toList, hacc.1, hln])
      rw [Array.length_toList] at hi
      have hx : acc'[i]? = some acc'[i] := Array.getElem?_eq_getElem hi
      rw [hP i _ (hacc.2 i _ hx), Array.getElem?_toList, hx]
    have e2 := Moved.eq_with hm
    rw [e2]
    refine hR s'.heap s'.toks d vs ys c' (fun b o hb e => ?_) (by rw [hS']; rw [← e]; rfl) hi hnd hmem
    refine hm.heap b o (fun hmem => ?_) (hk b o hb e)
    rcases List.mem_cons.mp hmem with e' | hmem
    · exact hb e'
    · rw [List.mem_singleton] at hmem; exact absurd (Heap.lt_size e) (by rw [hmem]; exact Nat.not_lt.mpr hI0)
  refine wpAny_ite_split (fun _ => ?_) (fun _ => wpAny_pure ⟨plainId_quiet PySem.F.plain_extend_loop _, key _ 0 st (fun b o _ e => k1 b o e) hl1⟩)
  refine wpAny_bind (wpAny_rule ?_)
  refine wpAny_bind ?_
  show wpAny _ _ (updateSeq S (·.push .none) >>= fun _ => updateSeq S (·.pop)) _ _ _
  refine wpAny_bind (wpAny_updateSeq hl1 rfl ?_)
  have hS₂ := Heap.get?_update_self (Obj.mapSeq (·.push Value.none)) hl1 rfl
  refine wpAny_updateSeq (hz := by seq_fits) hS₂ rfl ?_
  have hS₃ := Heap.get?_update_self (Obj.mapSeq (·.pop)) hS₂ rfl
  refine wpAny_pure ⟨plainId_quiet PySem.F.plain_extend_loop _, key _ _ ?_ (fun b o hb e => ?_) hS₃⟩
  · refine W.frame 0 _ _ st fun b hb o e => ?_
    have hbS : S ≠ b := fun q => hSf (q ▸ hb)
    rw [Heap.get?_update_other _ _ hbS, Heap.get?_update_other _ _ hbS]; exact e
  · rw [Heap.get?_update_other _ _ (Ne.symm hb), Heap.get?_update_other _ _ (Ne.symm hb)]; exact k1 _ _ e
theorem collect_set {a : Addr} {o : Obj} {xs : List Int} {Q : List Value → Shared → Prop} (hh : A.handled = none) (ho : s.heap.get? a = some o) (hS : SetAtI prog w o xs) (hz : ∀ n, sizeIs o n → n < 5000)
    (h : ∀ h' tk d vs ys, (∀ b o, s.heap.get? b = some o → h'.get? b = some o) → IntsAre vs ys → ys.Nodup → (∀ k, k ∈ ys ↔ k ∈ xs) → Q vs { s with heap := h', toks := tk, drawn := d }) :
    wpAny (model prog w) A (collect (.ref a)) Q E s := by
  have hlt : a < s.heap.objs.size := Heap.lt_size ho
  unfold collect
  refine wpAny_bind (wpAny_runValue (codeAny_builtin entry_proto_collect' ?_))
  rw [Around.under_plainId PySem.F.plain_proto_collect _]
  show wpAny _ A.in1 (newList [] >>= fun l => again (.builtin "list.__iadd__" ⟨[l, .ref a], []⟩)) _ _ s
  refine wpAny_bind (wpAny_newObj_type ?_)
  refine wpAny_pure ⟨plainId_quiet PySem.F.plain_list_iadd _, codeAny_builtin entry_list_iadd' ?_⟩
  rw [Around.under_plainId PySem.F.plain_list_iadd _]
  show wpAny _ A.in1 (Builtin.List.listExtendWith (.ref s.heap.objs.size) (.ref a) (.ref s.heap.objs.size)) _ _ _
  have key := extend_set (A := A) (s := { s with heap := s.heap.push { cls := .type "list", data := .seq ([] : List Value).toArray } })
    (R := fun (q : Result) (s' : Shared) => ∃ h' tk d vs ys c, q = .ok (.ret (.ref s.heap.objs.size)) ∧ s' = { s with heap := h', toks := tk, drawn := d } ∧ (∀ b o, s.heap.get? b = some o → h'.get? b = some o) ∧
      h'.get? s.heap.objs.size = some (lobj vs c) ∧ IntsAre vs ys ∧ ys.Nodup ∧ (∀ k, k ∈ ys ↔ k ∈ xs))
    hh (Heap.get?_push_of_some _ ho) hS hz (Nat.ne_of_gt hlt) (.ref s.heap.objs.size) (Heap.get?_push_size _ rfl)
    (fun h' tk d vs ys c hk hS' hi hnd hmem => ⟨h', tk, d, vs, ys, c, rfl, rfl, fun b o e => hk b o (Nat.ne_of_lt (Heap.lt_size e)) (Heap.get?_push_of_some _ e), hS', hi, hnd, hmem⟩)
  refine wpAny_mono key (fun fin s' x => ?_) fun e s' x => ?_
  · cases fin with
    | done f =>
      obtain ⟨h', tk, d, vs, ys, c, e, rfl, hk, hS', hi, hnd, hmem⟩ := x
      cases e
      show wpAny _ A (load s.heap.objs.size >>= _) _ _ _
      refine wpAny_bind (wpAny_load hS' ?_)
      exact wpAny_pure (h h' tk d _ ys hk (by simpa using hi) hnd hmem)
    | again c₁ =>
      refine ⟨x.1, codeAny_mono x.2 fun q s₂ y => ?_⟩
      obtain ⟨h', tk, d, vs, ys, c, rfl, rfl, hk, hS', hi, hnd, hmem⟩ := y
      show wpAny _ A (load s.heap.objs.size >>= _) _ _ _
      refine wpAny_bind (wpAny_load hS' ?_)
      exact wpAny_pure (h h' tk d _ ys hk (by simpa using hi) hnd hmem)
  · obtain ⟨_, _, _, _, _, _, e', _⟩ := x
    cases e'
/-- sorted: a list in order, once what is walked is collected -/
theorem sorted_of {v : Value} {Q : Value → Shared → Prop}
    (hc : ∀ (A' : Around), A'.handled = A.handled → ∀ (Q' : List Value → Shared → Prop), (∀ h' tk d vs ys, (∀ b o, s.heap.get? b = some o → h'.get? b = some o) → IntsAre vs ys → vs.length < 64 →
        (∀ D h'' vs' zs c, (∀ b o, s.heap.get? b = some o → h''.get? b = some o) → s.heap.get? D = none → h''.get? D = some (lobj vs' c) → IntsAre vs' zs → zs.Perm ys → zs.Pairwise (· ≤ ·) → Q (.ref D) { s with heap := h'', toks := tk, drawn := d }) →
        Q' vs { s with heap := h', toks := tk, drawn := d }) → wpAny (model prog w) A' (collect v) Q' E s) :
    wpAny (model prog w) A (call (.builtin "sorted") [v]) Q E s := by
  refine Calls.call_function_entry kind_sorted plain_sorted entry_sorted (args_sorted1 _) ?_
  unfold Builtin.«sorted»
  refine wpAny_bind (m := checkCount "sorted" 1 1 _) (wpAny_pure ?_)
  refine wpAny_bind (hc A.in1 rfl _ fun h' tk d vs ys k hi h64 fin => ?_)
  refine wpAny_bind (wpAny_newList ?_ (by rw [sizeLine_eq]; (first | lia | omega)))
  have hoL : (h'.push (seqObj "list" vs.toArray 0)).get? h'.objs.size = some (seqObj "list" vs.toArray 0) := Heap.get?_push_size _ rfl
  refine wpAny_bind (wpAny_holding (wpAny_call_entry slot_list_sort ⟨_, hoL, rfl⟩ entry_list_sort (list_sort_tree hoL hi h64 fun out ns' a1 a2 a3 => ⟨_, rfl, ?_⟩) (args_list_sort _)))
  obtain ⟨e, he⟩ := sortedHeap_at (h := h'.push (seqObj "list" vs.toArray 0)) (out := out) hoL
  refine wpAny_pure ⟨_, rfl, fin h'.objs.size _ out.toList ns' e (fun b o q => ?_) ?_ (by rw [he]; simp [lobj]) a1 a2 a3⟩
  · have hb := Heap.lt_size (k b o q)
    have e1 : (sortedHeap (h'.push (seqObj "list" vs.toArray 0)) h'.objs.size vs out).get? b = (h'.push (seqObj "list" vs.toArray 0)).get? b := sortedHeap_old (Nat.ne_of_lt hb) (by rw [size_push']; exact Nat.lt_succ_of_lt hb)
    show (sortedHeap (h'.push (seqObj "list" vs.toArray 0)) h'.objs.size vs out).get? b = some o
    rw [e1]
    exact Heap.get?_push_of_some _ (k b o q)
  · cases q : s.heap.get? h'.objs.size with
    | none => rfl
    | some o' => exact absurd (Heap.lt_size (k _ _ q)) (Nat.lt_irrefl _)
theorem sorted_set {a : Addr} {o : Obj} {xs : List Int} {Q : Value → Shared → Prop} (hh : A.handled = none) (ho : s.heap.get? a = some o) (hS : SetAtI prog w o xs) (hz : ∀ n, sizeIs o n → n < 64)
    (h : ∀ D h' tk d vs zs c, (∀ b o, s.heap.get? b = some o → h'.get? b = some o) → s.heap.get? D = none → h'.get? D = some (lobj vs c) → IntsAre vs zs → zs.Pairwise (· < ·) → (∀ k, k ∈ zs ↔ k ∈ xs) → Q (.ref D) { s with heap := h', toks := tk, drawn := d }) :
    wpAny (model prog w) A (call (.builtin "sorted") [.ref a]) Q E s := by
  refine sorted_of fun A' hA Q' fin => collect_set (hA.trans hh) ho hS (fun n hn => by have := hz n hn; (first | lia | omega)) fun h' tk d vs ys k hi hnd hmem => fin h' tk d vs ys k hi ?_ fun D h'' vs' zs c k2 hD hD2 hi2 hp hs => ?_
  · obtain ⟨hex, es, ep, t, hd, SI⟩ := hS
    obtain ⟨ys2, y1, y2, y3⟩ := SI.ys
    have p : ys.Perm ys2 := (List.perm_ext_iff_of_nodup hnd y2).mpr fun k => (hmem k).trans (y3 k).symm
    have e1 := IntsAre.length hi
    have e2 := IntsAre.length y1
    have e3 := p.length_eq
    have e4 := hz _ ⟨es, ep, t, hd, rfl⟩
    simp only [List.length_map, Array.length_toList] at e2
    (first | lia | omega)
  · refine h D h'' tk d vs' zs c k2 hD hD2 hi2 ?_ fun k => (hp.mem_iff).trans (hmem k)
    exact hs.imp₂ (fun a b h1 h2 => by (first | lia | omega)) (hp.nodup_iff.mpr hnd)
end
section
variable {prog : Program} {w : World} {A : Around} {E : Value → Shared → Prop} {s : Shared}
theorem SetAtI.setOf {h : Heap} {a : Addr} {o : Obj} {xs : List Int} {n : Nat} (hS : SetAtI prog w o xs) (ho : h.get? a = some o) (hn : sizeIs o n) (hb : n < scanBound) : h.SetOf (intKind prog w) a (fun k => decide (k ∈ xs)) n := by
  obtain ⟨hex, es, ep, t, hd, I⟩ := hS
  obtain ⟨es0, ep0, t0, hd0, rfl⟩ := hn
  rw [hd] at hd0; cases hd0
  refine ⟨o, es, ep, t, ho, hex, hd, I.el, fun k => ?_, hb, I.tok.fits, rfl⟩
  rw [decide_eq_true_eq, ← I.find k, List.findIdx?_isSome, List.any_eq_true]
theorem entry_set_and : entryFor table "set.__and__" = some Builtin.«frozenset.__and__» :=
  entryFor_alias (id' := "frozenset.__and__") (by kernel_rfl) rfl (by decide +kernel) (by kernel_rfl)
/-- the elements of a set in some order, looked at alone -/
noncomputable def Elms (prog : Program) (w : World) (l : List (Int × Value)) (xs : List Int) : Prop :=
  (∀ e ∈ l, ∃ k t, e.2 = .int k t ∧ e.1 = (intKind prog w).hash k ∧ k ∈ xs) ∧ ∀ k, k ∈ xs → ∃ e ∈ l, ∃ t, e.2 = .int k t
theorem elms_of {es : Array (Int × Value)} {t : SetTable} {xs : List Int} (I : SetIn prog w es t xs) {l : List (Int × Value)} (p : l.Perm es.toList) : Elms prog w l xs := by
  obtain ⟨ys, h1, h2, h3⟩ := I.ys
  have go : ∀ (l : List (Int × Value)) (ys : List Int), IntsAre (l.map (·.2)) ys → (∀ e ∈ l, ∃ k t, e.2 = .int k t ∧ k ∈ ys) ∧ ∀ k, k ∈ ys → ∃ e ∈ l, ∃ t, e.2 = .int k t := by
    intro l
    induction l with
    | nil => intro ys h; cases h; exact ⟨fun e h => (nomatch h), fun k h => (nomatch h)⟩
    | cons e r ih =>
      intro ys h
      rw [List.map_cons] at h
      generalize hx : e.2 = v at h
      cases h with
      | cons n t h =>
        obtain ⟨a, b⟩ := ih _ h
        refine ⟨fun e' he => ?_, fun k hk => ?_⟩
        · rcases List.mem_cons.mp he with rfl | he
          · exact ⟨n, t, hx, .head _⟩
          · obtain ⟨k, t', x, y⟩ := a e' he; exact ⟨k, t', x, .tail _ y⟩
        · rcases List.mem_cons.mp hk with rfl | hk
          · exact ⟨e, .head _, t, hx⟩
          · obtain ⟨e', he, x⟩ := b k hk; exact ⟨e', .tail _ he, x⟩
  obtain ⟨a, b⟩ := go _ _ h1
  refine ⟨fun e he => ?_, fun k hk => ?_⟩
  · obtain ⟨k, t', x, y⟩ := a e (p.mem_iff.mp he)
    obtain ⟨⟨k', hk', hh⟩, _⟩ := I.el e (p.mem_iff.mp he)
    rw [x] at hk'
    have : k = k' := by have : (k == k') = true := hk'; exact beq_iff_eq.mp this
    subst this
    exact ⟨k, t', x, hh, (h3 k).mp y⟩
  · obtain ⟨e, he, x⟩ := b k ((h3 k).mpr hk)
    exact ⟨e, p.mem_iff.mpr he, x⟩
theorem quiet_sets {l : List Addr} {Q : Bool → Shared → Prop} (hl : ∀ a ∈ l, ∃ o xs, s.heap.get? a = some o ∧ SetAtI prog w o xs) (h : Q true s) : wpAny (model prog w) A (setsQuiet l) Q E s := by
  unfold setsQuiet
  refine wpAny_bind (wpAny_forIn_list _ (fun rest b s' => b = (none, ()) ∧ s' = s ∧ ∀ a ∈ rest, ∃ o xs, s.heap.get? a = some o ∧ SetAtI prog w o xs) _ (fun a rest b s' ⟨hb, hs, hr⟩ => ?_) (fun b s' ⟨hb, hs, _⟩ => ?_) l _ ⟨rfl, rfl, hl⟩)
  · subst hb hs
    obtain ⟨o, xs, ho, hex, es, ep, t, hd, I⟩ := hr a (.head _)
    obtain ⟨hall, _⟩ := elms_of I (.refl _)
    refine wpAny_bind (setEntries_at ho hd I.tok.fits ?_)
    refine wpAny_bind (wpAny_forIn_array' _ (fun (rest : List (Int × Value)) b s'' => b = (none, ()) ∧ s'' = s' ∧ ∀ e ∈ rest, ∃ k t, e.2 = .int k t) _ (fun e rest2 b s'' ⟨hb, hs, hr2⟩ => ?_) (fun b s'' ⟨hb, hs, _⟩ => ?_) es _ ⟨rfl, rfl, fun e he => let ⟨k, t, x, _⟩ := hall e he; ⟨k, t, x⟩⟩)
    · subst hb hs
      obtain ⟨k, t, x⟩ := hr2 e (.head _)
      obtain ⟨hh, v⟩ := e
      dsimp only at x
      subst x
      exact wpAny_pure ⟨rfl, rfl, fun e he => hr2 e (.tail _ he)⟩
    · subst hb hs
      exact wpAny_pure ⟨rfl, rfl, fun a ha => hr a (.tail _ ha)⟩
  · subst hb hs
    exact wpAny_pure h
/-- the walk of a set that nobody sees: some order of it; the set that is filled is laid anew at most -/
theorem walk_unseen {a b r : Addr} {o ob orr : Obj} {xs xb xr : List Int} {nr : Nat} {Q : Array (Int × Value) → Shared → Prop} (ho : s.heap.get? a = some o) (hS : SetAtI prog w o xs) (hob : s.heap.get? b = some ob) (hSb : SetAtI prog w ob xb)
    (hor : s.heap.get? r = some orr) (hSr : SetAtI prog w orr xr) (hnr : sizeIs orr nr) (hnb : nr < scanBound) (hra : r ≠ a) (hrb : r ≠ b)
    (h : ∀ l h' or', (∀ n, sizeIs o n → l.size = n) → Elms prog w l.toList xs → Heap.SameBut r s.heap h' → h'.get? r = some or' → SetAtI prog w or' xr → sizeIs or' nr → Q l { s with heap := h' }) :
    wpAny (model prog w) A (setWalkUnseen a [b, r] (some r)) Q E s := by
  obtain ⟨hex, es, ep, t, hd, I⟩ := id hS
  have sz : ∀ l : Array (Int × Value), l.toList.Perm es.toList → ∀ n, sizeIs o n → l.size = n := fun l hp n ⟨e1, e2, e3, e4, e5⟩ => by
    rw [hd] at e4; cases e4
    rw [← e5, ← Array.length_toList, hp.length_eq, Array.length_toList]
  have same : ∀ l : Array (Int × Value), l.toList.Perm es.toList → Q l s := fun l hp => h l s.heap orr (sz l hp) (elms_of I hp) (Heap.SameBut.refl r s.heap) hor hSr hnr
  unfold setWalkUnseen
  refine wpAny_bind (wpAny_setState_of ho hd I.tok.fits (wpAny_bind (byText_ask ?_)))
  dsimp only
  cases hb : byText w with
  | true =>
    simp only [Bool.true_or, if_true]
    exact setWalk_text hb ho hd I.tok.fits (same _ (pickOrder_perm _ _))
  | false =>
    simp only [Bool.false_or]
    have hled : t.led = true := by rw [I.tok.led, hb]; rfl
    split
    · rename_i hc
      unfold setWalk
      refine wpAny_bind (wpAny_setState_of ho hd I.tok.fits (wpAny_bind (byText_ask ?_)))
      rw [hb]
      simp only [Bool.false_eq_true, if_false]
      have hneg : ¬ ((!t.plain && decide (es.size > 1)) = true) := by
        simp only [Bool.or_eq_true, Bool.and_eq_true, decide_eq_true_eq] at hc
        rcases hc with ⟨_, hc⟩ | hc
        · rw [hc]; simp
        · simp; (first | lia | omega)
      refine wpAny_ite_split (fun hab => absurd hab hneg) (fun _ => ?_)
      refine wpAny_bind (wpAny_of_eq (a := ()) ?_ (wpAny_pure (same _ (.refl _))))
      show (if (!t.led && decide (es.size > 1)) = true then unsupported _ else pure ()) = pure ()
      rw [hled]; rfl
    · refine wpAny_bind (quiet_sets (fun x hx => ?_) ?_)
      · simp only [List.mem_cons, List.not_mem_nil, or_false] at hx
        rcases hx with rfl | rfl | rfl
        · exact ⟨_, _, ho, hS⟩
        · exact ⟨_, _, hob, hSb⟩
        · exact ⟨_, _, hor, hSr⟩
      · simp only [Bool.not_true, Bool.false_eq_true, if_false]
        refine wpAny_bind (wpAny_rule ?_)
        obtain ⟨hexr, er, epr, tr, hdr, Ir⟩ := id hSr
        obtain ⟨e0, ep0, t0, hd0, hsz⟩ := hnr
        rw [hdr] at hd0; cases hd0
        refine wpAny_bind (wpAny_setState_of hor hdr Ir.tok.fits ?_)
        dsimp only
        split
        · refine wpAny_bind (wpAny_storeSet_of hor hdr ?_ (fits_of_scanBound (by (first | lia | omega))))
          obtain ⟨o', ho', hex', hd'⟩ := setIn_at (h' := s.heap) (es' := er) (t' := { tr with led := tr.led && t.led, plain := tr.plain && t.plain }) hor hexr hdr
          refine wpAny_pure (h es _ o' (sz es (.refl _)) (elms_of I (.refl _)) (Heap.SameBut.update s.heap r _) ho' ⟨hex', _, _, _, hd', ⟨Ir.el, Ir.ys, ⟨?_, Ir.tok.rise, Ir.tok.dum, ?_⟩⟩⟩ ⟨_, _, _, hd', hsz⟩)
          · have := Ir.tok.fits
            unfold SetTable.fits SetTable.fill at this ⊢; exact this
          · show (tr.led && t.led) = _
            rw [Ir.tok.led, hled, Bool.and_true]
        · exact wpAny_pure (same _ (.refl _))
end
section
variable {prog : Program} {w : World} {A : Around} {E : Value → Shared → Prop} {s : Shared}
theorem newSet_at {Q : Value → Shared → Prop} (h : Q (.ref s.heap.objs.size) { s with heap := s.heap.push { cls := .type "set", dict := none, data := .set #[] 0 (.fresh 0 0 (!byText w)) } }) : wpAny (model prog w) A (newSet (.type "set")) Q E s := by
  unfold newSet
  refine wpAny_bind (byText_ask ?_)
  dsimp only
  exact wpAny_newObj_type h
theorem isSet_at {a : Addr} {Q : Bool → Shared → Prop} (hT : s.TypeIs (.ref a) "set") (h : Q true s) : wpAny (model prog w) A (Builtin.Frozenset.isAnySet (.ref a)) Q E s := by
  unfold Builtin.Frozenset.isAnySet
  refine wpAny_bind (wpAny_isInstance hT PySem.sub_set_self ?_)
  first | exact wpAny_pure h | exact wpAny_bind (wpAny_pure h)
theorem baseOf_at {a : Addr} {Q : Value → Shared → Prop} (hT : s.TypeIs (.ref a) "set") (h : Q (.type "set") s) : wpAny (model prog w) A (Builtin.Frozenset.baseOf a) Q E s := by
  unfold Builtin.Frozenset.baseOf
  refine wpAny_bind (wpAny_isInstance hT PySem.sub_set_self ?_)
  exact wpAny_pure h
theorem sizeOf_at {a : Addr} {o : Obj} {es : Array (Int × Value)} {ep : Nat} {t : SetTable} {Q : Nat → Shared → Prop} (ho : s.heap.get? a = some o) (hd : o.data = .set es ep t) (hf : t.fits es.size = true) (h : Q es.size s) : wpAny (model prog w) A (Builtin.Frozenset.sizeOf a) Q E s := by
  unfold Builtin.Frozenset.sizeOf
  exact wpAny_bind (setEntries_at ho hd hf (wpAny_pure h))
/-- what is in both -/
theorem both {a b : Addr} {oa ob : Obj} {xa xb : List Int} {na nb : Nat} {Q : Value → Shared → Prop} {ids : String} (hne : b ≠ a) (hoa : s.heap.get? a = some oa) (hSa : SetAtI prog w oa xa) (hna : sizeIs oa na) (hob : s.heap.get? b = some ob) (hSb : SetAtI prog w ob xb) (hnb : sizeIs ob nb)
    (ha : na < 2000) (hb : nb < 2000)
    (h : ∀ R h' o zs n, (∀ b o, s.heap.get? b = some o → h'.get? b = some o) → s.heap.get? R = none → h'.get? R = some o → SetAtI prog w o zs → (∀ k, k ∈ zs ↔ k ∈ xa ∧ k ∈ xb) → sizeIs o n → n < 3000 → Q (.ref R) { s with heap := h' }) :
    wpAny (model prog w) A (Builtin.Frozenset.intersection ids a (.ref b)) Q E s := by
  obtain ⟨hexa, ea, epa, ta, hda, Ia⟩ := id hSa
  obtain ⟨hexb, eb, epb, tb, hdb, Ib⟩ := id hSb
  obtain ⟨e0, ep0, t0, hd0, hsa⟩ := id hna
  rw [hda] at hd0; cases hd0
  obtain ⟨e0, ep0, t0, hd0, hsb⟩ := id hnb
  rw [hdb] at hd0; cases hd0
  have hTa : s.TypeIs (.ref a) "set" := ⟨oa, hoa, hexa.1⟩
  have hbeq : ((Value.ref b) == (Value.ref a)) = false := by
    simpa using hne
  unfold Builtin.Frozenset.intersection
  rw [hbeq]
  simp only [Bool.false_eq_true, if_false]
  refine wpAny_bind (baseOf_at hTa (wpAny_bind (newSet_at ?_)))
  have hfr : s.heap.get? s.heap.objs.size = none := fresh_none (Nat.le_refl _)
  have hR : (s.heap.push { cls := .type "set", dict := none, data := .set #[] 0 (.fresh 0 0 (!byText w)) }).get? s.heap.objs.size = some { cls := .type "set", dict := none, data := .set #[] 0 (.fresh 0 0 (!byText w)) } := Heap.get?_push_size _ rfl
  generalize hoR : ({ cls := .type "set", dict := none, data := .set #[] 0 (.fresh 0 0 (!byText w)) } : Obj) = oR at hR ⊢
  have hSR : SetAtI prog w oR [] := hoR ▸ setAtI_new _ rfl
  have hnR : sizeIs oR 0 := hoR ▸ ⟨_, _, _, rfl, rfl⟩
  show wpAny _ _ (pure s.heap.objs.size >>= _) _ _ _
  refine wpAny_bind (wpAny_pure (wpAny_bind (wpAny_holding ?_)))
  have hoa1 := Heap.get?_push_of_some oR hoa
  have hob1 := Heap.get?_push_of_some oR hob
  refine wpAny_bind (isSet_at ⟨ob, hob1, hexb.1⟩ ?_)
  simp only [if_true]
  show wpAny _ _ (pure b >>= _) _ _ _
  refine wpAny_bind (wpAny_pure (wpAny_bind (sizeOf_at hob1 hdb Ib.tok.fits (wpAny_bind (sizeOf_at hoa1 hda Ia.tok.fits ?_)))))
  -- one is walked, the other asked
  have go : ∀ (x y : Addr) (ox oy : Obj) (xx xy : List Int) (nx ny : Nat), (s.heap.push oR).get? x = some ox → SetAtI prog w ox xx → sizeIs ox nx → (s.heap.push oR).get? y = some oy → SetAtI prog w oy xy → sizeIs oy ny → nx < 2000 → ny < 2000 → s.heap.objs.size ≠ x → s.heap.objs.size ≠ y →
      (∀ k, (k ∈ xx ∧ k ∈ xy) ↔ k ∈ xa ∧ k ∈ xb) →
      wpAny (model prog w) A (do
        let was ← setEpoch x
        for (h, v) in ← setWalkUnseen x [y, s.heap.objs.size] (some s.heap.objs.size) do
          holding [v] do
            if (← setFind y v h).isSome then
              let _ ← setAddHashed s.heap.objs.size v h
          Builtin.Frozenset.unchanged ids x was) (fun _ s' => wpAny (model prog w) A (pure (Value.ref s.heap.objs.size)) Q E s') E { s with heap := s.heap.push oR } := by
    intro x y ox oy xx xy nx ny hx hSx hnx hy hSy hny hlx hly hrx hry hxy
    obtain ⟨hex, ex, epx, tx, hdx, Ix⟩ := id hSx
    refine wpAny_bind (wpAny_bind (wpAny_setState_of hx hdx Ix.tok.fits (wpAny_pure ?_)))
    refine wpAny_bind (walk_unseen (s := { s with heap := s.heap.push oR }) hx hSx hy hSy hR hSR hnR (by unfold scanBound; (first | lia | omega)) hrx hry fun l h1 o1 hls hel sb1 ho1 hS1 hn1 => ?_)
    obtain ⟨el1, el2⟩ := hel
    have hll : l.toList.length = nx := by rw [Array.length_toList]; exact hls _ hnx
    refine wpAny_bind (wpAny_forIn_array' _ (fun rest _ s' => ∃ h' o' done zs n, l.toList = done ++ rest ∧ s' = { s with heap := h' } ∧ Heap.SameBut s.heap.objs.size (s.heap.push oR) h' ∧ h'.get? s.heap.objs.size = some o' ∧ SetAtI prog w o' zs ∧ sizeIs o' n ∧ n ≤ done.length ∧
        (∀ k, k ∈ zs ↔ k ∈ xy ∧ ∃ e ∈ done, ∃ t, e.2 = .int k t)) _ ?_ ?_ l _ ⟨h1, o1, [], [], 0, rfl, rfl, sb1, ho1, hS1, hn1, Nat.le_refl _, fun k => by simp⟩)
    · rintro e rest _ s' ⟨h', o', done, zs, n, hl, rfl, sb, ho', hS', hn', hnd, hz⟩
      have hd1 : done.length < 2000 := by rw [hl, List.length_append, List.length_cons] at hll; (first | lia | omega)
      obtain ⟨k, t, e1, e2, hk⟩ := el1 e (by rw [hl]; simp)
      obtain ⟨hs', v⟩ := e
      dsimp only at e1 e2
      subst e1 e2
      have hy' : h'.get? y = some oy := (sb.2 y (Ne.symm hry)).trans hy
      have hx' : h'.get? x = some ox := (sb.2 x (Ne.symm hrx)).trans hx
      dsimp only
      refine wpAny_bind (wpAny_holding (wpAny_bind (wpAny_setFind_of (knd := intKind prog w) (intKind_is _ _ k t) rfl (hSy.setOf hy' hny (by unfold scanBound; (first | lia | omega))) fun rr hrr => ?_)))
      have unch : ∀ s2 : Shared, s2.heap.get? x = some ox → ∀ {Q' : Unit → Shared → Prop}, Q' () s2 → wpAny (model prog w) A (Builtin.Frozenset.unchanged ids x epx) Q' E s2 := fun s2 hx2 Q' hq => by
        unfold Builtin.Frozenset.unchanged setEpoch
        refine wpAny_bind (wpAny_bind (wpAny_setState_of hx2 hdx Ix.tok.fits (wpAny_pure ?_)))
        simp only [bne_self_eq_false, Bool.false_eq_true, if_false]
        exact wpAny_pure hq
      rw [hrr]
      have hl2 : l.toList = (done ++ [((intKind prog w).hash k, Value.int k t)]) ++ rest := by rw [hl]; simp
      by_cases hky : k ∈ xy
      · simp only [hky, decide_true, if_true]
        refine wpAny_bind (set_add (s := { s with heap := h' }) ho' hS' hn' (by unfold scanBound; (first | lia | omega)) fun bb h2 o2 n2 sb2 ho2 hS2 hn2 hle => ?_)
        refine wpAny_pure (wpAny_bind (unch _ ((sb2.2 x (Ne.symm hrx)).trans hx') (wpAny_pure ⟨h2, o2, _, zs ++ [k], n2, hl2, rfl, sb.trans sb2, ho2, hS2, hn2, by simp; (first | lia | omega), fun k' => ?_⟩)))
        rw [List.mem_append, List.mem_singleton, hz]
        constructor
        · rintro (⟨q1, e, he, q2⟩ | rfl)
          · exact ⟨q1, e, List.mem_append_left _ he, q2⟩
          · exact ⟨hky, _, List.mem_append_right _ (.head _), t, rfl⟩
        · rintro ⟨q1, e, he, t', q2⟩
          rcases List.mem_append.mp he with he | he
          · exact .inl ⟨q1, e, he, t', q2⟩
          · rw [List.mem_singleton] at he; subst he; cases q2; exact .inr rfl
      · simp only [hky, decide_false, Bool.false_eq_true, if_false]
        refine wpAny_pure (wpAny_bind (unch _ hx' (wpAny_pure ⟨h', o', _, zs, n, hl2, rfl, sb, ho', hS', hn', by simp; (first | lia | omega), fun k' => ?_⟩)))
        rw [hz]
        refine and_congr_right fun q1 => ⟨fun ⟨e, he, q2⟩ => ⟨e, List.mem_append_left _ he, q2⟩, fun ⟨e, he, t', q2⟩ => ?_⟩
        rcases List.mem_append.mp he with he | he
        · exact ⟨e, he, t', q2⟩
        · rw [List.mem_singleton] at he; subst he; cases q2; exact absurd q1 hky
    · rintro _ s' ⟨h', o', done, zs, n, hl, rfl, sb, ho', hS', hn', hnd, hz⟩
      rw [List.append_nil] at hl
      subst hl
      refine wpAny_pure (wpAny_pure (h _ _ o' zs n (fun b o e => ?_) hfr ho' hS' (fun k => ?_) hn' (by rw [hll] at hnd; (first | lia | omega))))
      · rw [sb.2 b (Nat.ne_of_lt (Heap.lt_size e))]; exact Heap.get?_push_of_some _ e
      · rw [hz, ← hxy, And.comm]
        refine and_congr_left fun _ => ⟨fun ⟨e, he, t, q⟩ => ?_, fun hk => el2 k hk⟩
        obtain ⟨k', t', q', _, hk'⟩ := el1 e he
        rw [q] at q'; cases q'; exact hk'
  have ra : s.heap.objs.size ≠ a := Nat.ne_of_gt (Heap.lt_size hoa)
  have rb : s.heap.objs.size ≠ b := Nat.ne_of_gt (Heap.lt_size hob)
  split
  · exact go a b oa ob xa xb na nb hoa1 hSa hna hob1 hSb hnb ha hb ra rb fun k => Iff.rfl
  · exact go b a ob oa xb xa nb na hob1 hSb hnb hoa1 hSa hna hb ha rb ra fun k => And.comm
end
section
variable {prog : Program} {w : World} {A : Around} {E : Value → Shared → Prop} {s : Shared}
theorem and_set {a b : Addr} {oa ob : Obj} {xa xb : List Int} {na nb : Nat} {Q : Value → Shared → Prop} (hne : b ≠ a) (hoa : s.heap.get? a = some oa) (hSa : SetAtI prog w oa xa) (hna : sizeIs oa na) (hob : s.heap.get? b = some ob) (hSb : SetAtI prog w ob xb) (hnb : sizeIs ob nb)
    (ha : na < 2000) (hb : nb < 2000)
    (h : ∀ R h' o zs n, (∀ b o, s.heap.get? b = some o → h'.get? b = some o) → s.heap.get? R = none → h'.get? R = some o → SetAtI prog w o zs → (∀ k, k ∈ zs ↔ k ∈ xa ∧ k ∈ xb) → sizeIs o n → n < 3000 → Q (.ref R) { s with heap := h' }) :
    wpAny (model prog w) A (binaryOp .BitAnd (.ref a) (.ref b)) Q E s := by
  have hTa : s.TypeIs (.ref a) "set" := ⟨oa, hoa, hSa.ex.1⟩
  have hTb : s.TypeIs (.ref b) "set" := ⟨ob, hob, hSb.ex.1⟩
  refine wpAny_binaryOp_same (op := .BitAnd) (T := "set") hTa hTb PySem.F.fills_set_and PySem.F.slot_set_and (wpAny_call_entry PySem.F.slot_set_and hTa entry_set_and ?_ (PySem.F.args_set_and_2 _ _))
  show wpAny _ _ (do
    if !(← Builtin.Frozenset.isAnySet (.ref a) <&&> Builtin.Frozenset.isAnySet (.ref b)) then rule _; return ← ret .notImplemented
    ret (← Builtin.Frozenset.intersection _ (← Builtin.Frozenset.addrOf (.ref a)) (.ref b))) _ _ s
  refine wpAny_bind (wpAny_bind (isSet_at hTa ?_))
  refine isSet_at hTb ?_
  simp only [Bool.not_true, Bool.false_eq_true, if_false]
  show wpAny _ _ (pure a >>= _) _ _ s
  refine wpAny_bind (wpAny_pure (wpAny_bind (both hne hoa hSa hna hob hSb hnb ha hb fun R h' o zs n k1 k2 k3 k4 k5 k6 k7 => ?_)))
  exact wpAny_pure ⟨_, rfl, by simp, h R h' o zs n k1 k2 k3 k4 k5 k6 k7⟩
theorem noBool_set : typeLookup (.type "set") "__bool__" = pure none := by rw [typeLookup_type, builtinLookup_eq_fast]; kernel_rfl
theorem truthy_set {a : Addr} {o : Obj} {xs : List Int} {n : Nat} {Q : Bool → Shared → Prop} (ho : s.heap.get? a = some o) (hS : SetAtI prog w o xs) (hn : sizeIs o n) (hb : n < 5000) (h : ∀ tk, Q (n != 0) { s with toks := tk }) : wpAny (model prog w) A (truthy (.ref a)) Q E s := by
  obtain ⟨hex, es, ep, t, hd, I⟩ := hS
  obtain ⟨e0, ep0, t0, hd0, hsz⟩ := hn
  rw [hd] at hd0; cases hd0
  have hT : s.TypeIs (.ref a) "set" := ⟨o, ho, hex.1⟩
  have hne : ((es.size : Int) != 0) = (n != 0) := by rw [← hsz]; cases es.size <;> simp <;> (first | lia | omega)
  have key : wpAny (model prog w) A (runValue (.builtin "len" ⟨[.ref a], []⟩)) (fun r s' => r = .int es.size (s.toks + 1) ∧ Q (n != 0) s') E s := by
    refine wpAny_runValue (codeAny_builtin entry_len ?_)
    rw [Around.under_plainId plain_len _]
    exact wpAny_mono (wpAny_len_body_set (Q := fun r s' => r = .int es.size (s.toks + 1) ∧ Q (n != 0) s') ho hex hd I.tok.fits (by (first | lia | omega)) ⟨rfl, h _⟩)
      (fun fin s' h' => by obtain ⟨r, rfl, hq⟩ := h'; exact hq) fun _ _ e => e
  unfold truthy
  first
    | refine wpAny_bind (wpAny_callSpecial?_none (name := Str.ofString "__bool__") hT noBool_set ?_)
    | refine wpAny_bind (wpAny_pure (wpAny_bind (wpAny_callSpecial?_none (name := Str.ofString "__bool__") hT noBool_set ?_)))
  first
    | refine wpAny_bind (wpAny_specialOf (name := Str.ofString "__len__") hT PySem.F.slot_set_len.lookup ?_)
    | refine wpAny_bind (wpAny_pure (wpAny_bind (wpAny_specialOf (name := Str.ofString "__len__") hT PySem.F.slot_set_len.lookup ?_)))
  first
    | exact wpAny_bind (wpAny_mono key (fun r s' h' => by obtain ⟨rfl, hq⟩ := h'; exact wpAny_pure (hne ▸ hq)) fun _ _ e => e)
    | exact wpAny_bind (wpAny_pure (wpAny_bind (wpAny_mono key (fun r s' h' => by obtain ⟨rfl, hq⟩ := h'; exact wpAny_pure (hne ▸ hq)) fun _ _ e => e)))
theorem setSize_zero {o : Obj} {xs : List Int} {n : Nat} (hS : SetAtI prog w o xs) (hn : sizeIs o n) : n = 0 ↔ ∀ k, k ∉ xs := by
  obtain ⟨hex, es, ep, t, hd, I⟩ := hS
  obtain ⟨e0, ep0, t0, hd0, hsz⟩ := hn
  rw [hd] at hd0; cases hd0
  obtain ⟨ys, h1, h2, h3⟩ := I.ys
  have hl := IntsAre.length h1
  simp only [List.length_map, Array.length_toList] at hl
  rw [← hsz, hl, List.length_eq_zero_iff]
  constructor
  · rintro rfl k hk; exact nomatch (h3 k).mpr hk
  · intro h
    cases ys with
    | nil => rfl
    | cons y r => exact absurd ((h3 y).mp (.head _)) (h y)
end
/-! ## the same over states -/
section
variable {prog : Program} {w : World} {A : Around} {B : Bs} {g g' : Gm} {V V' : List (Addr × Obj)} {env : Env} {m : Str → Option Value} {h h' : Heap} {K : Frag} {mg mb : Str → Option Value}
theorem St.grow1 (S : St B g V env m h) (k : ∀ b o, h.get? b = some o → h'.get? b = some o) {D : Addr} {o : Obj} (hD : h.get? D = none) (ho : h'.get? D = some o) : ∃ g', GLe g g' ∧ g' D = some o ∧ St B g' V env m h' := by
  have hN : ∀ b o', one D o b = some o' → h.get? b = none ∧ h'.get? b = some o' := fun b o' e => by
    obtain ⟨rfl, rfl⟩ := one_cases e; exact ⟨hD, ho⟩
  exact ⟨_, orG_le _ _, S.gN (fun b o' e => (hN b o' e).1) (one_self _ _), S.grow k _ hN⟩
structure SetV (prog : Program) (w : World) (g : Gm) (v : Value) (xs : List Int) : Prop where
  ex : ∃ a o n, v = .ref a ∧ g a = some o ∧ SetAtI prog w o xs ∧ sizeIs o n ∧ n < 1000
theorem SetV.mono {v xs} (x : SetV prog w g v xs) (le : GLe g g') : SetV prog w g' v xs := let ⟨a, o, n, e, hg, r⟩ := x.ex; ⟨a, o, n, e, le _ _ hg, r⟩
theorem ev_set {a : Addr} {vs : List Value} {k : Nat} {xs : List Int} {P : Value → Heap → Prop} (S : St B g V env m h) (hh : A.handled = none) (ha : g a = some (lobj vs k)) (hi : IntsAre vs xs) (hz : vs.length < 1000)
    (hP : ∀ R g' h', GLe g g' → g R = none → SetV prog w g' (.ref R) xs → St B g' V env m h' → P (.ref R) h') : Ev prog w A (call (.type "set") [.ref a]) h P := fun s E hs => by
  subst hs
  have hl := S.frz _ _ ha
  refine call_set hh (isList_of hl) (by simpa using hi) (by simp; unfold scanBound; (first | lia | omega)) fun h' tk o c kp ho hS hc hcl => ⟨⟨rfl, rfl⟩, ?_⟩
  have hD : s.heap.get? s.heap.objs.size = none := fresh_none (Nat.le_refl _)
  obtain ⟨g', le, hg, S'⟩ := S.grow1 kp hD ho
  exact hP _ g' h' le (S.off hD).1 ⟨_, o, c, rfl, hg, hS, hc, by simp at hcl; (first | lia | omega)⟩ S'
theorem ev_sorted_set {v : Value} {xs : List Int} {P : Value → Heap → Prop} (S : St B g V env m h) (hh : A.handled = none) (hv : SetV prog w g v xs) (hz : ∀ n : Nat, (∀ ys : List Int, ys.Nodup → (∀ k, k ∈ ys ↔ k ∈ xs) → ys.length < 64))
    (hP : ∀ D g' h' zs, GLe g g' → Is prog w g' (.ref D) (.list (iL zs)) → zs.Pairwise (· < ·) → (∀ k, k ∈ zs ↔ k ∈ xs) → St B g' V env m h' → P (.ref D) h') : Ev prog w A (call (.builtin "sorted") [v]) h P := fun s E hs => by
  subst hs
  obtain ⟨a, o, n, rfl, hg, hS, hn, hn1⟩ := hv.ex
  refine sorted_set hh (S.frz _ _ hg) hS (fun n hn => ?_) fun D h' tk d vs zs c kp hD ho hi hs hm => ⟨⟨rfl, rfl⟩, ?_⟩
  · obtain ⟨hex, es, ep, t, hd, I⟩ := hS
    obtain ⟨e0, ep0, t0, hd0, hsz⟩ := hn
    rw [hd] at hd0; cases hd0
    obtain ⟨ys, h1, h2, h3⟩ := I.ys
    have hl := IntsAre.length h1
    simp only [List.length_map, Array.length_toList] at hl
    have := hz 0 ys h2 h3
    (first | lia | omega)
  · obtain ⟨g', le, hg', S'⟩ := S.grow1 kp hD ho
    exact hP D g' h' zs le (.list hg' (iss_of_ints hi)) hs hm S'
theorem ev_and_set {u v : Value} {xs ys : List Int} {P : Value → Heap → Prop} (S : St B g V env m h) (hu : SetV prog w g u xs) (hv : SetV prog w g v ys) (hne : u ≠ v)
    (hP : ∀ R g' h' o n, GLe g g' → g' R = some o → (n ≠ 0 ↔ ∃ k, k ∈ xs ∧ k ∈ ys) → St B g' V env m h' → (∀ Q : Bool → Heap → Prop, Q (n != 0) h' → Ev prog w A (truthy (.ref R)) h' Q) → P (.ref R) h') : Ev prog w A (binaryOp .BitAnd u v) h P := fun s E hs => by
  subst hs
  obtain ⟨a, oa, na, rfl, hga, hSa, hna, hna1⟩ := hu.ex
  obtain ⟨b, ob, nb, rfl, hgb, hSb, hnb, hnb1⟩ := hv.ex
  refine and_set (by rintro rfl; exact hne rfl) (S.frz _ _ hga) hSa hna (S.frz _ _ hgb) hSb hnb (by (first | lia | omega)) (by (first | lia | omega)) fun R h' o zs n kp hR ho hS hz hn hn3 => ⟨⟨rfl, rfl⟩, ?_⟩
  obtain ⟨g', le, hg', S'⟩ := S.grow1 kp hR ho
  refine hP R g' h' o n le hg' ?_ S' fun Q q s2 E2 hs2 => ?_
  · rw [ne_eq, setSize_zero hS hn]
    constructor
    · intro q
      have : ∃ k, k ∈ zs := by
        cases zs with
        | nil => exact absurd (fun k hk => nomatch hk) q
        | cons y r => exact ⟨y, .head _⟩
      obtain ⟨k, hk⟩ := this
      exact ⟨k, (hz k).mp hk⟩
    · rintro ⟨k, hk⟩ q; exact q k ((hz k).mpr hk)
  · subst hs2
    exact truthy_set (S'.frz _ _ hg') hS hn (by (first | lia | omega)) fun tk => ⟨⟨rfl, rfl⟩, q⟩
theorem ev_sorted_list {a : Addr} {vs : List Value} {c : Nat} {xs : List Int} {P : Value → Heap → Prop} (S : St B g V env m h) (ha : h.get? a = some (lobj vs c)) (hi : IntsAre vs xs) (hz : vs.length < 64)
    (hP : ∀ D g' h' zs, GLe g g' → Is prog w g' (.ref D) (.list (iL zs)) → zs.Pairwise (· ≤ ·) → zs.Perm xs → St B g' V env m h' → P (.ref D) h') : Ev prog w A (call (.builtin "sorted") [.ref a]) h P := fun s E hs => by
  subst hs
  refine sorted_of fun A' hA Q' fin => collect_list (isList_of ha) (fin _ s.toks s.drawn vs xs (fun b o e => ?_) hi hz fun D h'' vs' zs c kp hD ho hi' hp hs => ⟨⟨rfl, rfl⟩, ?_⟩) (by rw [sizeLine_eq]; (first | lia | omega))
  · have hb := Heap.lt_size e
    rw [Heap.get?_update_other _ _ (Nat.ne_of_gt hb)]
    exact Heap.get?_push_of_some _ e
  · obtain ⟨g', le, hg', S'⟩ := S.grow1 kp hD ho
    exact hP D g' h'' zs le (.list hg' (iss_of_ints hi')) hs hp S'
end
section
variable {prog : Program} {w : World} {A : Around} {B : Bs} {g g' : Gm} {V V' : List (Addr × Obj)} {env : Env} {m : Str → Option Value} {h h' : Heap} {K : Frag} {mg mb : Str → Option Value}
/-! ## syntax -/
theorem ev_list {elts : List Expr} {pos : Pos} {P : Value → Heap → Prop}
    (x : Ev prog w A (spliced (backTo pos (starEach elts env))) h fun vs h1 => vs.length ≤ sizeLine ∧ P (.ref h1.objs.size) (h1.push (lobj vs 0))) : Ev prog w A (eval (.List elts pos) env) h P := fun s E hs =>
  wpAny_List (x.use hs (Same.refl s) fun vs s1 h1 ⟨a, b⟩ => ⟨a, ⟨h1.1, h1.2⟩, b⟩)
theorem ev_tuple {elts : List Expr} {k : Nat} {pos : Pos} {P : Value → Heap → Prop}
    (x : Ev prog w A (spliced (backTo pos (starEach elts env))) h fun vs h1 => vs.length ≤ sizeLine ∧ P (.ref h1.objs.size) (h1.push (tobj vs 0))) : Ev prog w A (eval (.Tuple elts k pos) env) h P := fun s E hs =>
  wpAny_Tuple (x.use hs (Same.refl s) fun vs s1 h1 ⟨a, b⟩ => ⟨a, ⟨h1.1, h1.2⟩, b⟩)
theorem ev_unary {op : UnaryOp} {e : Expr} {pos : Pos} {P : Value → Heap → Prop} (x : Ev prog w A (eval e env) h fun v h1 => Ev prog w A (unaryOp op v) h1 P) : Ev prog w A (eval (.UnaryOp op e pos) env) h P := fun s E hs =>
  wpAny_UnaryOp (x.use hs (Same.refl s) fun _ _ h1 y => y.use rfl h1 fun _ _ h2 z => ⟨h2, z⟩)
theorem ev_ifexp {test body orelse : Expr} {pos : Pos} {P : Value → Heap → Prop}
    (x : Ev prog w A (isTrue test env (eval test env)) h fun b h1 => if b = true then Ev prog w A (eval body env) h1 P else Ev prog w A (eval orelse env) h1 P) : Ev prog w A (eval (.IfExp test body orelse pos) env) h P := fun s E hs =>
  wpAny_IfExp (x.use hs (Same.refl s) fun b s1 h1 y => by
    cases b
    · simp only [Bool.false_eq_true, if_false] at y ⊢; exact y.use rfl h1 fun _ _ h2 z => ⟨h2, z⟩
    · simp only [if_true] at y ⊢; exact y.use rfl h1 fun _ _ h2 z => ⟨h2, z⟩)
theorem ev_true_value {e : Expr} {whole : Sem Value} {P : Bool → Heap → Prop} (x : Ev prog w A whole h fun v h1 => Ev prog w A (truthy v) h1 P)
    (he : isTrue e env whole = (do let v ← whole; standAt e.pos; holding [v] (truthy v)) := by rfl) : Ev prog w A (isTrue e env whole) h P := fun s E hs =>
  wpAny_isTrue_value (x.use hs (Same.refl s) fun _ _ h1 y => y.use rfl h1 fun _ _ h2 z => ⟨h2, z⟩) he
theorem ev_true_or2 {a b : Expr} {pos : Pos} {whole : Sem Value} {P : Bool → Heap → Prop}
    (x : Ev prog w A (isTrue a env (eval a env)) h fun t h1 => if t = true then P true h1 else Ev prog w A (isTrue b env (eval b env)) h1 P) : Ev prog w A (isTrue (.BoolOp .Or [a, b] pos) env whole) h P := fun s E hs =>
  wpAny_isTrue_BoolOp (wpAny_allTrue_Or_cons (x.use hs (Same.refl s) fun t s1 h1 y => by
    cases t
    · simp only [Bool.false_eq_true, if_false] at y ⊢
      refine wpAny_allTrue_Or_cons (y.use rfl h1 fun t2 s2 h2 z => ?_)
      cases t2
      · exact wpAny_allTrue_Or_nil ⟨h2, z⟩
      · exact ⟨h2, z⟩
    · exact ⟨h1, y⟩))
theorem ev_true_or3 {a b c : Expr} {pos : Pos} {whole : Sem Value} {P : Bool → Heap → Prop}
    (x : Ev prog w A (isTrue a env (eval a env)) h fun t h1 => if t = true then P true h1 else Ev prog w A (isTrue b env (eval b env)) h1 fun t2 h2 => if t2 = true then P true h2 else Ev prog w A (isTrue c env (eval c env)) h2 P) : Ev prog w A (isTrue (.BoolOp .Or [a, b, c] pos) env whole) h P := fun s E hs =>
  wpAny_isTrue_BoolOp (wpAny_allTrue_Or_cons (x.use hs (Same.refl s) fun t s1 h1 y => by
    cases t
    · simp only [Bool.false_eq_true, if_false] at y ⊢
      refine wpAny_allTrue_Or_cons (y.use rfl h1 fun t2 s2 h2 z => ?_)
      cases t2
      · simp only [Bool.false_eq_true, if_false] at z ⊢
        refine wpAny_allTrue_Or_cons (z.use rfl h2 fun t3 s3 h3 q => ?_)
        cases t3
        · exact wpAny_allTrue_Or_nil ⟨h3, q⟩
        · exact ⟨h3, q⟩
      · exact ⟨h2, z⟩
    · exact ⟨h1, y⟩))
/-- a < b < c as a test -/
theorem ev_true_chain2 {l r₁ r₂ : Expr} {op₁ op₂ : CmpOp} {pos : Pos} {whole : Sem Value} {P : Bool → Heap → Prop}
    (x : Ev prog w A (eval l env) h fun a h1 => Ev prog w A (eval r₁ env) h1 fun b h2 => Ev prog w A (compareOp op₁ a b) h2 fun c h3 => Ev prog w A (truthy c) h3 fun t h4 =>
      if t = true then Ev prog w A (eval r₂ env) h4 fun d h5 => Ev prog w A (compareOp op₂ b d) h5 fun e h6 => Ev prog w A (truthy e) h6 P else P false h4)
    (hm : lastMarks [op₁, op₂] [r₁, r₂] = false := by with_unfolding_all rfl) : Ev prog w A (isTrue (.Compare l [op₁, op₂] [r₁, r₂] pos) env whole) h P := fun s E hs =>
  isTrue_chain (rs := []) (x.use hs (Same.refl s) fun a s1 h1 y => test_link (y.use rfl h1 fun b s2 h2 y => y.use rfl h2 fun c s3 h3 y => y.use rfl h3 fun t s4 h4 y => by
    cases t
    · exact ⟨h4, y⟩
    · simp only [if_true] at y ⊢
      exact test_last (y.use rfl h4 fun d s5 h5 y => y.use rfl h5 fun e s6 h6 y => y.use rfl h6 fun _ _ h7 z => ⟨h7, z⟩))) hm
theorem ev_expr {e : Expr} {pos : Pos} {P : Flow → Heap → Prop} (x : Ev prog w A (eval e env) h fun _ h1 => P .next h1)
    (hi : interactive env = false := by rfl) (hs : swapsWith e none pos.line env = Pure.pure false := by rfl) : Ev prog w A (exec (.Expr e pos) env) h P := fun s E hsh =>
  wpAny_Expr_any (x.use hsh (Same.refl s) fun _ _ h1 y => ⟨h1, y⟩) hi hs
theorem ev_is_none {v : Value} {P : Value → Heap → Prop} (x : P (.bool (v == .none)) h) : Ev prog w A (compareOp .Is v .none) h P := fun s E hs => is_none ⟨Same.refl s, by rw [hs]; exact x⟩
theorem ev_isnot_none {v : Value} {P : Value → Heap → Prop} (x : P (.bool (!(v == .none))) h) : Ev prog w A (compareOp .IsNot v .none) h P := fun s E hs => isNot_none ⟨Same.refl s, by rw [hs]; exact x⟩
/-! ## tuples taken apart -/
theorem ev_assign_tup2 {a b : Expr} {k : Nat} {pos : Pos} {t : Addr} {u v : Value} {c : Nat} {P : Unit → Heap → Prop} (S : St B g V env m h) (hh : A.handled = none) (ht : g t = some (tobj [u, v] c))
    (hP : ∀ h', St B g V env m h' → Ev prog w A (assign a env u) h' fun _ h2 => Ev prog w A (assign b env v) h2 P)
    (he : assignEach [a, b] env = [(false, assign a env), (false, assign b env)] := by rfl) : Ev prog w A (assign (.Tuple [a, b] k pos) env (.ref t)) h P := fun s E hs => by
  subst hs
  have htu : s.heap.IsTuple t [u, v].toArray := ⟨_, S.frz _ _ ht, rfl, c, rfl⟩
  refine wpAny_assign_Tuple hh htu (by rw [he]; rfl) (by rw [he]; rfl) fun h1 e1 => ?_
  rw [he]
  have S1 := S.keeps (h' := h1) fun b o e => e1 b o (Nat.ne_of_lt (Heap.lt_size e)) e
  exact assignInOrder_cons ((hP h1 S1).use rfl ⟨rfl, rfl⟩ fun _ s2 h2 y => assignInOrder_cons (y.use rfl h2 fun _ s3 h3 z => assignInOrder_nil ⟨h3, z⟩))
/-! ## slices -/
theorem ev_slice_from {i : Expr} {p : Pos} {P : Value → Heap → Prop} (x : Ev prog w A (eval i env) h fun l h1 => P (.ref h1.objs.size) (h1.push { cls := .type "slice", data := .fields #[l, .none, .none] })) : Ev prog w A (eval (.Slice (some i) none none p) env) h P := fun s E hs =>
  wpAny_Slice (by rw [evalPart_some]; exact x.use hs (Same.refl s) fun l s1 h1 y => by rw [evalPart_none]; exact wpAny_pure (wpAny_pure ⟨⟨h1.1, h1.2⟩, y⟩))
theorem ev_slice_upto {i : Expr} {p : Pos} {P : Value → Heap → Prop} (x : Ev prog w A (eval i env) h fun u h1 => P (.ref h1.objs.size) (h1.push { cls := .type "slice", data := .fields #[.none, u, .none] })) : Ev prog w A (eval (.Slice none (some i) none p) env) h P := fun s E hs =>
  wpAny_Slice (by rw [evalPart_none]; exact wpAny_pure (by rw [evalPart_some]; exact x.use hs (Same.refl s) fun l s1 h1 y => wpAny_pure ⟨⟨h1.1, h1.2⟩, y⟩))
theorem ev_sliced {value slice : Expr} {l : Addr} {vs : List Value} {c : Nat} {vl vu : Value} {lo hi : Option Int} {P : Value → Heap → Prop} (hl : h.get? l = some (lobj vs c)) (pl : IsPart vl lo) (pu : IsPart vu hi) (hsz : vs.length ≤ sizeLine)
    (hP : ∀ D h', (∀ b o, h.get? b = some o → h'.get? b = some o) → h.get? D = none → h'.get? D = some (lobj (slicePick vs.toArray lo hi none).toList 0) → P (.ref D) h')
    (hs : ∀ x, subscripted slice false (.ref l) (.ref x) = operate [.ref x, .ref l] (getItem (.ref l) (.ref x)) := by intro _; with_unfolding_all rfl)
    (ht : ∀ r, letTemporaryGo value (.ref l) r = Pure.pure () := by intro _; with_unfolding_all rfl) :
    Ev prog w A (subscriptTail value slice (.ref l) (.ref h.objs.size)) (h.push { cls := .type "slice", data := .fields #[vl, vu, .none] }) P := fun s E hsh => by
  have hl1 : s.heap.IsList l vs.toArray := by rw [hsh]; exact (isList_of hl).push _
  have hsl : s.heap.IsSliceOf h.objs.size vl vu .none := by rw [hsh]; exact Heap.IsSliceOf.new ..
  refine subscriptTail_ops (hl1.typeIs) list_getitem_lookup (wpAny_getItem_list_slice hl1 hsl pl pu .none (by simp) ?_ (by simpa using hsz)) (hs _) ht
  refine ⟨⟨rfl, rfl⟩, hP _ _ (fun b o e => ?_) ?_ ?_⟩
  · rw [hsh]; exact Heap.get?_push_of_some _ (Heap.get?_push_of_some _ e)
  · rw [hsh, Heap.size_push]; exact fresh_none (Nat.le_succ _)
  · have : ({ cls := .type "list", data := .seq (slicePick vs.toArray lo hi none) } : Obj) = lobj (slicePick vs.toArray lo hi none).toList 0 := by simp [lobj]
    exact (Heap.get?_push_size _ rfl).trans (congrArg some this)
end
section
open PySem.SeqAt
theorem tuple_mul1 (l : Addr) (v : Value) (n : Nat) (u : Tok) :
    Meets (Builtin.«tuple.__mul__» ⟨[.ref l, .int 1 u], []⟩) (fun _ R s => s.heap.get? l = some (tobj [v] n) ∧ R (.ok (.ret (.ref l))) s) :=
  .of_wp fun prog w A R s h => by
    obtain ⟨hp, g, d, tk, os⟩ := s; obtain ⟨hl, h⟩ := h
    have f1 := AutoSeq1.idx_int
    have hT : Shared.TypeIs ⟨hp, g, d, tk, os⟩ (.ref l) "tuple" := ⟨_, hl, rfl⟩
    wp_walk using wpAny_loadPart' hl, wpAny_typeOf hT
    exact ⟨_, rfl, h⟩
theorem tuple_mul2 (l : Addr) (v : Value) (n : Nat) (u : Tok) :
    Meets (Builtin.«tuple.__mul__» ⟨[.ref l, .int 2 u], []⟩) (fun _ R s => s.heap.get? l = some (tobj [v] n) ∧ R (.ok (.ret (.ref s.heap.objs.size))) { s with heap := s.heap.push (tobj [v, v] 0) }) :=
  .of_wp fun prog w A R s h => by
    obtain ⟨hp, g, d, tk, os⟩ := s; obtain ⟨hl, h⟩ := h
    have f1 := AutoSeq1.idx_int
    have hT : Shared.TypeIs ⟨hp, g, d, tk, os⟩ (.ref l) "tuple" := ⟨_, hl, rfl⟩
    wp_walk using wpAny_loadPart' hl, wpAny_typeOf hT
    exact ⟨_, rfl, h⟩
theorem noFill_tuple_mul : fillsNumberSlot (.type "tuple") "mul" = pure false :=
  PySem.fillsNumberSlot_seq (id := "tuple.__mul__") (r := some (.builtin "tuple.__rmul__")) PySem.F.slot_tuple_mul.lookup (by decide +kernel) PySem.F.slot_tuple_rmul.lookup (by decide +kernel)
theorem repeat_tuple : seqRepeat? (.type "tuple") = pure (some (.builtin "tuple.__mul__")) := by
  unfold seqRepeat?
  rw [PySem.seqSlot_of (T := "tuple") (name := "__mul__") (id := "tuple.__mul__") PySem.F.slot_tuple_mul.lookup (by decide +kernel), PySem.seqSlot_of (T := "tuple") (name := "__rmul__") (id := "tuple.__rmul__") PySem.F.slot_tuple_rmul.lookup (by decide +kernel)]
  rfl
theorem int_rmul_tuple (a : Int) (t : Tok) (l : Addr) (items : Array Value) (n : Nat) :
    Meets (Builtin.«int.__rmul__» ⟨[.int a t, .ref l], []⟩) (fun _ R s => s.heap.get? l = some { cls := .type "tuple", dict := none, data := .seq items n, slots := #[] } ∧ R (.ok (.ret Value.notImplemented)) s) :=
  .of_wp fun prog w A R s h => by obtain ⟨hp, g, d, tk, os⟩ := s; obtain ⟨hl, h⟩ := h; wp_walk; exact ⟨_, rfl, h⟩
section
variable {prog : Program} {w : World} {A : Around} {B : Bs} {g g' : Gm} {V V' : List (Addr × Obj)} {env : Env} {m : Str → Option Value} {h h' : Heap} {K : Frag} {mg mb : Str → Option Value}
theorem isTuple_of {h : Heap} {a : Addr} {vs : List Value} {n : Nat} (e : h.get? a = some (tobj vs n)) : h.IsTuple a vs.toArray := ⟨_, e, rfl, n, rfl⟩
/-- (v,) * x -/
theorem ev_mul_tup {l : Addr} {v : Value} {k : Nat} {x : Int} {u : Tok} {P : Value → Heap → Prop} (S : St B g V env m h) (hl : g l = some (tobj [v] k)) (hx : x = 1 ∨ x = 2)
    (hP : ∀ D c g' h', GLe g g' → g' D = some (tobj (List.replicate x.toNat v) c) → St B g' V env m h' → P (.ref D) h') : Ev prog w A (binaryOp .Mult (.ref l) (.int x u)) h P := fun s E hs => by
  subst hs
  have hh := S.frz _ _ hl
  refine wpAny_binaryOp_repeat_ref (T := "tuple") (U := "int") (by decide) ⟨_, hh, rfl⟩ (fun s' => typeIs_int s' x u) noFill_tuple_mul PySem.F.fills_int_mul PySem.F.slot_int_rmul repeat_tuple PySem.F.slot_int_index.lookup
    (call_meets PySem.F.slot_int_rmul (typeIs_int s x u) PySem.F.entry_int_rmul (PySem.F.args_int_rmul_2 _ _) (int_rmul_tuple x u l _ k) ⟨hh, rfl, ⟨_, hh, rfl⟩, ?_⟩)
  rcases hx with rfl | rfl
  · exact call_meets PySem.F.slot_tuple_mul ⟨_, hh, rfl⟩ PySem.F.entry_tuple_mul (PySem.F.args_tuple_mul_2 _ _) (tuple_mul1 l v k u) ⟨hh, Same.refl s, hP l k g s.heap (GLe.refl g) hl S⟩
  · refine call_meets PySem.F.slot_tuple_mul ⟨_, hh, rfl⟩ PySem.F.entry_tuple_mul (PySem.F.args_tuple_mul_2 _ _) (tuple_mul2 l v k u) ⟨hh, ⟨rfl, rfl⟩, ?_⟩
    obtain ⟨g', le, hg, S'⟩ := S.push_frz (tobj [v, v] 0) rfl
    exact hP _ 0 g' _ le hg S'
theorem ev_add_list {a b : Addr} {us vs : List Value} {c d : Nat} {P : Value → Heap → Prop} (ha : h.get? a = some (lobj us c)) (hb : h.get? b = some (lobj vs d)) (hsz : us.length + vs.length ≤ sizeLine)
    (x : P (.ref h.objs.size) (h.push (lobj (us ++ vs) 0))) : Ev prog w A (binaryOp .Add (.ref a) (.ref b)) h P := fun s E hs => by
  subst hs
  refine PySem.P.add_list (items := us.toArray) (items2 := vs.toArray) ha hb ⟨⟨rfl, rfl⟩, ?_⟩ (by simpa using hsz)
  have : ({ cls := .type "list", data := .seq (us.toArray ++ vs.toArray) } : Obj) = lobj (us ++ vs) 0 := by simp [lobj]
  rw [this]; exact x
/-- a method of a list -/
theorem ev_getm_list {a : Addr} {vs : List Value} {c : Nat} {name : Str} {id : String} {pl : Sem Bool} {P : Value × List Value → Heap → Prop} (ha : h.get? a = some (lobj vs c)) (slot : Slot "list" name id) (hty : typeOf (.builtin id) = Pure.pure (.type "method_descriptor"))
    (x : P (.builtin id, [.ref a]) h) : Ev prog w A (getMethod (.ref a) name pl) h P := fun s E hs => by
  subst hs
  exact getMethod_builtin ⟨_, ha, rfl⟩ PySem.F.plainAttrs_list slot hty (fun b e => by cases e; exact ⟨_, ha, rfl⟩) ⟨Same.refl s, x⟩
theorem ev_extend {a b : Addr} {us vs : List Value} {c d : Nat} {P : Value → Heap → Prop} (ha : h.get? a = some (lobj us c)) (hb : h.get? b = some (lobj vs d)) (hsz : us.length + vs.length < 100000)
    (hP : ∀ h' e, h'.get? a = some (lobj (us ++ vs) e) → Heap.SameBut a h h' → P .none h') : Ev prog w A (call (.builtin "list.extend") [.ref a, .ref b]) h P := fun s E hs => by
  subst hs
  have hn : ¬(!us.toArray.isEmpty && Builtin.List.listTooLong (us.toArray.size + vs.toArray.size)) = true := by
    simp only [List.size_toArray, Bool.and_eq_true, not_and, Builtin.List.listTooLong, sizeLine_eq]
    intro _; simp; (first | lia | omega)
  refine call_meets PySem.F.slot_list_extend ⟨_, ha, rfl⟩ PySem.F.entry_list_extend (PySem.F.args_list_extend_2 _ _) (AutoSeq1.list_extend_list_list_0 a us.toArray c b vs.toArray d hn (by simp; rw [sizeLine_eq]; (first | lia | omega)) (by simp; rw [sizeLine_eq]; (first | lia | omega))) ⟨ha, hb, ⟨rfl, rfl⟩, ?_⟩
  have e1 := Heap.get?_update_self (Obj.mapSeq fun x => x ++ vs.toArray) ha rfl
  have e2 : Obj.mapSeq (fun x => x ++ vs.toArray) (lobj us c) = lobj (us ++ vs) (if (us.toArray ++ vs.toArray).size == us.toArray.size then c else c + 1) := by
    unfold Obj.mapSeq lobj; simp
  exact hP _ _ (e1.trans (congrArg some e2)) (Heap.SameBut.update ..)
theorem ev_pop {a : Addr} {us : List Value} {y : Value} {c : Nat} {P : Value → Heap → Prop} (ha : h.get? a = some (lobj (us ++ [y]) c)) (hsz : us.length < 100000)
    (hP : ∀ h' e, h'.get? a = some (lobj us e) → Heap.SameBut a h h' → P y h') : Ev prog w A (call (.builtin "list.pop") [.ref a]) h P := fun s E hs => by
  subst hs
  have hy : (us ++ [y]).toArray[(us ++ [y]).toArray.size - 1]? = some y := by simp
  refine call_meets PySem.F.slot_list_pop ⟨_, ha, rfl⟩ PySem.F.entry_list_pop (PySem.F.args_list_pop_1 _) (MeetsSeq.list_pop_last a (us ++ [y]).toArray c y hy (by simp; rw [sizeLine_eq]; (first | lia | omega))) ⟨ha, ⟨rfl, rfl⟩, ?_⟩
  have e1 := Heap.get?_update_self (Obj.mapSeq fun xs => xs.eraseIdxIfInBounds ((us ++ [y]).toArray.size - 1)) ha rfl
  have e2 : ((us ++ [y]).toArray.eraseIdxIfInBounds ((us ++ [y]).toArray.size - 1)) = us.toArray := by
    apply Array.toList_inj.mp
    simp [Array.eraseIdxIfInBounds, Array.toList_eraseIdx, List.eraseIdx_append_of_length_le]
  have e3 : Obj.mapSeq (fun xs => xs.eraseIdxIfInBounds ((us ++ [y]).toArray.size - 1)) (lobj (us ++ [y]) c) = lobj us (if us.toArray.size == (us ++ [y]).toArray.size then c else c + 1) := by
    unfold Obj.mapSeq lobj; simp only [e2]
  exact hP _ _ (e1.trans (congrArg some e3)) (Heap.SameBut.update ..)
/-! ## in, ==, != -/
theorem any_isInt (i : Int) : ∀ {vs : List Value} {xs : List Int}, IntsAre vs xs → vs.any (fun v => isInt i v) = decide (i ∈ xs)
  | _, _, .nil => by simp
  | _, _, .cons n t h => by
    rw [List.any_cons, any_isInt i h]
    show ((n == i) || decide (i ∈ _)) = _
    by_cases e : n = i
    · subst e; simp
    · have : ¬ i = n := fun q => e q.symm
      simp [e, this]
theorem ev_in {a : Addr} {vs : List Value} {c : Nat} {xs : List Int} {i : Int} {t : Tok} {P : Value → Heap → Prop} (ha : h.get? a = some (lobj vs c)) (hi : IntsAre vs xs) (x : P (.bool (decide (i ∈ xs))) h) : Ev prog w A (compareOp .In (.int i t) (.ref a)) h P := fun s E hs => by
  subst hs
  refine in_listAt (fun v => isInt i v) (isList_of ha) (fun y hy => (eq_isInt i t hi y (by simpa using hy)).at A.in1 s) ⟨Same.refl s, ?_⟩
  have : vs.toArray.any (fun v => isInt i v) = decide (i ∈ xs) := by rw [← any_isInt i hi]; simp
  rw [this]; exact x
theorem ev_notin {a : Addr} {vs : List Value} {c : Nat} {xs : List Int} {i : Int} {t : Tok} {P : Value → Heap → Prop} (ha : h.get? a = some (lobj vs c)) (hi : IntsAre vs xs) (x : P (.bool (!decide (i ∈ xs))) h) : Ev prog w A (compareOp .NotIn (.int i t) (.ref a)) h P := fun s E hs => by
  subst hs
  refine notIn_listAt (fun v => isInt i v) (isList_of ha) (fun y hy => (eq_isInt i t hi y (by simpa using hy)).at A.in1 s) ⟨Same.refl s, ?_⟩
  have : vs.toArray.any (fun v => isInt i v) = decide (i ∈ xs) := by rw [← any_isInt i hi]; simp
  rw [this]; exact x
mutual
inductive Plain : D → Nat → Prop
  | int {i n} : Plain (.int i) n
  | str {s n} : Plain (.str s) n
  | tup {ds n} : Plains ds n → Plain (.tup ds) (n + 1)
  | list {ds n} : Plains ds n → Plain (.list ds) (n + 1)
inductive Plains : List D → Nat → Prop
  | nil {n} : Plains [] n
  | cons {d ds n} : Plain d n → Plains ds n → Plains (d :: ds) n
end
theorem plains_ints : ∀ (xs : List Int) (n : Nat), Plains (iL xs) n
  | [], n => .nil
  | x :: xs, n => .cons .int (plains_ints xs n)
theorem Plains.get : ∀ {ds : List D} {n : Nat}, Plains ds n → ∀ d ∈ ds, Plain d n
  | _, _, .nil, d, h => nomatch h
  | _, _, .cons a b, d, h => by
    rcases List.mem_cons.mp h with rfl | h
    · exact a
    · exact b.get d h
theorem eqI {A : Around} {s : Shared} (i : Int) (t t' : Tok) : EqAt A s (.int i t) (.int i t') true := by have := EqAt.int_int (A := A) (s := s) i t i t'; rwa [beq_self_eq_true] at this
theorem eqS {A : Around} {s : Shared} (i : Str) (t t' : Tok) : EqAt A s (.str i t) (.str i t') true := by have := (eqGives_str i i t t').at A s; rwa [beq_self_eq_true] at this
theorem allT (n : Nat) : ((List.range n).all fun _ => true) = true := List.all_eq_true.mpr fun _ _ => rfl
theorem eqAt_of (prog' : Program) (w' : World) {s : Shared} (hg : ∀ b o, g b = some o → s.heap.get? b = some o) : ∀ (n : Nat) (A : Around) (u v : Value) (d : D), Plain d n → Is prog' w' g u d → Is prog' w' g v d → A.units + n < cLine → EqAt A s u v true := by
  have items : ∀ (n : Nat) (A : Around) (us vs : List Value) (ds : List D), (∀ (A : Around) (u v : Value) (d : D), Plain d n → Is prog' w' g u d → Is prog' w' g v d → A.units + n < cLine → EqAt A s u v true) → Plains ds n → Iss prog' w' g us ds → Iss prog' w' g vs ds → A.units + n < cLine →
      us.length = vs.length ∧ ∀ j (h1 : j < us.toArray.size) (h2 : j < vs.toArray.size), EqAt A s us.toArray[j] vs.toArray[j] true := fun n A us vs ds ih hp hu hv hA => by
    refine ⟨hu.length.trans hv.length.symm, fun j h1 h2 => ?_⟩
    have e1 : us[j]? = some us.toArray[j] := by simp at h1; simp [h1]
    have e2 : vs[j]? = some vs.toArray[j] := by simp at h2; simp [h2]
    obtain ⟨d, hd, i1⟩ := hu.get e1
    obtain ⟨d', hd', i2⟩ := hv.get e2
    rw [hd] at hd'; cases hd'
    exact ih A _ _ d (hp.get d (List.mem_of_getElem? hd)) i1 i2 hA
  intro n
  induction n with
  | zero =>
    intro A u v d hp hu hv hA
    cases hp with
    | int => obtain ⟨t, rfl⟩ := hu.asInt; obtain ⟨t', rfl⟩ := hv.asInt; exact eqI _ t t'
    | str =>
      obtain ⟨t, rfl⟩ := hu.asStr; obtain ⟨t', rfl⟩ := hv.asStr
      exact eqS _ t t'
  | succ n ih =>
    intro A u v d hp hu hv hA
    cases hp with
    | int => obtain ⟨t, rfl⟩ := hu.asInt; obtain ⟨t', rfl⟩ := hv.asInt; exact eqI _ t t'
    | str =>
      obtain ⟨t, rfl⟩ := hu.asStr; obtain ⟨t', rfl⟩ := hv.asStr
      exact eqS _ t t'
    | tup hq =>
      obtain ⟨a, us, k, rfl, ga, iu⟩ := hu.asTup
      obtain ⟨b, vs, k', rfl, gb, iv⟩ := hv.asTup
      by_cases hab : a = b
      · subst hab; exact EqAt.same _
      · obtain ⟨hl, he⟩ := items n A.in1 us vs _ ih hq iu iv (by show A.units + 1 + n < _; (first | lia | omega))
        have := RcAt.tuples (A := A) (e := fun _ => true) (isTuple_of (hg _ _ ga)) (isTuple_of (hg _ _ gb)) (by (first | lia | omega)) (fun j h1 h2 => he j h1 h2)
        refine EqAt.of_refs hab ?_
        rw [allT] at this; simpa [hl] using this
    | list hq =>
      obtain ⟨a, us, k, rfl, ga, iu⟩ := hu.asList
      obtain ⟨b, vs, k', rfl, gb, iv⟩ := hv.asList
      by_cases hab : a = b
      · subst hab; exact EqAt.same _
      · obtain ⟨hl, he⟩ := items n A.in1 us vs _ ih hq iu iv (by show A.units + 1 + n < _; (first | lia | omega))
        have := RcAt.lists (A := A) (e := fun _ => true) (isList_of (hg _ _ ga)) (isList_of (hg _ _ gb)) (by simpa using hl) (by (first | lia | omega)) (fun j h1 h2 => he j h1 h2)
        refine EqAt.of_refs hab ?_
        rwa [allT] at this
theorem ev_eq_data {u v : Value} {ds : List D} {n : Nat} {P : Value → Heap → Prop} (S : St B g V env m h) (hu : Is prog w g u (.list ds)) (hv : Is prog w g v (.list ds)) (hp : Plains ds n) (hA : A.units + n + 1 < cLine) (x : P (.bool true) h) : Ev prog w A (compareOp .Eq u v) h P := fun s E hs => by
  subst hs
  obtain ⟨a, us, k, rfl, ga, iu⟩ := hu.asList
  obtain ⟨b, vs, k', rfl, gb, iv⟩ := hv.asList
  have hl : us.length = vs.length := iu.length.trans iv.length.symm
  refine eq_listAt (e := fun _ => true) (isList_of (S.frz _ _ ga)) (isList_of (S.frz _ _ gb)) (by simpa using hl) (by (first | lia | omega)) (fun j h1 h2 => ?_) ⟨Same.refl s, by rw [allT]; exact x⟩
  have e1 : us[j]? = some us.toArray[j] := by simp at h1; simp [h1]
  have e2 : vs[j]? = some vs.toArray[j] := by simp at h2; simp [h2]
  obtain ⟨d, hd, i1⟩ := iu.get e1
  obtain ⟨d', hd', i2⟩ := iv.get e2
  rw [hd] at hd'; cases hd'
  exact eqAt_of prog w S.frz n A.in1 _ _ d (hp.get d (List.mem_of_getElem? hd)) i1 i2 (by show A.units + 1 + n < _; (first | lia | omega))
/-! ## built-in calls -/
theorem ev_max {a : Addr} {vs : List Value} {c : Nat} {xs : List Int} {P : Value → Heap → Prop} (S : St B g V env m h) (hh : A.handled = none) (ha : h.get? a = some (lobj vs c)) (hi : IntsAre vs xs) (hne : 0 < xs.length)
    (hP : ∀ M t h', M ∈ xs → (∀ y ∈ xs, y ≤ M) → St B g V env m h' → P (.int M t) h') : Ev prog w A (call (.builtin "max") [.ref a]) h P := fun s E hs => by
  subst hs
  obtain ⟨xi, e⟩ := hi.allInts.items
  have hns : xs = xi.toList.map (·.1) := by rw [← hi.numsOf, ← nums_intItems, ← e]
  have hsz : 0 < xi.size := by
    have h3 := hne; rw [hns, List.length_map, Array.length_toList] at h3; exact h3
  have hl := isList_of ha
  rw [e] at hl
  refine max_intList hh hl hsz fun v h' tk hv hk => ?_
  obtain ⟨t, rfl⟩ := intItems_at hv
  obtain ⟨h1, h2⟩ := argBest_gt (numAt xi) (xi.size - 1)
  refine ⟨⟨rfl, rfl⟩, hP _ t h' ?_ (fun a ha => ?_) (S.keeps hk)⟩
  · rw [hns, numAt_eq]; exact getD_mem (by rw [List.length_map, Array.length_toList]; (first | lia | omega))
  · rw [hns] at ha
    obtain ⟨j, hj, rfl⟩ := mem_getD ha
    rw [List.length_map, Array.length_toList] at hj
    rw [← numAt_eq]; exact h2 j (by (first | lia | omega))
theorem ev_list_of {a : Addr} {vs : List Value} {c : Nat} {P : Value → Heap → Prop} (ha : h.get? a = some (lobj vs c)) (hsz : vs.length ≤ sizeLine)
    (hP : ∀ D h' c', (∀ b o, h.get? b = some o → h'.get? b = some o) → h.get? D = none → h'.get? D = some (lobj vs c') → P (.ref D) h') : Ev prog w A (call (.type "list") [.ref a]) h P := fun s E hs => by
  subst hs
  refine call_list_seq a (.inl rfl) ha rfl rfl (fun h' c' k hD => ⟨⟨rfl, rfl⟩, hP _ h' c' k (fresh_none (Nat.le_refl _)) hD⟩) (by simpa using hsz)
theorem ev_tuple_of {a : Addr} {vs : List Value} {c : Nat} {P : Value → Heap → Prop} (ha : h.get? a = some (lobj vs c)) (hsz : vs.length ≤ sizeLine)
    (hP : ∀ D h', (∀ b o, h.get? b = some o → h'.get? b = some o) → h.get? D = none → h'.get? D = some (tobj vs 0) → P (.ref D) h') : Ev prog w A (call (.type "tuple") [.ref a]) h P := fun s E hs => by
  subst hs
  refine call_tuple_list (isList_of ha) (fun h' k => ⟨⟨rfl, rfl⟩, hP _ _ (fun b o e => Heap.get?_push_of_some _ (k b o e)) ?_ (Heap.get?_push_size _ rfl)⟩) (by simpa using hsz)
  cases q : s.heap.get? h'.objs.size with
  | none => rfl
  | some o' => exact absurd (Heap.lt_size (k _ _ q)) (Nat.lt_irrefl _)
theorem ev_int_of {i : Int} {t : Tok} {P : Value → Heap → Prop} (x : P (.int i t) h) : Ev prog w A (call (.type "int") [.int i t]) h P := fun s E hs => call_int_int ⟨Same.refl s, by rw [hs]; exact x⟩
theorem ev_neg {i : Int} {t : Tok} {P : Value → Heap → Prop} (x : ∀ t, P (.int (-i) t) h) : Ev prog w A (unaryOp .USub (.int i t)) h P := fun s E hs => PySem.P.neg_int ⟨Same.mk' s _ _, by rw [← hs] at x; exact x _⟩
theorem ev_eq_str {a b : Str} {t u : Tok} {P : Value → Heap → Prop} (x : P (.bool (decide (a = b))) h) : Ev prog w A (compareOp .Eq (.str a t) (.str b u)) h P := fun s E hs => PySem.P.eq_str ⟨Same.refl s, by
  rw [hs]
  have : (a.cps.toList == b.cps.toList) = decide (a = b) := by
    by_cases e : a = b
    · subst e; simp
    · have : a.cps.toList ≠ b.cps.toList := fun q => e (by obtain ⟨x⟩ := a; obtain ⟨y⟩ := b; exact congrArg Str.mk (Array.toList_inj.mp q))
      rw [decide_eq_false e, beq_eq_false_iff_ne]; exact this
  rw [this]; exact x⟩
theorem ev_item_tup {value slice : Expr} {a : Addr} {vs : List Value} {n : Nat} {k : Int} {t : Tok} {x : Value} {P : Value → Heap → Prop} (hl : h.get? a = some (tobj vs n))
    (h0 : 0 ≤ k) (hx : vs[k.toNat]? = some x) (hP : P x h) (hsz : vs.length < 2 ^ 62 := by first | (first | lia | omega) | (simp only [List.length_cons, List.length_nil]; (first | lia | omega)))
    (hsl : subscripted slice false (.ref a) (.int k t) = operate [.ref a, .int k t] (getItem (.ref a) (.int k t)) := by with_unfolding_all rfl) :
    Ev prog w A (subscriptTail value slice (.ref a) (.int k t)) h P := fun s E hs => by
  subst hs
  have hk : k.toNat < vs.length := (List.getElem?_eq_some_iff.mp hx).1
  refine tail_any (isTuple_of hl).typeIs PyProof.Rows.slot_tuple_getitem.lookup (getItem_tuple (j := k.toNat) (isTuple_of hl) (by (first | lia | omega)) (by (first | lia | omega)) ?_ (by simpa using hx) ⟨Same.refl s, hP⟩) hsl
  unfold seqIndex?
  simp only [List.size_toArray]
  have n1 : ¬ (k < 0) := by (first | lia | omega)
  have n2 : (decide (0 ≤ k) && decide (k < (vs.length : Int))) = true := by simp; (first | lia | omega)
  rw [if_neg n1, n2]; rfl
theorem ev_any {a : Addr} {vs : List Value} {c : Nat} {bs : List Bool} {P : Value → Heap → Prop} (S : St B g V env m h) (hh : A.handled = none) (ha : g a = some (lobj vs c)) (hi : vs = bs.map .bool)
    (hP : ∀ h', St B g V env m h' → P (.bool (bs.any id)) h') : Ev prog w A (call (.builtin "any") [.ref a]) h P := fun s E hs => by
  subst hs
  have hl := S.frz _ _ ha
  refine call_any_walk ?_
  refine wpAny_pyIter_list (isList_of hl) ⟨s.heap.objs.size, _, _, _, _, _, fun i => bs.getD i false, rfl, Walks.list (A := A.in1) hh _ a (Nat.ne_of_lt (Heap.lt_size hl)) vs.toArray, ⟨⟨_, Heap.get?_push_size _ rfl, rfl, rfl⟩, (isList_of hl).push _⟩, ?_, fun h' tk k => ⟨⟨rfl, rfl⟩, ?_⟩⟩
  · intro i v s Q E hv hq
    subst hi
    simp only [List.getElem?_toArray, List.getElem?_map, Option.map_eq_some_iff] at hv
    obtain ⟨b, hb, rfl⟩ := hv
    have : bs.getD i false = b := by simp [hb]
    rw [← this]
    exact wpAny_truthy_bool (by simpa [hb] using hq)
  · have e : (List.range vs.toArray.size).any (fun i => bs.getD i false) = bs.any id := by
      subst hi
      simp only [List.size_toArray, List.length_map]
      rw [Bool.eq_iff_iff, List.any_eq_true, List.any_eq_true]
      constructor
      · rintro ⟨i, hi, q⟩
        have hi' := List.mem_range.mp hi
        exact ⟨bs[i], List.getElem_mem hi', by simpa [hi'] using q⟩
      · rintro ⟨b, hb, q⟩
        obtain ⟨i, hi, rfl⟩ := List.getElem_of_mem hb
        exact ⟨i, List.mem_range.mpr hi, by simpa [hi] using q⟩
    rw [e]
    exact hP h' (S.keeps fun b o e => k b o (fun q => absurd (Heap.lt_size e) (by rw [List.mem_singleton.mp q]; exact Nat.lt_irrefl _)) (Heap.get?_push_of_some _ e))
end
end
/-- a class of the text: it makes plain instances by its own __init__ -/
structure Cls (K : Frag) (C fI : Addr) : Prop where
  makes : makesIn K C = true
  init : findIn K (.ref C) "__init__" = some (some (.ref fI))
  fn : typeIn K (.ref fI) = some (.type "function")
  setattr : findIn K (.ref C) "__setattr__" = some (some (.builtin "object.__setattr__"))
  over : plainOver K C = true
  dict : hasDictIn K C = true
  get : plainGet K C "" = true
  keep : keepIn K (.ref C) = true
/-- a name that the class does not bear -/
noncomputable def Free (K : Frag) (C : Addr) (name : Str) : Prop := findIn K (.ref C) name = some none
theorem Free.taker {K : Frag} {C : Addr} {name : Str} (f : Free K C name) : takerIn K C name = some none := by
  unfold takerIn; rw [show findIn K (.ref C) name = some none from f]; rfl
section
variable {prog : Program} {w : World} {A : Around} {E : Value → Shared → Prop} {s : Shared} {K : Frag} {C fI : Addr}
theorem putL_new {name : Str} {hsh : Int} {key v : Value} : ∀ {es : List DictEntry}, es.any (·.key.isStr name) = false → putL name hsh key v es = es ++ [⟨hsh, key, v⟩]
  | [], _ => rfl
  | e :: r, h => by
    rw [List.any_cons, Bool.or_eq_false_iff] at h
    unfold putL
    rw [h.1, if_neg (by decide), putL_new h.2]; rfl
theorem osa_field {R : Result → Shared → Prop} {x dx : Addr} {es : List DictEntry} {n : Nat} {name : Str} {v : Value} {tk0 : Tok} (c : Cls K C fI) (f : Free K C name) (X : K.In s.heap) (hx : s.heap.get? x = some (instObj C dx)) (hd : s.heap.get? dx = some (dictOf es n))
    (hnew : es.any (·.key.isStr name) = false) (href : es.any (·.refKey) = false) (hz : es.length < 900)
    (h : ∀ h' tk hsh tk2, h'.get? dx = some (dictOf (es ++ [⟨hsh, .str name tk, v⟩]) (n + 1)) → Heap.SameBut dx s.heap h' → R (.ok (.ret .none)) { s with heap := h', toks := tk2 }) :
    codeAny (model prog w) A (.call (.builtin "object.__setattr__") ⟨[.ref x, .str name tk0, v], []⟩) R s := by
  have I : InstAt s.heap x (instObj C dx) C (some (dictOf es n)) := ⟨hx, rfl, rfl, hd⟩
  refine osa_open X I c.over f.taker fun b => ?_
  obtain ⟨cd, hc, hdc⟩ := any_some c.dict
  refine wpAny_bind (wpAny_pure (wpAny_bind (wpAny_bind (wpAny_loadPart hx (wpAny_bind ((looks_clsIn X hc).here ?_))))))
  rw [hdc]
  refine wpAny_pure (a := some dx) (wpAny_bind (wpAny_pure (wpAny_bind ?_)))
  unfold nsSet
  refine wpAny_bind (wpAny_bind (wpAny_askSetting (wpAny_pure (wpAny_bind (wpAny_mkText (wpAny_bind (wpAny_loadPart hd ?_)))))))
  dsimp only
  have c1 : (!es.toArray.any (·.key.isStr name) && es.toArray.any (·.refKey)) = false := by
    rw [← Array.any_toList, ← Array.any_toList]; simp only [href, Bool.and_false]
  rw [aRefKeyMayBeTheName_at, c1]
  refine wpAny_updatePart hd ?_
  have e1 : ∀ hsh key, Obj.putName name hsh key v (dictOf es n) = dictOf (es ++ [⟨hsh, key, v⟩]) (n + 1) := fun hsh key => by
    rw [putName_dict, putL_new hnew]; unfold putN; rw [hnew]; rfl
  have e2 := fun hsh key => Heap.get?_update_self (h := s.heap) (a := dx) (Obj.putName name hsh key v) hd (by rw [e1]; rfl)
  refine wpAny_bind (wpAny_lookBehind (e2 _ _) (by rw [e1]; exact pastItsLine_dict (by simp; rw [sizeLine_eq]; (first | lia | omega))) ?_)
  refine wpAny_pure (h _ _ _ _ ((e2 _ _).trans (congrArg some (e1 _ _))) (Heap.SameBut.update ..))
theorem set_field {x dx : Addr} {es : List DictEntry} {n : Nat} {name : Str} {v : Value} {Q : Unit → Shared → Prop} (c : Cls K C fI) (f : Free K C name) (X : K.In s.heap) (hx : s.heap.get? x = some (instObj C dx)) (hd : s.heap.get? dx = some (dictOf es n))
    (hnew : es.any (·.key.isStr name) = false) (href : es.any (·.refKey) = false) (hz : es.length < 900)
    (h : ∀ h' tk hsh tk2, h'.get? dx = some (dictOf (es ++ [⟨hsh, .str name tk, v⟩]) (n + 1)) → Heap.SameBut dx s.heap h' → Q () { s with heap := h', toks := tk2 }) :
    wpAny (model prog w) A (setAttr (.ref x) name v) Q E s :=
  have I : InstAt s.heap x (instObj C dx) C (some (dictOf es n)) := ⟨hx, rfl, rfl, hd⟩
  set_plain X I c.setattr (osa_field (s := { s with toks := s.toks + 1 }) c f X hx hd hnew href hz fun h' tk hsh tk2 e1 e2 => h h' tk hsh tk2 e1 e2)
end
section
variable {prog : Program} {w : World} {A : Around} {B : Bs} {g g' : Gm} {V V' : List (Addr × Obj)} {env : Env} {m : Str → Option Value} {h h' : Heap} {K : Frag} {mg mb : Str → Option Value} {C fI : Addr}
/-- an object under way: its dict is written, its names are known -/
structure Half (es : List DictEntry) (ns : List Str) (vs : List Value) : Prop where
  flds : FldsAt es ns vs
theorem Half.ref {es ns vs} (H : Half es ns vs) : es.any (·.refKey) = false := by
  rw [List.any_eq_false]
  intro e he
  obtain ⟨s, t, q⟩ := H.flds.str e he
  unfold DictEntry.refKey; rw [q]; exact Bool.false_ne_true
theorem Half.new {es ns vs} (H : Half es ns vs) {name : Str} (hn : name ∉ ns) : es.any (·.key.isStr name) = false := by
  rw [List.any_eq_false]
  intro e he q
  obtain ⟨s, t, q2⟩ := H.flds.str e he
  rw [q2] at q
  have : s = name := by simpa [Value.isStr] using q
  subst this
  refine hn (H.flds.keys ▸ List.mem_map.mpr ⟨e, he, ?_⟩)
  rw [q2]
theorem Half.push {es ns vs} (H : Half es ns vs) (name : Str) (v : Value) (hsh : Int) (tk : Tok) : Half (es ++ [⟨hsh, .str name tk, v⟩]) (ns ++ [name]) (vs ++ [v]) := by
  refine ⟨⟨by rw [List.map_append, H.flds.keys]; rfl, fun e he => ?_, by rw [List.map_append, H.flds.vals]; rfl⟩⟩
  rcases List.mem_append.mp he with he | he
  · exact H.flds.str e he
  · rw [List.mem_singleton.mp he]; exact ⟨_, _, rfl⟩
theorem Half.nil : Half [] [] [] := ⟨⟨rfl, (fun e he => nomatch he), rfl⟩⟩
theorem Half.len {es ns vs} (H : Half es ns vs) : es.length = ns.length := by rw [← H.flds.keys]; simp
/-- self.name = value -/
theorem ev_set_field {o value : Expr} {name : Str} {pos' pos : Pos} {P : Flow → Heap → Prop}
    (x : Ev prog w A (eval value env) h fun v h1 => Ev prog w A (eval o env) h1 fun ov h2 => Ev prog w A (setAttr ov name v) h2 fun _ => P .next)
    (hs : swapsWith value (some (.Attribute o name pos')) pos.line env = Pure.pure false := by rfl) : Ev prog w A (exec (.Assign [.Attribute o name pos'] value pos) env) h P := fun s E hsh =>
  plainObj_wpAny_Assign_Attribute (x.use hsh (Same.refl s) fun _ _ h1 y => y.use rfl h1 fun _ _ h2 z => z.use rfl h2 fun _ _ h3 q => ⟨h3, q⟩) hs
theorem ev_setattr {x dx : Addr} {es : List DictEntry} {n : Nat} {ns : List Str} {vs : List Value} {name : Str} {v : Value} {V' : List (Addr × Obj)} {P : Unit → Heap → Prop} (S : St B g V env m h) (Cc : Cx K mg mb B.hb) (c : Cls K C fI) (f : Free K C name) (hx : g x = some (instObj C dx))
    (u : ∀ o', VU dx (dictOf es n) o' V ((dx, o') :: V')) (H : Half es ns vs) (hn : name ∉ ns) (hz : ns.length < 900)
    (hP : ∀ h' es' , Half es' (ns ++ [name]) (vs ++ [v]) → St B g ((dx, dictOf es' (n + 1)) :: V') env m h' → P () h') : Ev prog w A (setAttr (.ref x) name v) h P := fun s E hs => by
  subst hs
  refine set_field c f (Cc.X.keeps S.hbk) (S.frz _ _ hx) (S.getV (u (dictOf es n)).mem) (H.new hn) H.ref (by rw [H.len]; (first | lia | omega)) fun h' tk hsh tk2 e1 e2 => ⟨⟨rfl, rfl⟩, ?_⟩
  exact hP h' _ (H.push name v hsh tk) (S.upd (u _) e2 e1 (fun v e => nomatch e))
/-- an attribute of an object that stands -/
theorem ev_field {v : Value} {ds : List D} {ns : List Str} {name : Str} {i : Nat} {d : D} {P : Value → Heap → Prop} (S : St B g V env m h) (Cc : Cx K mg mb B.hb) (c : Cls K C fI) (f : Free K C name) (hv : Is prog w g v (.obj C (ns.zip ds)))
    (hln : ns.length = ds.length) (hnd : ns.Nodup) (hi : ns[i]? = some name) (hd : ds[i]? = some d) (hany : d ≠ .any) (hP : ∀ u, Is prog w g u d → P u h) : Ev prog w A (getAttr v name true) h P := fun s E hs => by
  subst hs
  generalize hz : ns.zip ds = zs at hv
  cases hv with
  | @obj x dx es n _ ns' vs ds' hx hdx F iss =>
    have hl1 : ns'.length = ds'.length := by
      rw [← iss.length, ← F.vals, ← F.keys]; simp
    have e1 : ns = ns' := by have := congrArg (List.map Prod.fst) hz; rwa [List.map_fst_zip (Nat.le_of_eq hln), List.map_fst_zip (Nat.le_of_eq hl1)] at this
    have e2 : ds = ds' := by have := congrArg (List.map Prod.snd) hz; rwa [List.map_snd_zip (Nat.le_of_eq hln.symm), List.map_snd_zip (Nat.le_of_eq hl1.symm)] at this
    subst e1 e2
    obtain ⟨u, hu, iu⟩ := iss.get' hd
    have H : Half es ns vs := ⟨F⟩
    have hgl : getL name es = some (some u) := by
      have key : ∀ (es : List DictEntry) (ns : List Str) (vs : List Value) (i : Nat), FldsAt es ns vs → ns.Nodup → ns[i]? = some name → vs[i]? = some u → es.find? (·.key.isStr name) = some (es.getD i default) ∧ (es.getD i default).val = u := by
        intro es
        induction es with
        | nil => intro ns vs i F nd h1 h2; rw [← F.keys] at h1; simp at h1
        | cons e r ih =>
          intro ns vs i F nd h1 h2
          obtain ⟨sx, tx, q⟩ := F.str e (.head _)
          have k := F.keys
          have vv := F.vals
          rw [List.map_cons] at k vv
          rw [q] at k
          dsimp only at k
          subst k; subst vv
          rw [List.nodup_cons] at nd
          cases i with
          | zero =>
            simp only [List.getElem?_cons_zero, Option.some.injEq] at h1 h2
            subst h1
            refine ⟨?_, h2⟩
            rw [List.find?_cons_of_pos (by rw [q]; simp [Value.isStr])]; rfl
          | succ j =>
            simp only [List.getElem?_cons_succ] at h1 h2
            have hne : sx ≠ name := fun e0 => nd.1 (e0 ▸ List.mem_of_getElem? h1)
            obtain ⟨a, b⟩ := ih _ _ j ⟨rfl, fun e he => F.str e (.tail _ he), rfl⟩ nd.2 h1 h2
            refine ⟨?_, by simpa using b⟩
            rw [List.find?_cons_of_neg (by rw [q]; simp [Value.isStr, hne])]
            simpa using a
      obtain ⟨a, b⟩ := key es ns vs i F hnd hi hu
      unfold getL; rw [a]; dsimp only; rw [b]
    have hh : handedIn u = true := by
      cases iu <;> first | rfl | exact absurd rfl hany
    have I : InstAt s.heap x (instObj C dx) C (some (dictOf es n)) := ⟨S.frz _ _ hx, rfl, rfl, S.frz _ _ hdx⟩
    refine get_value (Cc.X.keeps S.hbk) I (plainGet_of c.get).1 (findObj_own c.dict f rfl (by rw [lookIn_dict]; exact hgl)) hh ⟨Same.mk' s _ _, hP u iu⟩
/-- a method of an object -/
theorem ev_getm_inst {v : Value} {fs : List (Str × D)} {name : Str} {f : Addr} {pl : Sem Bool} {P : Value × List Value → Heap → Prop} (S : St B g V env m h) (Cc : Cx K mg mb B.hb) (c : Cls K C fI) (hv : Is prog w g v (.obj C fs))
    (hf : findIn K (.ref C) name = some (some (.ref f))) (ht : typeIn K (.ref f) = some (.type "function")) (hn : name ∉ fs.map (·.1)) (hq : P (.ref f, [v]) h) : Ev prog w A (getMethod v name pl) h P := fun s E hs => by
  subst hs
  cases hv with
  | @obj x dx es n _ ns vs ds hx hdx F iss =>
    have hl1 : ns.length = ds.length := by
      rw [← iss.length, ← F.vals, ← F.keys]; simp
    rw [List.map_fst_zip (Nat.le_of_eq hl1)] at hn
    have H : Half es ns vs := ⟨F⟩
    have I : InstAt s.heap x (instObj C dx) C (some (dictOf es n)) := ⟨S.frz _ _ hx, rfl, rfl, S.frz _ _ hdx⟩
    have h1 := H.new hn
    have hgl : getL name es = some none := by
      unfold getL
      rw [List.find?_eq_none.mpr (by rw [List.any_eq_false] at h1; exact h1)]
      dsimp only
      rw [H.ref]; rfl
    refine method_fn (Cc.X.keeps S.hbk) I (plainGet_of c.get).1 (plainGet_of c.get).2 hf ht ?_ ⟨Same.refl s, hq⟩
    show (lookIn name (dictOf es n)).map _ = _
    rw [lookIn_dict, hgl]; rfl
/-- a def of the text as a code, its arguments bound by the heap (defaults) -/
noncomputable def EvK (prog : Program) (w : World) (A : Around) (c : Code) (h : Heap) (P : Value → Heap → Prop) : Prop :=
  ∀ s : Shared, s.heap = h → codeAny (model prog w) A c (fun r s' => ∃ v, r = .ok (.ret v) ∧ Same s s' ∧ P v s'.heap) s
theorem EvK.call {f : Value} {vals : List Value} {P : Value → Heap → Prop} (x : EvK prog w A (.call f ⟨vals, []⟩) h P) : Ev prog w A (call f vals) h P := fun s E hs =>
  wpAny_call (codeAny_mono (x s hs) fun r s' ⟨v, e, y, z⟩ => by subst e; exact ⟨y, z⟩)
theorem codeAny_call_cellsB {s : Shared} {R : Result → Shared → Prop} {a : Addr} {o : Obj} {fd : FuncData} {body : List Stmt} {args : Args} {binds : List (Str × Value)}
    (hroom : A.depth < recursionLimit) (ho : s.heap.get? a = some o) (hdata : o.data = .func fd) (hlim : s.heap.NoLimit) (hcd : s.heap.CodeRec fd.code fd.qualname)
    (hbody : fd.body = .stmts body) (hbind : BindsTo s fd args binds) (hclo : fd.closure = [])
    (hkind : ∀ x ∈ binds, fd.scope.names.lookup x.1 = some .local ∨ (fd.scope.names.lookup x.1 = some .cell ∧ ((cellsFrom (s.heap.objs.size + 1) fd.scope.names []).lookup x.1).isSome = true))
    (hq : ∀ s₁, InCallC s (callEnvC fd s.heap.objs.size a).locals (bindL (callEnvC fd s.heap.objs.size a).kindOf binds fun _ => none) (callEnvC fd s.heap.objs.size a).cells
        (bindC (callEnvC fd s.heap.objs.size a).kindOf binds fun _ => none) s₁ →
      wpAny (model prog w) (A.deeper (callEnvC fd s.heap.objs.size a)) (execs body (callEnvC fd s.heap.objs.size a)) (fun f s' => R (.ok (.ret (match f with | .ret v => v | _ => .none))) s')
        (fun e s' => wpAny (model prog w) (A.deeper (callEnvC fd s.heap.objs.size a)) (leaving (callEnvC fd s.heap.objs.size a) e) (fun _ s'' => R (.error e) s'') (fun e' s'' => R (.error e') s'') s') s₁)
    (hco : fd.scope.isCoroutine = false) (hgen : fd.scope.isGenerator = false) (hk : fd.scope.kind = .function) :
    codeAny (model prog w) A (.call (.ref a) args) R s := by
  refine codeAny_call_function hroom ho hdata hco hgen hbody hcd (hbind _ _ _ _ ?_)
  rw [hclo]
  refine wpAny_newFunctionEnv_cells hk hkind fun env he s' x => ?_
  subst he
  exact ⟨hlim.keeps x.toInCall.keep, codeAny_func (hq s' x)⟩
theorem evk_fn {hb : Heap} {a : Addr} {fd : FuncData} {body : List Stmt} {args : Args} {binds : List (Str × Value)} {P : Value → Heap → Prop} (C : Cx K mg mb hb) (Fn : FnAt hb a fd) (hroom : A.depth < recursionLimit)
    (hfrz : ∀ b o, g b = some o → h.get? b = some o) (hbg : ∀ b o, hb.get? b = some o → g b = some o) (Wv : Wr g V h)
    (hbody : fd.body = .stmts body) (hbind : ∀ s : Shared, s.heap = h → BindsTo s fd args binds)
    (hkind : ∀ n, ∀ x ∈ binds, fd.scope.names.lookup x.1 = some .local ∨ (fd.scope.names.lookup x.1 = some .cell ∧ ((cellsFrom n fd.scope.names []).lookup x.1).isSome = true))
    (hck : cellsKinds fd.scope.names = true)
    (hB : ∀ L h₁, St (fnBs hb g h (V.map (·.1)) (callEnvC fd L a)) g V (callEnvC fd L a) (bindA binds fun _ => none) h₁ →
      Ev prog w (A.deeper (callEnvC fd L a)) (execs body (callEnvC fd L a)) h₁ (fun f h' => P (backOf f) h'))
    (hco : fd.scope.isCoroutine = false := by rfl) (hgen : fd.scope.isGenerator = false := by rfl) (hk : fd.scope.kind = .function := by rfl) :
    EvK prog w A (.call (.ref a) args) h P := fun s hs => by
  subst hs
  obtain ⟨⟨o, ho, hd⟩, hcode, hclo⟩ := Fn
  have kk : ∀ b o, hb.get? b = some o → s.heap.get? b = some o := fun b o e => hfrz b o (hbg b o e)
  refine codeAny_call_cellsB (fd := fd) hroom (kk _ _ ho) hd (C.NL.keeps kk) (hcode.keeps kk) hbody (hbind s rfl) hclo (hkind _) (fun s₁ X => ?_) hco hgen hk
  obtain ⟨⟨h₁, tk, es⟩, hn, hkp, hfr⟩ := X.toInCall
  have eL : (callEnvC fd s.heap.objs.size a).locals = s.heap.objs.size := rfl
  have hnew : ∀ b, (callEnvC fd s.heap.objs.size a).locals ≤ b → s.heap.get? b = none := fun b hb => fresh_none (by rw [eL] at hb; exact hb)
  have own_none : ∀ b, fnOwn (callEnvC fd s.heap.objs.size a).locals (callEnvC fd s.heap.objs.size a).cells b → s.heap.get? b = none := fun b hb => by
    rcases hb with rfl | ⟨n, hn'⟩
    · exact hnew _ (Nat.le_refl _)
    · exact hnew _ (Nat.le_of_lt (X.above n b (mem_of_lookup hn')))
  have S : St (fnBs hb g s.heap (V.map (·.1)) (callEnvC fd s.heap.objs.size a)) g V (callEnvC fd s.heap.objs.size a) (bindA binds fun _ => none) s₁.heap := by
    refine { base := hbg, fm := ⟨⟨_, hn, fun x hx => bindL_eq binds _ _ (fun _ _ => rfl) x hx⟩, fun x c hc => ?_, fun x y c hx hy => name_of_addr X.apart (mem_of_lookup hx) (mem_of_lookup hy)⟩, le := GLe.refl g, frz := fun b o e => hkp b o (hfrz b o e),
             new := fun b o e => .inl e, keep := fun b o e _ => hkp b o e, vol := fun p hp => hkp _ _ (Wv.vol p hp), volg := Wv.off, vol0 := fun p hp => .inr (List.mem_map.mpr ⟨p, hp, rfl⟩), nocell := Wv.nocell, nd := Wv.nd, WV := fun b hb => hb,
             ownL := .inl rfl, own := fun b hb => ?_, kind := hk }
    · have hkc : (callEnvC fd s.heap.objs.size a).kindOf x = some .cell := cellsKinds_of hck hc
      have := X.cell x c hc
      rw [bindC_eq binds (fun _ => none) (fun _ => none) (fun _ _ => rfl) x (by rw [hkc]; decide)] at this
      exact this
    · have hnone := own_none b hb
      refine ⟨?_, hnone, fun hm => ?_, fun hm => ?_, ?_⟩
      · cases q : g b with
        | none => rfl
        | some o' => have := hfrz b o' q; rw [hnone] at this; cases this
      · obtain ⟨p, hp, rfl⟩ := List.mem_map.mp hm
        have := Wv.vol p hp; rw [hnone] at this; cases this
      · obtain ⟨p, hp, rfl⟩ := List.mem_map.mp hm
        have := Wv.vol p hp; rw [hnone] at this; cases this
      · rcases hb with rfl | ⟨n, hn'⟩
        · obtain ⟨ob, _, _, e, _⟩ := hn
          rw [e]; rfl
        · obtain ⟨ob, e, _⟩ := X.cell n b hn'
          rw [e]; rfl
  have hsame : Same s s₁ := by rw [es]; exact ⟨rfl, rfl⟩
  exact (hB s.heap.objs.size s₁.heap S).use rfl hsame fun f s' h1 z => ⟨backOf f, rfl, h1, z⟩
/-- a class is called -/
theorem ev_make {vals : List Value} {P : Value → Heap → Prop} (S : St B g V env m h) (Cc : Cx K mg mb B.hb) (c : Cls K C fI)
    (hq : ∀ x dx g1 h1, GLe g g1 → g1 x = some (instObj C dx) → dx ∉ B.W → St B g1 ((dx, dictOf [] 0) :: V) env m h1 →
      EvK prog w (A.under (.builtin "type.__call__" ⟨.ref C :: vals, []⟩)) (.call (.ref fI) ⟨.ref x :: vals, []⟩) h1 fun r h2 => r = .none ∧ P (.ref x) h2) :
    Ev prog w A (call (.ref C) vals) h P := fun s E hs => by
  subst hs
  have X := Cc.X.keeps S.hbk
  refine wpAny_call ?_
  obtain ⟨hp, g0, d, t, os⟩ := s
  refine make_core (makes_of X c.makes) (looks_findIn X c.init) (fun self => bind_fn X self c.fn) (.inl rfl) ?_
  have S1 := S.push_vol (dictOf [] 0) rfl (fun v e => nomatch e)
  obtain ⟨g1, le, hg1, S2⟩ := S1.push_frz (instObj C hp.objs.size) rfl
  have e0 : (hp.push (dictOf [] 0)).objs.size = hp.objs.size + 1 := Heap.size_push ..
  rw [e0] at hg1
  have hdW : hp.objs.size ∉ B.W := (S.off (fresh_none (Nat.le_refl _))).2.2.2
  have := hq (hp.objs.size + 1) hp.objs.size g1 _ le hg1 hdW S2
  refine codeAny_mono (this ⟨_, g0, d, t, os⟩ rfl) fun r s' ⟨v, e, sm, q1, q2⟩ => ?_
  subst e
  exact ⟨q1, sm, q2⟩
end
section
variable {prog : Program} {w : World} {A : Around} {E : Value → Shared → Prop} {s : Shared}
/-- sorted over strs -/
theorem sorted_ofS {v : Value} {Q : Value → Shared → Prop}
    (hc : ∀ (A' : Around), A'.handled = A.handled → ∀ (Q' : List Value → Shared → Prop), (∀ h' tk d vs ys, (∀ b o, s.heap.get? b = some o → h'.get? b = some o) → StrsAre vs ys → vs.length < 64 →
        (∀ D h'' vs' zs c, (∀ b o, s.heap.get? b = some o → h''.get? b = some o) → s.heap.get? D = none → h''.get? D = some (lobj vs' c) → StrsAre vs' zs → zs.Perm ys → sortedS zs = true → Q (.ref D) { s with heap := h'', toks := tk, drawn := d }) →
        Q' vs { s with heap := h', toks := tk, drawn := d }) → wpAny (model prog w) A' (collect v) Q' E s) :
    wpAny (model prog w) A (call (.builtin "sorted") [v]) Q E s := by
  refine Calls.call_function_entry kind_sorted plain_sorted entry_sorted (args_sorted1 _) ?_
  unfold Builtin.«sorted»
  refine wpAny_bind (m := checkCount "sorted" 1 1 _) (wpAny_pure ?_)
  refine wpAny_bind (hc A.in1 rfl _ fun h' tk d vs ys k hi h64 fin => ?_)
  refine wpAny_bind (wpAny_newList ?_ (by rw [sizeLine_eq]; (first | lia | omega)))
  have hoL : (h'.push (seqObj "list" vs.toArray 0)).get? h'.objs.size = some (seqObj "list" vs.toArray 0) := Heap.get?_push_size _ rfl
  refine wpAny_bind (wpAny_holding (wpAny_call_entry slot_list_sort ⟨_, hoL, rfl⟩ entry_list_sort (list_sort_treeK PyProof.Rows.strKind_oneLt hoL hi.keysOf (fun v₁ v₂ rest e => keyKind_strs (by rw [← e]; exact hi)) h64 fun st' hp hs => ⟨_, rfl, ?_⟩) (args_list_sort _)))
  obtain ⟨ss', a1, a2, a3⟩ := sorted_out_str hi hp hs
  generalize hout : (arrOf st').map (·.2) = out at a1 ⊢
  obtain ⟨e, he⟩ := sortedHeap_at (h := h'.push (seqObj "list" vs.toArray 0)) (out := out) hoL
  refine wpAny_pure ⟨_, rfl, fin h'.objs.size _ out.toList ss' e (fun b o q => ?_) ?_ (by rw [he]; simp [lobj]) a1 a2 a3⟩
  · have hb := Heap.lt_size (k b o q)
    have e1 : (sortedHeap (h'.push (seqObj "list" vs.toArray 0)) h'.objs.size vs out).get? b = (h'.push (seqObj "list" vs.toArray 0)).get? b := sortedHeap_old (Nat.ne_of_lt hb) (by rw [size_push']; exact Nat.lt_succ_of_lt hb)
    show (sortedHeap (h'.push (seqObj "list" vs.toArray 0)) h'.objs.size vs out).get? b = some o
    rw [e1]
    exact Heap.get?_push_of_some _ (k b o q)
  · cases q : s.heap.get? h'.objs.size with
    | none => rfl
    | some o' => exact absurd (Heap.lt_size (k _ _ q)) (Nat.lt_irrefl _)
end
section
variable {prog : Program} {w : World} {A : Around} {B : Bs} {g g' : Gm} {V V' : List (Addr × Obj)} {env : Env} {m : Str → Option Value} {h h' : Heap} {K : Frag} {mg mb : Str → Option Value}
variable {KT : Type} [DecidableEq KT] {knd : KeyKind prog w KT}
theorem St.freshSys (S : St B g V env m h) (hsm : ∃ a o, sysModules < a ∧ B.hb.get? a = some o) {D : Addr} (hD : h.objs.size ≤ D) : (D == sysModules) = false := by
  obtain ⟨a, o, ha, ho⟩ := hsm
  have := Heap.lt_size (S.hbk _ _ ho)
  rw [beq_eq_false_iff_ne]
  exact fun e => absurd (Nat.lt_of_lt_of_le (Nat.lt_trans ha this) hD) (by rw [e]; exact Nat.lt_irrefl _)
theorem dictOf_nil {h : Heap} {D : Addr} (e : h.get? D = some (dictOf [] 0)) : h.DictOf knd D [] := by
  rw [Heap.dictOf_iff]
  have e2 := (Heap.DictOf.new (knd := knd) h)
  rw [Heap.dictOf_iff] at e2
  obtain ⟨o, ho, hi⟩ := e2
  have : o = dictOf [] 0 := by
    rw [Heap.get?_push_size _ rfl] at ho; cases ho; rfl
  subst this
  exact ⟨_, e, hi⟩
theorem ev_pairs_nil {P : List (Value × Value) → Heap → Prop} (x : P [] h) : Ev prog w A (evalPairs []) h P := fun s E hs => evalPairs_nil ⟨Same.refl s, by rw [hs]; exact x⟩
theorem ev_pairs_cons {k v : Sem Value} {rest : List (Sem Value × Sem Value)} {P : List (Value × Value) → Heap → Prop} (x : Ev prog w A k h fun kv h1 => Ev prog w A v h1 fun vv h2 => Ev prog w A (evalPairs rest) h2 fun vs => P ((kv, vv) :: vs)) : Ev prog w A (evalPairs ((k, v) :: rest)) h P := fun s E hs =>
  evalPairs_cons (x.use hs (Same.refl s) fun _ _ h1 y => y.use rfl h1 fun _ _ h2 z => z.use rfl h2 fun _ _ h3 q => ⟨h3, q⟩)
theorem ev_then_stand {t : Sem Value} {pos : Pos} {P : Value → Heap → Prop} (x : Ev prog w A t h P) : Ev prog w A (do let x ← t; standAt pos; Pure.pure x) h P := fun s E hs =>
  wpAny_bind (x.use hs (Same.refl s) fun _ _ h1 y => wpAny_bind (wpAny_standAt (wpAny_pure ⟨h1, y⟩)))
theorem ev_dict {keys : List (Option Expr)} {values : List Expr} {pos : Pos} {pairs : List (Sem Value × Sem Value)} {P : Value → Heap → Prop} (knd : KeyKind prog w KT) (S : St B g V env m h) (hsm : ∃ a o, sysModules < a ∧ B.hb.get? a = some o)
    (hshape : (evalEachOpt keys env).zip ((evalEach values env).map fun v => do let x ← v; standAt pos; Pure.pure x) = pairs.map fun p => (some p.1, p.2)) (h0 : pairs ≠ []) (hlen : pairs.length ≤ 15)
    (x : ∀ D h1, D ∉ B.W → St B g ((D, dictOf [] 0) :: V) env m h1 → Ev prog w A (evalPairs pairs) h1 fun vs h2 => ∃ kvs g' m' V', Carries knd vs kvs ∧ GLe g g' ∧ St B g' ((D, dictOf [] 0) :: V') env m' h2 ∧
      ∀ g'' h3 o, GLe g' g'' → g'' D = some o → (D == sysModules) = false → o.IsDictOf knd (merged [] kvs) → St B g'' V' env m' h3 → P (.ref D) h3) :
    Ev prog w A (eval (.Dict keys values pos) env) h P := fun s E hs => by
  subst hs
  have hfr : s.heap.get? s.heap.objs.size = none := fresh_none (Nat.le_refl _)
  have hDW := (S.off hfr).2.2.2
  have hsys := S.freshSys hsm (Nat.le_refl _)
  refine wpAny_Dict_pairs (knd := knd) hshape h0 hlen ?_
  refine (x s.heap.objs.size _ hDW (S.push_vol (dictOf [] 0) rfl (fun v e => nomatch e))).use rfl ⟨rfl, rfl⟩ fun vs s2 h2 ⟨kvs, g', m', V', hc, le, S2, fin⟩ => ?_
  refine ⟨kvs, hc, dictOf_nil (S2.getV (.head _)), fun h3 hm hsb => ⟨⟨h2.1, h2.2⟩, ?_⟩⟩
  rw [Heap.dictOf_iff] at hm
  obtain ⟨o, ho, hi⟩ := hm
  obtain ⟨es, ep, a1, a2, a3⟩ := id hi
  have S3 := S2.upd .head hsb ho (fun v e => by rw [a2] at e; cases e)
  obtain ⟨g'', le', hg, S4⟩ := S3.freeze .head hDW
  exact fin g'' _ o le' hg hsys hi S4
theorem ev_dict_nil {pos : Pos} {P : Value → Heap → Prop} (x : P (.ref h.objs.size) (h.push (dictOf [] 0))) : Ev prog w A (eval (.Dict [] [] pos) env) h P := fun s E hs => by
  subst hs
  exact wpAny_Dict_empty ⟨⟨rfl, rfl⟩, x⟩
/-- d[k] = v -/
theorem ev_setitem_dict {D : Addr} {o : Obj} {kvs : List (KT × Value)} {k : KT} {key v : Value} {P : Unit → Heap → Prop} (hkey : knd.is k key = true) (ho : h.get? D = some o) (hi : o.IsDictOf knd kvs) (hsz : kvs.length < 100000)
    (hP : ∀ h' o', h'.get? D = some o' → o'.IsDictOf knd (stored kvs k v) → Heap.SameBut D h h' → P () h') : Ev prog w A (setItem (.ref D) key v) h P := fun s E hs => by
  subst hs
  refine wpAny_setItem_pairs hkey (Heap.dictOf_iff.mpr ⟨o, ho, hi⟩) (fun h' hm hsb => ⟨⟨rfl, rfl⟩, ?_⟩) (by rw [sizeLine_eq]; (first | lia | omega))
  obtain ⟨o', ho', hi'⟩ := Heap.dictOf_iff.mp hm
  exact hP h' o' ho' hi' hsb
theorem ev_item_dict {value slice : Expr} {D : Addr} {o : Obj} {kvs : List (KT × Value)} {k : KT} {key v : Value} {P : Value → Heap → Prop} (hkey : knd.is k key = true) (ho : h.get? D = some o) (hi : o.IsDictOf knd kvs) (hv : valueAt kvs k = some v)
    (x : P v h) (hs : subscripted slice false (.ref D) key = operate [.ref D, key] (getItem (.ref D) key) := by with_unfolding_all rfl) : Ev prog w A (subscriptTail value slice (.ref D) key) h P := fun s E hsh => by
  subst hsh
  have hm : s.heap.DictOf knd D kvs := Heap.dictOf_iff.mpr ⟨o, ho, hi⟩
  exact tail_any hm.typeIs PySem.slot_dict_getitem.lookup (wpAny_getItem_of hkey hm.mapOf hv ⟨Same.mk' s _ _, x⟩) hs
theorem keys_are_ints {kvs : List (Int × Value)} : ∀ {vs : List Value}, vs.length = kvs.length → (∀ (j : Nat) (v : Value), vs[j]? = some v → ∃ k x, kvs[j]? = some (k, x) ∧ (intKind prog w).is k v = true) → IntsAre vs (kvs.map (·.1)) := by
  induction kvs with
  | nil => intro vs hl _; have : vs = [] := List.length_eq_zero_iff.mp hl; subst this; exact .nil
  | cons p r ih =>
    intro vs hl h
    cases vs with
    | nil => cases hl
    | cons v vs =>
      obtain ⟨k, x, e, hk⟩ := h 0 v rfl
      simp only [List.getElem?_cons_zero, Option.some.injEq] at e
      subst e
      obtain ⟨t, rfl⟩ := Value.isInt_shape hk
      exact .cons k t (ih (by simpa using hl) fun j v hv => by simpa using h (j + 1) v (by simpa using hv))
theorem keys_are_strs {kvs : List (Str × Value)} : ∀ {vs : List Value}, vs.length = kvs.length → (∀ (j : Nat) (v : Value), vs[j]? = some v → ∃ k x, kvs[j]? = some (k, x) ∧ (PySem.strKind prog w).is k v = true) → StrsAre vs (kvs.map (·.1)) := by
  induction kvs with
  | nil => intro vs hl _; have : vs = [] := List.length_eq_zero_iff.mp hl; subst this; exact .nil
  | cons p r ih =>
    intro vs hl h
    cases vs with
    | nil => cases hl
    | cons v vs =>
      obtain ⟨k, x, e, hk⟩ := h 0 v rfl
      simp only [List.getElem?_cons_zero, Option.some.injEq] at e
      subst e
      obtain ⟨t, rfl⟩ := Value.isStrOf_shape hk
      exact .cons k t (ih (by simpa using hl) fun j v hv => by simpa using h (j + 1) v (by simpa using hv))
theorem ev_sorted_dicti {D : Addr} {o : Obj} {kvs : List (Int × Value)} {P : Value → Heap → Prop} (S : St B g V env m h) (hh : A.handled = none) (hs : (D == sysModules) = false) (ho : h.get? D = some o) (hi : o.IsDictOf (intKind prog w) kvs) (hsz : kvs.length < 64)
    (hP : ∀ R g' h' zs, GLe g g' → Is prog w g' (.ref R) (.list (iL zs)) → zs.Pairwise (· ≤ ·) → zs.Perm (kvs.map (·.1)) → St B g' V env m h' → P (.ref R) h') : Ev prog w A (call (.builtin "sorted") [.ref D]) h P := fun s E hsh => by
  subst hsh
  have hm : s.heap.DictOf (intKind prog w) D kvs := Heap.dictOf_iff.mpr ⟨o, ho, hi⟩
  obtain ⟨ep, hat⟩ := hm.dictAt
  refine sorted_of fun A' hA Q' fin => kdu_collect (kdl_dict (knd := intKind prog w) (kvs := kvs) (ep := ep) hs) (hA.trans hh) hat (by rw [sizeLine_eq]; (first | lia | omega)) fun h' tk acc hk hacc => ?_
  have hl : acc.toList.length = kvs.length := by rw [Array.length_toList]; exact hacc.1
  refine fin h' tk s.drawn acc.toList (kvs.map (·.1)) hk (keys_are_ints (prog := prog) (w := w) hl fun j v e => hacc.2 j v (by rw [← Array.getElem?_toList]; exact e)) (by (first | lia | omega)) fun D h'' vs' zs c kp hD hD2 hi2 hp hs => ⟨⟨rfl, rfl⟩, ?_⟩
  obtain ⟨g', le, hg', S'⟩ := S.grow1 kp hD hD2
  exact hP D g' h'' zs le (.list hg' (iss_of_ints hi2)) hs hp S'
theorem iss_of_strs {g : Gm} : ∀ {vs xs}, StrsAre vs xs → Iss prog w g vs (xs.map .str)
  | _, _, .nil => .nil
  | _, _, .cons n t h => .cons .str (iss_of_strs h)
theorem ev_sorted_dicts {D : Addr} {o : Obj} {kvs : List (Str × Value)} {P : Value → Heap → Prop} (S : St B g V env m h) (hh : A.handled = none) (hs : (D == sysModules) = false) (ho : h.get? D = some o) (hi : o.IsDictOf (PySem.strKind prog w) kvs) (hsz : kvs.length < 64)
    (hP : ∀ R g' h' zs, GLe g g' → Is prog w g' (.ref R) (.list (zs.map .str)) → sortedS zs = true → zs.Perm (kvs.map (·.1)) → St B g' V env m h' → P (.ref R) h') : Ev prog w A (call (.builtin "sorted") [.ref D]) h P := fun s E hsh => by
  subst hsh
  have hm : s.heap.DictOf (PySem.strKind prog w) D kvs := Heap.dictOf_iff.mpr ⟨o, ho, hi⟩
  obtain ⟨ep, hat⟩ := hm.dictAt
  refine sorted_ofS fun A' hA Q' fin => kdu_collect (kdl_dict (knd := PySem.strKind prog w) (kvs := kvs) (ep := ep) hs) (hA.trans hh) hat (by rw [sizeLine_eq]; (first | lia | omega)) fun h' tk acc hk hacc => ?_
  have hl : acc.toList.length = kvs.length := by rw [Array.length_toList]; exact hacc.1
  refine fin h' tk s.drawn acc.toList (kvs.map (·.1)) hk (keys_are_strs (prog := prog) (w := w) hl fun j v e => hacc.2 j v (by rw [← Array.getElem?_toList]; exact e)) (by (first | lia | omega)) fun D h'' vs' zs c kp hD hD2 hi2 hp hs => ⟨⟨rfl, rfl⟩, ?_⟩
  obtain ⟨g', le, hg', S'⟩ := S.grow1 kp hD hD2
  exact hP D g' h'' zs le (.list hg' (iss_of_strs hi2)) hs hp S'
end
/-! ## the text's defs -/
noncomputable def stmtAt (i : Nat) : Stmt := PySem.Challenge.pw_nu0168_01.main.body.getD i (.Pass default)
structure Fd where
  params : Arguments
  body : List Stmt
  scope : Scope
noncomputable def fdOf : Stmt → Fd
  | .FunctionDef _ a b _ _ _ s _ _ _ => ⟨a, b, s⟩
  | _ => ⟨⟨[], [], none, [], [], none, []⟩, [], default⟩
noncomputable def inCls (j : Nat) : Stmt → Stmt
  | .ClassDef _ _ _ b _ _ _ _ _ _ _ => b.getD j (.Pass default)
  | _ => .Pass default
noncomputable abbrev Fd.fn (d : Fd) (name qual : Str) (dV : Value) (doc pm : Value) (an : Option Addr) (cdv ct : Value) : FuncData := fnOf name qual d.params d.body d.scope dV .none doc pm an cdv ct
noncomputable def d_draw : Fd := fdOf (stmtAt 31)
noncomputable def d_source : Fd := fdOf (stmtAt 32)
noncomputable def d_ways : Fd := fdOf (stmtAt 33)
noncomputable def d_longest : Fd := fdOf (stmtAt 34)
noncomputable def d_told : Fd := fdOf (stmtAt 35)
noncomputable def d_law : Fd := fdOf (stmtAt 36)
noncomputable def d_lookups_of : Fd := fdOf (stmtAt 11)
noncomputable def d_findings_of : Fd := fdOf (stmtAt 15)
noncomputable def d_next : Fd := fdOf (stmtAt 16)
noncomputable def d_reached : Fd := fdOf (stmtAt 17)
noncomputable def d_rings : Fd := fdOf (stmtAt 18)
noncomputable def d_depths : Fd := fdOf (stmtAt 19)
noncomputable def d_behind : Fd := fdOf (stmtAt 20)
noncomputable def d_langsys : Fd := fdOf (stmtAt 21)
noncomputable def d_number : Fd := fdOf (stmtAt 22)
noncomputable def d_Lookup : Fd := fdOf (inCls 0 (stmtAt 3))
noncomputable def d_Rule : Fd := fdOf (inCls 0 (stmtAt 8))
noncomputable def d_Contexts : Fd := fdOf (inCls 0 (stmtAt 9))
noncomputable def d_Finding : Fd := fdOf (inCls 0 (stmtAt 14))
noncomputable def d_Single : Fd := fdOf (inCls 0 (stmtAt 24))
noncomputable def d_LangSys : Fd := fdOf (inCls 0 (stmtAt 26))
noncomputable def d_Script : Fd := fdOf (inCls 0 (stmtAt 27))
noncomputable def d_Feature : Fd := fdOf (inCls 0 (stmtAt 28))
noncomputable def d_Layout : Fd := fdOf (inCls 0 (stmtAt 29))
noncomputable def d_Frules : Fd := fdOf (inCls 3 (stmtAt 9))
noncomputable def d_Ftold : Fd := fdOf (inCls 1 (stmtAt 14))
/-- where the defs and classes stand -/
structure Ads where
  draw : Addr
  source : Addr
  ways : Addr
  longest : Addr
  told : Addr
  lookups_of : Addr
  findings_of : Addr
  next : Addr
  reached : Addr
  rings : Addr
  depths : Addr
  behind : Addr
  langsys : Addr
  number : Addr
  Lookup : Addr
  Rule : Addr
  Contexts : Addr
  Finding : Addr
  Single : Addr
  LangSys : Addr
  Script : Addr
  Feature : Addr
  Layout : Addr
  iLookup : Addr
  iRule : Addr
  iContexts : Addr
  iFinding : Addr
  iSingle : Addr
  iLangSys : Addr
  iScript : Addr
  iFeature : Addr
  iLayout : Addr
  Frules : Addr
  Ftold : Addr
  dContexts : Addr
/-- a def stands -/
noncomputable def At (hb : Heap) (d : Fd) (name qual : Str) (a : Addr) : Prop := ∃ doc pm an cdv ct, FnAt hb a (d.fn name qual .none doc pm an cdv ct)
noncomputable def Frees (K : Frag) (C : Addr) (ns : List Str) : Prop := ∀ n ∈ ns, Free K C n
noncomputable def fLookup : List Str := ["kind", "flag", "mark_set", "tables"]
noncomputable def fRule : List Str := ["back", "inside", "ahead", "actions"]
noncomputable def fContexts : List Str := ["form", "is_chained", "sets", "coverage", "classes"]
noncomputable def fFinding : List Str := ["tag", "what", "at"]
noncomputable def fSingle : List Str := ["mapping"]
noncomputable def fLangSys : List Str := ["required", "features"]
noncomputable def fScript : List Str := ["tag", "default", "languages"]
noncomputable def fFeature : List Str := ["tag", "lookups"]
noncomputable def fLayout : List Str := ["scripts", "features", "lookups"]
structure Bis (mg mb : Str → Option Value) : Prop where
  len : mg "len" = none ∧ mb "len" = some (.builtin "len")
  range : mg "range" = none ∧ mb "range" = some (.type "range")
  sorted : mg "sorted" = none ∧ mb "sorted" = some (.builtin "sorted")
  set : mg "set" = none ∧ mb "set" = some (.type "set")
  max : mg "max" = none ∧ mb "max" = some (.builtin "max")
  any : mg "any" = none ∧ mb "any" = some (.builtin "any")
  list : mg "list" = none ∧ mb "list" = some (.type "list")
  tuple : mg "tuple" = none ∧ mb "tuple" = some (.type "tuple")
  int : mg "int" = none ∧ mb "int" = some (.type "int")
/-- a class: its name, its __init__, its free names -/
structure ClsAt (K : Frag) (mg : Str → Option Value) (hb : Heap) (name : Str) (C fI : Addr) (fs : List Str) : Prop where
  g : mg name = some (.ref C)
  cls : Cls K C fI
  free : Frees K C fs
structure Gd (K : Frag) (mg mb : Str → Option Value) (hb : Heap) (ad : Ads) : Prop where
  cx : Cx K mg mb hb
  sm : ∃ a o, sysModules < a ∧ hb.get? a = some o
  bi : Bis mg mb
  use_set : ∃ t, mg "USE_SET" = some (.int 16 t)
  most : ∃ t, mg "MOST_DEPTH" = some (.int 6 t)
  draw : mg "_law_draw" = some (.ref ad.draw) ∧ At hb d_draw "_law_draw" "_law_draw" ad.draw
  source : mg "_law_source" = some (.ref ad.source) ∧ At hb d_source "_law_source" "_law_source" ad.source
  ways : mg "_law_ways" = some (.ref ad.ways) ∧ At hb d_ways "_law_ways" "_law_ways" ad.ways
  longest : mg "_law_longest" = some (.ref ad.longest) ∧ At hb d_longest "_law_longest" "_law_longest" ad.longest
  told : mg "_law_told" = some (.ref ad.told) ∧ At hb d_told "_law_told" "_law_told" ad.told
  lookups_of : mg "lookups_of" = some (.ref ad.lookups_of) ∧ At hb d_lookups_of "lookups_of" "lookups_of" ad.lookups_of
  findings_of : mg "findings_of" = some (.ref ad.findings_of) ∧ At hb d_findings_of "findings_of" "findings_of" ad.findings_of
  next : mg "next_lookups" = some (.ref ad.next) ∧ At hb d_next "next_lookups" "next_lookups" ad.next
  reached : mg "reached" = some (.ref ad.reached) ∧ At hb d_reached "reached" "reached" ad.reached
  rings : mg "on_rings" = some (.ref ad.rings) ∧ At hb d_rings "on_rings" "on_rings" ad.rings
  depths : mg "depths" = some (.ref ad.depths) ∧ At hb d_depths "depths" "depths" ad.depths
  behind : mg "is_behind" = some (.ref ad.behind) ∧ At hb d_behind "is_behind" "is_behind" ad.behind
  langsys : mg "langsys_of" = some (.ref ad.langsys) ∧ At hb d_langsys "langsys_of" "langsys_of" ad.langsys
  number : mg "number_findings" = some (.ref ad.number) ∧ At hb d_number "number_findings" "number_findings" ad.number
  Lookup : ClsAt K mg hb "Lookup" ad.Lookup ad.iLookup fLookup ∧ At hb d_Lookup "__init__" "Lookup.__init__" ad.iLookup
  Rule : ClsAt K mg hb "Rule" ad.Rule ad.iRule fRule ∧ At hb d_Rule "__init__" "Rule.__init__" ad.iRule
  Contexts : ClsAt K mg hb "Contexts" ad.Contexts ad.iContexts fContexts ∧ (∃ doc pm an cdv ct, FnAt hb ad.iContexts (d_Contexts.fn "__init__" "Contexts.__init__" (.ref ad.dContexts) doc pm an cdv ct)) ∧ ∃ n, hb.get? ad.dContexts = some (tobj [.none, .none] n)
  Finding : ClsAt K mg hb "Finding" ad.Finding ad.iFinding fFinding ∧ At hb d_Finding "__init__" "Finding.__init__" ad.iFinding
  Single : ClsAt K mg hb "Single" ad.Single ad.iSingle fSingle ∧ At hb d_Single "__init__" "Single.__init__" ad.iSingle
  LangSys : ClsAt K mg hb "LangSys" ad.LangSys ad.iLangSys fLangSys ∧ At hb d_LangSys "__init__" "LangSys.__init__" ad.iLangSys
  Script : ClsAt K mg hb "Script" ad.Script ad.iScript fScript ∧ At hb d_Script "__init__" "Script.__init__" ad.iScript
  Feature : ClsAt K mg hb "Feature" ad.Feature ad.iFeature fFeature ∧ At hb d_Feature "__init__" "Feature.__init__" ad.iFeature
  Layout : ClsAt K mg hb "Layout" ad.Layout ad.iLayout fLayout ∧ At hb d_Layout "__init__" "Layout.__init__" ad.iLayout
  Frules : findIn K (.ref ad.Contexts) "rules" = some (some (.ref ad.Frules)) ∧ typeIn K (.ref ad.Frules) = some (.type "function") ∧ At hb d_Frules "rules" "Contexts.rules" ad.Frules
  Ftold : findIn K (.ref ad.Finding) "told" = some (some (.ref ad.Ftold)) ∧ typeIn K (.ref ad.Ftold) = some (.type "function") ∧ At hb d_Ftold "told" "Finding.told" ad.Ftold
section
variable {prog : Program} {w : World} {A : Around} {B : Bs} {g g' : Gm} {V V' : List (Addr × Obj)} {env : Env} {m : Str → Option Value} {h h' hb : Heap} {K : Frag} {mg mb : Str → Option Value} {ad : Ads}
structure Hp (hb : Heap) (g : Gm) (h : Heap) : Prop where
  frz : ∀ b o, g b = some o → h.get? b = some o
  bg : ∀ b o, hb.get? b = some o → g b = some o
theorem St.hp (S : St B g V env m h) : Hp B.hb g h := ⟨S.frz, S.hbg⟩
theorem Kn.cons {m : Str → Option Value} {x v l} (a : m x = some v) (b : Kn m l) : Kn m ((x, v) :: l) := fun p hp => by
  rcases List.mem_cons.mp hp with rfl | hp
  · exact a
  · exact b p hp
theorem Kn.tl {m : Str → Option Value} {p l} (k : Kn m (p :: l)) : Kn m l := fun q hq => k q (.tail _ hq)
theorem Kn.g0 {m : Str → Option Value} {x v l} (k : Kn m ((x, v) :: l)) : m x = some v := k _ (.head _)
theorem Kn.g1 {m : Str → Option Value} {x v a l} (k : Kn m (a :: (x, v) :: l)) : m x = some v := k.tl.g0
theorem Kn.g2 {m : Str → Option Value} {x v a b l} (k : Kn m (a :: b :: (x, v) :: l)) : m x = some v := k.tl.g1
theorem Kn.g3 {m : Str → Option Value} {x v a b c l} (k : Kn m (a :: b :: c :: (x, v) :: l)) : m x = some v := k.tl.g2
theorem Kn.g4 {m : Str → Option Value} {x v a b c d l} (k : Kn m (a :: b :: c :: d :: (x, v) :: l)) : m x = some v := k.tl.g3
theorem Kn.g5 {m : Str → Option Value} {x v a b c d e l} (k : Kn m (a :: b :: c :: d :: e :: (x, v) :: l)) : m x = some v := k.tl.g4
theorem Kn.g6 {m : Str → Option Value} {x v a b c d e f l} (k : Kn m (a :: b :: c :: d :: e :: f :: (x, v) :: l)) : m x = some v := k.tl.g5
theorem ev_alc {y : Str} {py : Pos} {elt : Expr} {gc : Comprehension} {gs : List Comprehension} {scope : Scope} {pos spos : Pos} {cl : List (Str × Addr)} {P : Flow → Heap → Prop} (S : St B g V env m h) (hh : A.handled = none) (hk : StoreOk B env y) (hcl : closOf env.cells scope.names [] = some cl)
    (x : Ev prog w A (eval gc.iter env) h (LcK prog w A B elt (gc :: gs) scope pos cl env (fun m D => setM m y (.ref D)) (fun _ => P .next)))
    (hsw : swapsWith (.ListComp elt (gc :: gs) scope pos) (some (.Name y py)) spos.line env = Pure.pure true := by rfl)
    (ok : scopeOk scope = true := by rfl) (ha : gc.is_async = 0 := by rfl) (hs : ∀ x, foldedSetIterable gc.iter env x = Pure.pure x := by intro _; rfl) :
    Ev prog w A (exec (.Assign [.Name y py] (.ListComp elt (gc :: gs) scope pos) spos) env) h P := ev_assign_lc hh hk x hsw ok hcl ha hs
theorem ev_elc {elt : Expr} {gc : Comprehension} {gs : List Comprehension} {scope : Scope} {pos : Pos} {cl : List (Str × Addr)} {P : Value → Heap → Prop} (S : St B g V env m h) (hh : A.handled = none) (hcl : closOf env.cells scope.names [] = some cl)
    (x : Ev prog w A (eval gc.iter env) h (LcK prog w A B elt (gc :: gs) scope pos cl env (fun m _ => m) (fun D => P (.ref D))))
    (ok : scopeOk scope = true := by rfl) (ha : gc.is_async = 0 := by rfl) (hs : ∀ x, foldedSetIterable gc.iter env x = Pure.pure x := by intro _; rfl) :
    Ev prog w A (eval (.ListComp elt (gc :: gs) scope pos) env) h P := ev_lc hh x ok hcl ha hs
/-- a new object out of a callee, still to be written -/
theorem St.take (S : St B g V env m h) (E : Ext [] g h g' h') {R : Addr} {o : Obj} (hR : h.get? R = none) (ho : h'.get? R = some o) (hg : g' R = none) (hnc : ∀ v, o.data ≠ .cell v) : St B g' ((R, o) :: V) env m h' := by
  obtain ⟨o1, o2, o3, o4⟩ := S.off hR
  exact (S.pure E).include ho hg o2 (S.h0_new hR) o3 hnc
/-- what a call that writes nothing old gives -/
noncomputable def Gives (prog : Program) (w : World) (A : Around) (g : Gm) (h : Heap) (f : Value) (args : List Value) (Ok : Gm → Value → Prop) : Prop :=
  ∀ P : Value → Heap → Prop, (∀ v g' h', Ext [] g h g' h' → Ok g' v → P v h') → Ev prog w A (call f args) h P
theorem Gives.use {f : Value} {args : List Value} {Ok : Gm → Value → Prop} {P : Value → Heap → Prop} (x : Gives prog w A g h f args Ok) (S : St B g V env m h) (hP : ∀ v g' h', GLe g g' → Ok g' v → St B g' V env m h' → P v h') : Ev prog w A (call f args) h P :=
  x P fun v g' h' E o => hP v g' h' E.le o (S.pure E)
/-- what a call makes anew -/
structure CallX where
  doc : Value
  pm : Value
  an : Option Addr
  cdv : Value
  ct : Value
  L : Addr
  a : Addr
noncomputable def cEnv (d : Fd) (name qual : Str) (x : CallX) : Env := callEnvC (d.fn name qual .none x.doc x.pm x.an x.cdv x.ct) x.L x.a
/-- a def with plain arguments, entered -/
theorem enter0 {a : Addr} {d : Fd} {name qual : Str} {vs : List Value} {binds : List (Str × Value)} {P : Value → Heap → Prop} (G : Gd K mg mb hb ad) (Fn : At hb d name qual a) (hr : A.depth < recursionLimit) (H : Hp hb g h) (Wv : Wr g V h)
    (hbind : ∀ doc pm an cdv ct, bindArgs (d.fn name qual .none doc pm an cdv ct) ⟨vs, []⟩ = Pure.pure binds)
    (hkind : ∀ n, ∀ x ∈ binds, d.scope.names.lookup x.1 = some .local ∨ (d.scope.names.lookup x.1 = some .cell ∧ ((cellsFrom n d.scope.names []).lookup x.1).isSome = true))
    (hck : cellsKinds d.scope.names = true)
    (hB : ∀ x h₁, x.a = a → St (fnBs hb g h (V.map (·.1)) (cEnv d name qual x)) g V (cEnv d name qual x) (bindA binds fun _ => none) h₁ → Ev prog w (A.deeper (cEnv d name qual x)) (execs d.body (cEnv d name qual x)) h₁ (fun f h' => P (backOf f) h'))
    (hco : d.scope.isCoroutine = false := by rfl) (hgen : d.scope.isGenerator = false := by rfl) (hk : d.scope.kind = .function := by rfl) :
    Ev prog w A (call (.ref a) vs) h P := by
  obtain ⟨doc, pm, an, cdv, ct, F⟩ := Fn
  exact ev_fn G.cx F hr H.frz H.bg Wv rfl (hbind doc pm an cdv ct) hkind hck (fun L h₁ S => hB ⟨doc, pm, an, cdv, ct, L, a⟩ h₁ rfl S) hco hgen hk
theorem enter {k : Nat} {a : Addr} {d : Fd} {name qual : Str} {vs : List Value} {binds : List (Str × Value)} {P : Value → Heap → Prop} (G : Gd K mg mb hb ad) (Fn : At hb d name qual a) (hr : Room A (k + 1)) (H : Hp hb g h) (Wv : Wr g V h)
    (hbind : ∀ doc pm an cdv ct, bindArgs (d.fn name qual .none doc pm an cdv ct) ⟨vs, []⟩ = Pure.pure binds)
    (hkind : ∀ n, ∀ x ∈ binds, d.scope.names.lookup x.1 = some .local ∨ (d.scope.names.lookup x.1 = some .cell ∧ ((cellsFrom n d.scope.names []).lookup x.1).isSome = true))
    (hck : cellsKinds d.scope.names = true)
    (hB : ∀ x A' T h₁, Room A' k → (∀ f h', P (backOf f) h' → T f h') → St (fnBs hb g h (V.map (·.1)) (cEnv d name qual x)) g V (cEnv d name qual x) (bindA binds fun _ => none) h₁ → Ev prog w A' (execs d.body (cEnv d name qual x)) h₁ T)
    (hco : d.scope.isCoroutine = false := by rfl) (hgen : d.scope.isGenerator = false := by rfl) (hk : d.scope.kind = .function := by rfl) :
    Ev prog w A (call (.ref a) vs) h P :=
  enter0 G Fn hr.depth H Wv hbind hkind hck (fun x h₁ _ S => hB x _ _ h₁ (hr.deeper _) (fun _ _ z => z) S) hco hgen hk
theorem At.keepable {a : Addr} {d : Fd} {name qual : Str} (Fn : At hb d name qual a) (k : ∀ b o, hb.get? b = some o → h.get? b = some o) : Keepable prog w (.ref a) h := by
  obtain ⟨doc, pm, an, cdv, ct, F⟩ := Fn
  exact keepable_fn F k
/-- a def of the text is called by its name -/
theorem ev_callD {x : Str} {p pos : Pos} {args : List Expr} {a : Addr} {d : Fd} {qual : Str} {P : Value → Heap → Prop} (S : St B g V env m h) (C : Cx K mg mb B.hb) (hf : mg x = some (.ref a) ∧ At B.hb d x qual a)
    (y : Ev prog w A (spliced (backTo pos (starEach args env))) h fun vs h2 => (∀ b o, B.hb.get? b = some o → h2.get? b = some o) ∧ Ev prog w A (call (.ref a) vs) h2 P)
    (hk : env.kindOf x = some .globalImplicit := by rfl) (hd : (x == ("__debug__" : Str)) = false := by rfl) (hg : env.globals = mainGlobals := by rfl)
    (hp : (backTo pos (starEach args env)).any (·.1) = false := by rfl) : Ev prog w A (eval (.Call (.Name x p) args [] pos) env) h P :=
  ev_call (ev_glob S C hf.1 (y.mono fun vs h2 z => ⟨hf.2.keepable z.1, z.2⟩) hk hd hg) hp
/-- a built-in of that name -/
theorem ev_callB {x : Str} {p pos : Pos} {args : List Expr} {f : Value} {P : Value → Heap → Prop} (S : St B g V env m h) (C : Cx K mg mb B.hb) (hf : mg x = none ∧ mb x = some f) (hkp : ∀ h2, Keepable prog w f h2)
    (y : Ev prog w A (spliced (backTo pos (starEach args env))) h fun vs h2 => Ev prog w A (call f vs) h2 P)
    (hk : env.kindOf x = some .globalImplicit := by rfl) (hd : (x == ("__debug__" : Str)) = false := by rfl) (hg : env.globals = mainGlobals := by rfl) (hbn : env.builtins = builtinsNs := by rfl)
    (hp : (backTo pos (starEach args env)).any (·.1) = false := by rfl) : Ev prog w A (eval (.Call (.Name x p) args [] pos) env) h P :=
  ev_call (ev_builtin S C hf.1 hf.2 (y.mono fun vs h2 z => ⟨hkp h2, z⟩) hk hd hg hbn) hp
theorem ev_callC {x : Str} {p pos : Pos} {args : List Expr} {c fI : Addr} {fs : List Str} {P : Value → Heap → Prop} (S : St B g V env m h) (C : Cx K mg mb B.hb) (hf : ClsAt K mg B.hb x c fI fs)
    (y : Ev prog w A (spliced (backTo pos (starEach args env))) h fun vs h2 => (∀ b o, B.hb.get? b = some o → h2.get? b = some o) ∧ Ev prog w A (call (.ref c) vs) h2 P)
    (hk : env.kindOf x = some .globalImplicit := by rfl) (hd : (x == ("__debug__" : Str)) = false := by rfl) (hg : env.globals = mainGlobals := by rfl)
    (hp : (backTo pos (starEach args env)).any (·.1) = false := by rfl) : Ev prog w A (eval (.Call (.Name x p) args [] pos) env) h P :=
  ev_call (ev_glob S C hf.g (y.mono fun vs h2 z => ⟨keepable_K C z.1 hf.cls.keep, z.2⟩) hk hd hg) hp
theorem ev_truthy_list {a : Addr} {vs : List Value} {c : Nat} {P : Bool → Heap → Prop} (ha : h.get? a = some (lobj vs c)) (hz : vs.length < 100000) (x : P (!vs.isEmpty) h) : Ev prog w A (truthy (.ref a)) h P := fun s E hs => by
  subst hs
  have e : (!vs.toArray.isEmpty) = !vs.isEmpty := by cases vs <;> rfl
  refine wpAny_truthy_list (isList_of ha) (by simp; (first | lia | omega)) ⟨Same.mk' s _ _, by first | exact x | (rw [e]; exact x) | simpa using x⟩
/-! ## the draw -/
noncomputable def srcO (c : Addr) (at_ : Int) (t : Tok) (n : Nat) : Obj := lobj [.ref c, .int at_ t] n
theorem c_draw (G : Gd K mg mb hb ad) (hr : A.depth < recursionLimit) (H : Hp hb g h) {src c : Addr} {at_ : Int} {t tl : Tok} {n k : Nat} {vs : List Value} {ns : List Int} {lim : Int}
    (hs : h.get? src = some (srcO c at_ t n)) (hgs : g src = none) (hc : g c = some (lobj vs k)) (hi : IntsAre vs ns) (hat : 0 ≤ at_) (h0 : 0 < vs.length) (hz : vs.length < 1000) (hlim : 0 < lim)
    {P : Value → Heap → Prop} (hP : ∀ r t' t'' h', 0 ≤ r → r < lim → Ext [src] g h g h' → h'.get? src = some (srcO c (at_ + 1) t'' n) → P (.int r t') h') :
    Ev prog w A (call (.ref ad.draw) [.ref src, .int lim tl]) h P := by
  have Wv : Wr g [(src, srcO c at_ t n)] h := ⟨by simpa using hs, by simpa using hgs, fun p hp => by rw [List.mem_singleton.mp hp]; exact lobj_nocell _ _, List.pairwise_singleton _ _⟩
  have hcx : ∀ i : Int, 0 ≤ i → i.toNat < vs.length → ∃ q u, vs[i.toNat]? = some (.int q u) := fun i _ h1 => by
    obtain ⟨u, e⟩ := hi.get i.toNat (ns.getD i.toNat 0) (by rw [hi.length] at h1; simp [h1])
    exact ⟨_, u, e⟩
  have hvl : (vs.length : Int) ≠ 0 := by (first | lia | omega)
  have hmod : 0 ≤ at_.fmod vs.length ∧ (at_.fmod vs.length).toNat < vs.length := by
    have h1 := Int.fmod_nonneg hat (Int.natCast_nonneg vs.length)
    have h2 := Int.fmod_lt_of_pos at_ (b := (vs.length : Int)) (by (first | lia | omega))
    (first | lia | omega)
  obtain ⟨q, u, hq⟩ := hcx _ hmod.1 hmod.2
  refine enter0 (V := [(src, srcO c at_ t n)]) G G.draw.2 hr H Wv (binds := [("source", .ref src), ("limit", .int lim tl)]) (fun _ _ _ _ _ => rfl) (fun n x hx => ?_) (by rfl) (fun x h₁ _ S => ?_)
  · simp only [List.mem_cons, List.not_mem_nil, or_false] at hx
    rcases hx with rfl | rfl <;> exact .inl rfl
  refine ev_cons (ev_assign (ev_subscript (ev_var S rfl (ev_int fun t1 => ev_item_list (S.getV (.head _)) (by decide) rfl (ev_store S (.inl ⟨rfl, rfl⟩) fun h2 S => ?_)))))
  refine ev_cons (ev_assign (ev_subscript (ev_var S rfl (ev_int fun t1 => ev_item_list (S.getV (.head _)) (by decide) rfl (ev_store S (.inl ⟨rfl, rfl⟩) fun h2 S => ?_)))))
  refine ev_cons (ev_assign_sub (ev_binop (ev_var S rfl (ev_int fun t2 => ev_add fun t3 => ev_var S rfl (ev_int fun t4 => ev_set_list (S.getV (.head _)) (by decide) (by simp) fun h3 e3 b3 => ?_)))))
  have S := S.upd .head b3 e3 (lobj_nocell _ _)
  refine ev_cons (ev_return (ev_binop (ev_binop (ev_subscript (ev_var S rfl (ev_binop (ev_var S rfl (ev_len_name S G.cx G.bi.len.1 G.bi.len.2 rfl (S.frz _ _ hc) fun t5 => ev_mod hvl fun t6 => ev_item_list (S.frz _ _ hc) hmod.1 hq ?_))))))))
  refine ev_binop (ev_int fun t7 => ev_binop (ev_var S rfl (ev_len_name S G.cx G.bi.len.1 G.bi.len.2 rfl (S.frz _ _ hc) fun t8 => ev_fdiv hvl ?_ fun t9 => ev_mul (IntMulOk.of_left (by decide)) fun t10 => ev_add fun t11 => ev_var S rfl (ev_mod (by (first | lia | omega)) fun t12 => ?_))))
  · exact PyProof.noPylong_small (by (first | lia | omega))
  · exact hP _ _ t3 _ (Int.fmod_nonneg_of_pos _ hlim) (Int.fmod_lt_of_pos _ hlim) S.ext (S.getV (.head _))
end
section
variable {prog : Program} {w : World} {A : Around} {B : Bs} {g g' : Gm} {V V' : List (Addr × Obj)} {env : Env} {m : Str → Option Value} {h h' hb : Heap} {K : Frag} {mg mb : Str → Option Value} {ad : Ads}
theorem ev_noTests {X Y : Heap → Prop} (x : X h) : Ev prog w A (testsT [] env) h fun ok h3 => if ok = true then X h3 else Y h3 := ev_tests_nil (by rw [if_pos rfl]; exact x)
theorem ev_test1 {c : Expr} {X Y : Heap → Prop} (x : Ev prog w A (isTrue c env (eval c env)) h fun ok h3 => if ok = true then X h3 else Y h3) : Ev prog w A (testsT [c] env) h fun ok h3 => if ok = true then X h3 else Y h3 := ev_tests_one x
/-- both ways of a test whose truth is a known proposition -/
theorem if_dec {p : Prop} [Decidable p] {X Y : Prop} (a : p → X) (b : ¬ p → Y) : if decide p = true then X else Y := by
  by_cases h : p
  · simp [h, a h]
  · simp [h, b h]
theorem if_ndec {p : Prop} [Decidable p] {X Y : Prop} (a : ¬ p → X) (b : p → Y) : if (!decide p) = true then X else Y := by
  by_cases h : p
  · simp [h, b h]
  · simp [h, a h]
theorem intsAre_take {vs ns} (h : IntsAre vs ns) (n : Nat) : IntsAre (vs.take n) (ns.take n) := h.take n
theorem le_line {n : Nat} (h : n ≤ 10000) : n ≤ sizeLine := by rw [sizeLine_eq]; (first | lia | omega)
theorem le_dec {n : Nat} (h : Nat.ble n 10000 = true) : n ≤ 10000 := Nat.le_of_ble_eq_true h
theorem take_snoc {α : Type} (l : List α) (i : Nat) (x : α) (h : l[i]? = some x) : l.take (i + 1) = l.take i ++ [x] := by
  rw [List.take_add_one, h]; rfl
theorem c_source (G : Gd K mg mb hb ad) (hr : Room A 3) (H : Hp hb g h) {sc : Addr} {vs : List Value} {k : Nat} {ns : List Int} (hsc : g sc = some (lobj vs k)) (hi : IntsAre vs ns) (hz : vs.length ≤ 63)
    {P : Value → Heap → Prop} (hP : ∀ R c t ws k' ms g' h', Ext [] g h g' h' → h.get? R = none → h'.get? R = some (srcO c 0 t 0) → g' R = none → g' c = some (lobj ws k') → IntsAre ws ms → 0 < ws.length → ws.length < 1000 → P (.ref R) h') :
    Ev prog w A (call (.ref ad.source) [.ref sc]) h P := by
  refine enter (V := []) G G.source.2 hr H (Wr.nil _ _) (binds := [("script", .ref sc)]) (fun _ _ _ _ _ => rfl) (fun n x hx => ?_) (by rfl) (fun x A' T h₁ hr' hT S => ?_)
  · simp only [List.mem_cons, List.not_mem_nil, or_false] at hx
    rcases hx with rfl <;> exact .inl rfl
  have hl : ∀ n, (lobj vs n) = lobj vs n := fun _ => rfl
  refine ev_cons (ev_alc S hr'.hh (.inl ⟨rfl, rfl⟩) rfl (ev_subscript (ev_var S rfl (ev_slice_upto (ev_int fun t => ev_sliced (S.frz _ _ hsc) .none (.int _ _) (by rw [sizeLine_eq]; (first | lia | omega)) fun D h2 kp hD ho => ?_)))))
  obtain ⟨g1, le1, hg1, S1⟩ := S.grow1 kp hD ho
  have hsl : (slicePick vs.toArray none (some 60) none).toList = vs.take 60 := by
    exact (congrArg Array.toList (slicePick_upto' vs.toArray 60)).trans (by simp)
  rw [hsl] at hg1
  refine ⟨g1, [], _, _, _, _, .list hg1, S1, comp1 [] (fun i _ V ys => V = [] ∧ IntsAre ys ((ns.take 60).take i)) Kn.nil rfl (by simp; (first | lia | omega)) ⟨rfl, .nil⟩ (fun i g V ys hi' j => ?_) ?_, ?_⟩
  · have := j.2.length; rw [this]; simp; (first | lia | omega)
  · rintro i v g V ys k m h D' I oI C' hin hv le hV ⟨rfl, hys⟩ kn S
    obtain ⟨t', e⟩ := IntsAre.int_at (hi.take 60) i v hv
    subst e
    refine ev_assign_name S (.inl ⟨rfl, rfl⟩) fun h2 S => ev_noTests ?_
    refine ev_callB S G.cx G.bi.int (fun _ => keepable_type _ _) (ev_args_cons (ev_var S (setM_self _ _ _) (ev_args_nil (ev_int_of ?_))))
    refine ⟨g, [], _, GLe.refl g, Kn.nil, rfl, S, rfl, ?_⟩
    have hl : (ns.take 60)[i]? = some ((ns.take 60).getD i 0) := by
      have := (hi.take 60).length
      have : i < (ns.take 60).length := by (first | lia | omega)
      simp [List.getElem?_eq_getElem this]
    rw [take_snoc _ _ _ hl]
    exact intsAre_app hys (.cons _ _ .nil)
  · rintro D5 g5 V5 ys k5 h5 le5 hV5 ⟨rfl, hys⟩ hDW S5
    have hys' : IntsAre ys (ns.take 60) := by
      have e : (vs.take 60).length = (ns.take 60).length := (hi.take 60).length
      rwa [List.take_of_length_le (by (first | lia | omega))] at hys
    refine S5.freezeK .head hDW fun g6 le6 hg6 S6 => ?_
    have hyl : ys.length ≤ 63 := by rw [hys'.length]; simp; have := hi.length; (first | lia | omega)
    have fin : ∀ {e1 e2 : Env} c ws k' ms g7 h7 m7, GLe g6 g7 → g7 c = some (lobj ws k') → IntsAre ws ms → 0 < ws.length → ws.length < 1000 → St (fnBs hb g h [] e1) g7 [] e2 m7 h7 → ∀ t, (T (.ret (.ref h7.objs.size)) (h7.push (lobj [.ref c, .int 0 t] 0))) := fun {e1 e2} c ws k' ms g7 h7 m7 le7 hc hi7 h0 hz7 S7 t => by
      have S8 := S7.push_vol (lobj [.ref c, .int 0 t] 0) rfl (lobj_nocell _ _)
      refine hT _ _ (hP _ c t ws k' ms g7 _ S8.ext ?_ (S8.getV (.head _)) (S8.volg _ (.head _)) hc hi7 h0 hz7)
      exact S7.h0_new (fresh_none (Nat.le_refl _))
    refine ev_cons (ev_return (ev_list (ev_args_cons (ev_ifexp (ev_true_value (ev_var S6 (setM_self _ _ _) (ev_truthy_list (S6.frz _ _ hg6) (by (first | lia | omega)) ?_)))))))
    cases ys with
    | nil =>
      simp only [List.isEmpty_nil, Bool.not_true, Bool.false_eq_true, if_false]
      refine ev_list (ev_args_cons (ev_int fun t1 => ev_args_nil ⟨le_line (le_dec rfl), ?_⟩))
      refine S6.push_frzK (lobj [.int 0 t1] 0) rfl fun g7 le7 hg7 S7 => ?_
      refine ev_args_cons (ev_int fun t2 => ev_args_nil ⟨le_line (le_dec rfl), ?_⟩)
      exact fin _ _ _ _ g7 _ _ le7 hg7 (.cons 0 t1 .nil) (by simp) (by simp) S7 t2
    | cons y r =>
      simp only [List.isEmpty_cons, Bool.not_false, if_true]
      refine ev_var S6 (setM_self _ _ _) (ev_args_cons (ev_int fun t2 => ev_args_nil ⟨le_line (le_dec rfl), ?_⟩))
      exact fin _ _ _ _ g6 _ _ (GLe.refl _) hg6 hys' (by simp) (by (first | lia | omega)) S6 t2
end
theorem filterMap_length_le {α β : Type} (f : α → Option β) (l : List α) : (l.filterMap f).length ≤ l.length := List.length_filterMap_le f l
/-- the frame of a comprehension, seen from within -/
structure InC (V V' : List (Addr × Obj)) (B' : Bs) (C : Addr) (scope : Scope) : Prop where
  vol : ∀ p ∈ V, p ∈ V'
  own : ∀ b, fnOwn C (cellsFrom (C + 1) scope.names []) b → B'.own b
/-- what a turn over data leaves -/
inductive CdT (prog : Program) (w : World) (lc : List (Str × Value)) (B' : Bs) (g : Gm) (V' : List (Addr × Obj)) (cenv : Env) (fa : Option D) (y : Value) (h : Heap) : Prop
  | mk (g' : Gm) (m' : Str → Option Value) (d : D) : GLe g g' → Kn m' lc → St B' g' V' cenv m' h → fa = some d → Is prog w g' y d → CdT prog w lc B' g V' cenv fa y h
inductive CdF (lc : List (Str × Value)) (B' : Bs) (g : Gm) (V' : List (Addr × Obj)) (cenv : Env) (no : Prop) (h : Heap) : Prop
  | mk (g' : Gm) (m' : Str → Option Value) : GLe g g' → Kn m' lc → St B' g' V' cenv m' h → no → CdF lc B' g V' cenv no h
noncomputable def Cd2T {β : Type} (prog : Program) (w : World) (A : Around) (lc : List (Str × Value)) (B' : Bs) (V₁ : List (Addr × Obj)) (cenv : Env) (gd : Comprehension) (elt : Expr) (bs : List β) (q : β → Option D) (g' : Gm) (n2 : Nat) (Pi2 : Nat → Value → Prop) : Prop :=
  ∀ j b v g m h V2, (∀ p ∈ V₁, p ∈ V2) → bs[j]? = some b → j < n2 → Pi2 j v → GLe g' g → Kn m lc → St B' g V2 cenv m h →
    Ev prog w A (assign gd.target cenv v) h fun _ h2 => Ev prog w A (testsT gd.ifs cenv) h2 fun ok h3 =>
      if ok = true then Ev prog w A (eval elt cenv) h3 (CdT prog w lc B' g V2 cenv (q b)) else CdF lc B' g V2 cenv (q b = none) h3
inductive Cd2 (lc : List (Str × Value)) (B' : Bs) (g : Gm) (V' : List (Addr × Obj)) (cenv : Env) (len : Nat) (T : Gm → Nat → (Nat → Value → Prop) → Prop) (xv : Value) (h : Heap) : Prop
  | mk (g' : Gm) (m' : Str → Option Value) (n2 : Nat) (Pi2 : Nat → Value → Prop) : Src g' xv n2 Pi2 → GLe g g' → Kn m' lc → len = n2 → St B' g' V' cenv m' h → T g' n2 Pi2 → Cd2 lc B' g V' cenv len T xv h
section
variable {prog : Program} {w : World} {A : Around} {B : Bs} {g g' : Gm} {V V' : List (Addr × Obj)} {env : Env} {m : Str → Option Value} {h h' hb : Heap} {K : Frag} {mg mb : Str → Option Value} {ad : Ads}
/-- a comprehension over data, giving data -/
theorem comp_data {α : Type} {elt : Expr} {gc : Comprehension} {scope : Scope} {pos : Pos} {cl : List (Str × Addr)} {g₁ : Gm} {V₁ : List (Addr × Obj)} {m₁ : Str → Option Value} {h1 : Heap} {n : Nat} {Pi : Nat → Value → Prop}
    (G : Gd K mg mb B.hb ad) (lc : List (Str × Value)) (xs : List α) (f : α → Option D) (hlc : Kn (cmpM cl m₁) lc) (hxs : xs.length = n) (hn : n < 100000)
    (turn : ∀ i a v g m h B' V' C, Gd K mg mb B'.hb ad → InC V₁ V' B' C scope → xs[i]? = some a → i < n → Pi i v → GLe g₁ g → Kn m lc → St B' g V' (cmpEnv scope cl C env) m h →
      Ev prog w A (assign gc.target (cmpEnv scope cl C env) v) h fun _ h2 => Ev prog w A (testsT gc.ifs (cmpEnv scope cl C env)) h2 fun ok h3 =>
        if ok = true then Ev prog w A (eval elt (cmpEnv scope cl C env)) h3 (CdT prog w lc B' g V' (cmpEnv scope cl C env) (f a))
        else CdF lc B' g V' (cmpEnv scope cl C env) (f a = none) h3)
    (ha : gc.is_async = 0 := by rfl) :
    CompRun prog w A B elt [gc] scope pos cl env g₁ V₁ m₁ h1 n Pi (fun g V ys _ => V = V₁ ∧ Iss prog w g ys (xs.filterMap f)) := by
  have base := comp1 (prog := prog) (w := w) (A := A) (B := B) (env := env) (elt := elt) (gc := gc) (scope := scope) (pos := pos) (cl := cl) (g₁ := g₁) (V₁ := V₁) (m₁ := m₁) (h1 := h1) (n := n) (Pi := Pi) lc
    (fun i g V ys => V = V₁ ∧ Iss prog w g ys ((xs.take i).filterMap f)) hlc ha hn ⟨rfl, by simp; exact .nil⟩ (fun i g V ys hi j => by
      rw [j.2.length]; exact Nat.le_trans (filterMap_length_le _ _) (by simp; (first | lia | omega))) ?_
  · have e : xs.take n = xs := List.take_of_length_le (by (first | lia | omega))
    rw [e] at base; exact base
  · rintro i v g V ys k m h D I oI C hi pv le hV ⟨rfl, hys⟩ kn S
    have ha' : xs[i]? = some (xs[i]'(by (first | lia | omega))) := List.getElem?_eq_getElem _
    refine (turn i _ v g m h (cIn B g₁ h1 _ C scope) _ C G ⟨fun p hp => .tail _ (.tail _ hp), fun _ q => q⟩ ha' hi pv le kn S).mono fun _ h2 y => y.mono fun ok h3 z => ?_
    have st : (xs.take (i + 1)).filterMap f = (xs.take i).filterMap f ++ (f (xs[i]'(by (first | lia | omega)))).toList := by
      rw [take_snoc _ _ _ ha', List.filterMap_append]
      cases q : f (xs[i]'(by (first | lia | omega))) <;> simp [q]
    cases ok with
    | false =>
      simp only [Bool.false_eq_true, if_false] at z ⊢
      obtain ⟨g', m', le', kn', S', e⟩ := z
      refine ⟨g', _, m', le', kn', rfl, S', rfl, ?_⟩
      rw [st, e]; simpa using hys.mono le'
    | true =>
      simp only [if_true] at z ⊢
      refine z.mono fun y h4 ⟨g', m', d, le', kn', S', e, iy⟩ => ⟨g', _, m', le', kn', rfl, S', rfl, ?_⟩
      rw [st, e]; exact (hys.mono le').snoc iy
theorem flat_len {α β : Type} {f : α → List β} {c : Nat} : ∀ {l : List α}, (∀ a ∈ l, (f a).length ≤ c) → (l.flatMap f).length ≤ l.length * c
  | [], _ => by simp
  | a :: r, h => by
    have := flat_len (f := f) (c := c) (l := r) fun b hb => h b (.tail _ hb)
    have h1 := h a (.head _)
    rw [List.flatMap_cons, List.length_append, List.length_cons, Nat.succ_mul]; (first | lia | omega)
/-- two clauses over data, giving data -/
theorem comp_data2 {α β : Type} {elt : Expr} {gc gd : Comprehension} {scope : Scope} {pos : Pos} {cl : List (Str × Addr)} {g₁ : Gm} {V₁ : List (Addr × Obj)} {m₁ : Str → Option Value} {h1 : Heap} {n : Nat} {Pi : Nat → Value → Prop}
    (G : Gd K mg mb B.hb ad) (lc : List (Str × Value)) (xs : List α) (p : α → Bool) (ins : α → List β) (q : α → β → Option D) (hh : A.handled = none) (hlc : Kn (cmpM cl m₁) lc) (hxs : xs.length = n) (hn : n ≤ 500) (hins : ∀ a ∈ xs, (ins a).length ≤ 100)
    (turn : ∀ i a v g m h B' V' C, Gd K mg mb B'.hb ad → InC V₁ V' B' C scope → xs[i]? = some a → i < n → Pi i v → GLe g₁ g → Kn m lc → St B' g V' (cmpEnv scope cl C env) m h →
      Ev prog w A (assign gc.target (cmpEnv scope cl C env) v) h fun _ h2 => Ev prog w A (testsT gc.ifs (cmpEnv scope cl C env)) h2 fun ok h3 =>
        if ok = true then p a = true ∧ Ev prog w A (eval gd.iter (cmpEnv scope cl C env)) h3 (Cd2 lc B' g V' (cmpEnv scope cl C env) (ins a).length
          (Cd2T prog w A lc B' V₁ (cmpEnv scope cl C env) gd elt (ins a) (q a)))
        else CdF lc B' g V' (cmpEnv scope cl C env) (p a = false) h3)
    (hds : ∀ C x, foldedSetIterable gd.iter (cmpEnv scope cl C env) x = Pure.pure x := by intro _ _; rfl) (ha : gc.is_async = 0 := by rfl) (hd : gd.is_async = 0 := by rfl) :
    CompRun prog w A B elt [gc, gd] scope pos cl env g₁ V₁ m₁ h1 n Pi (fun g V ys _ => V = V₁ ∧ Iss prog w g ys (xs.flatMap fun a => if p a = true then (ins a).filterMap (q a) else [])) := by
  generalize hF : (fun a => if p a = true then (ins a).filterMap (q a) else []) = F
  have hFl : ∀ a ∈ xs, (F a).length ≤ 100 := fun a ha => by
    rw [← hF]; dsimp only; split
    · exact Nat.le_trans (filterMap_length_le _ _) (hins a ha)
    · simp
  have base := comp2 (prog := prog) (w := w) (A := A) (B := B) (env := env) (elt := elt) (gc := gc) (gd := gd) (scope := scope) (pos := pos) (cl := cl) (g₁ := g₁) (V₁ := V₁) (m₁ := m₁) (h1 := h1) (n := n) (Pi := Pi) lc
    (fun i g ys => Iss prog w g ys ((xs.take i).flatMap F)) hh hlc ha hd hds (by simp; exact .nil) ?_
  · have e : xs.take n = xs := List.take_of_length_le (by (first | lia | omega))
    rw [e] at base; exact base
  · intro i v g ys k m h D I oI C hi pv le hys kn S
    have ha' : xs[i]? = some (xs[i]'(by (first | lia | omega))) := List.getElem?_eq_getElem _
    refine (turn i _ v g m h (cIn B g₁ h1 _ C scope) _ C G ⟨fun p hp => .tail _ (.tail _ hp), fun _ q => q⟩ ha' hi pv le kn S).mono fun _ h2 y => y.mono fun ok h3 z => ?_
    generalize xs[i]'(by (first | lia | omega)) = a at ha' z
    have st : (xs.take (i + 1)).flatMap F = (xs.take i).flatMap F ++ F a := by
      rw [take_snoc _ _ _ ha', List.flatMap_append]; simp
    have hmem : a ∈ xs := List.mem_of_getElem? ha'
    have hl1 : ((xs.take i).flatMap F).length ≤ 50000 := by
      have := flat_len (f := F) (c := 100) (l := xs.take i) fun b hb => hFl b (List.mem_of_mem_take hb)
      rw [List.length_take] at this; (first | lia | omega)
    cases ok with
    | false =>
      simp only [Bool.false_eq_true, if_false] at z ⊢
      obtain ⟨g', m', le', kn', S', hp⟩ := z
      refine ⟨g', m', le', kn', S', ?_⟩
      have e : F a = [] := by rw [← hF]; simp [hp]
      rw [st, e, List.append_nil]; exact hys.mono le'
    | true =>
      simp only [if_true] at z ⊢
      obtain ⟨hp, z⟩ := z
      have e : F a = (ins a).filterMap (q a) := by rw [← hF]; simp [hp]
      refine z.mono fun xv h4 ⟨g', m', n2, Pi2, src, le', kn', hln, S', turn2⟩ => ?_
      refine ⟨g', m', n2, Pi2, fun j g ys => Iss prog w g ys ((xs.take i).flatMap F ++ ((ins a).take j).filterMap (q a)), src, le', kn', S', ?_, fun j g ys jj => ?_, fun g ys jj => ?_, ?_⟩
      · simpa using hys.mono le'
      · have h1 := filterMap_length_le (q a) ((ins a).take j)
        have h2 := hins a hmem
        rw [List.length_take] at h1
        rw [jj.length, List.length_append]; (first | lia | omega)
      · have : (ins a).take n2 = ins a := List.take_of_length_le (by (first | lia | omega))
        rw [this] at jj
        rw [st, e]; exact jj
      · intro j v g ys k m h I2 oI2 hj pv2 le2 jj kn2 S2
        have hb : (ins a)[j]? = some ((ins a)[j]'(by (first | lia | omega))) := List.getElem?_eq_getElem _
        refine (turn2 j _ v g m h _ (fun p hp => .tail _ (.tail _ (.tail _ hp))) hb hj pv2 le2 kn2 S2).mono fun _ h2 y => y.mono fun ok h3 z => ?_
        generalize (ins a)[j]'(by (first | lia | omega)) = b at hb z
        have st2 : ((ins a).take (j + 1)).filterMap (q a) = ((ins a).take j).filterMap (q a) ++ (q a b).toList := by
          rw [take_snoc _ _ _ hb, List.filterMap_append]
          cases qq : q a b <;> simp [qq]
        cases ok with
        | false =>
          simp only [Bool.false_eq_true, if_false] at z ⊢
          obtain ⟨g', m', le', kn', S', e⟩ := z
          refine ⟨g', m', le', kn', S', ?_⟩
          rw [st2, e]; simpa using jj.mono le'
        | true =>
          simp only [if_true] at z ⊢
          refine z.mono fun y h4 ⟨g', m', d, le', kn', S', e, iy⟩ => ⟨g', m', le', kn', S', ?_⟩
          rw [st2, e, Option.toList_some, ← List.append_assoc]; exact (jj.mono le').snoc iy
end
section
variable {prog : Program} {w : World} {A : Around} {B : Bs} {g g' : Gm} {V V' : List (Addr × Obj)} {env : Env} {m : Str → Option Value} {h h' hb : Heap} {K : Frag} {mg mb : Str → Option Value} {ad : Ads} {C fI : Addr}
theorem init_field {x dx : Addr} {es : List DictEntry} {n : Nat} {ns : List Str} {vs : List Value} {name p : Str} {v : Value} {p1 p2 p3 pos : Pos} {rest : List Stmt} {P : Flow → Heap → Prop} (S : St B g ((dx, dictOf es n) :: V) env m h) (Cc : Cx K mg mb B.hb) (c : Cls K C fI) (f : Free K C name) (hx : g x = some (instObj C dx)) (H : Half es ns vs)
    (hn : name ∉ ns) (hz : ns.length < 900) (hself : m "self" = some (.ref x)) (hv : m p = some v)
    (next : ∀ h' es', Half es' (ns ++ [name]) (vs ++ [v]) → St B g ((dx, dictOf es' (n + 1)) :: V) env m h' → Ev prog w A (execs rest env) h' P)
    (hkp : isVar env p = true := by rfl) (hks : isVar env "self" = true := by rfl) (hd : (p == ("__debug__" : Str)) = false := by rfl)
    (hsw : swapsWith (.Name p p3) (some (.Attribute (.Name "self" p1) name p2)) pos.line env = Pure.pure false := by rfl) : Ev prog w A (execs (.Assign [.Attribute (.Name "self" p1) name p2] (.Name p p3) pos :: rest) env) h P :=
  ev_cons (ev_set_field (ev_var S hv (ev_var S hself (ev_setattr S Cc c f hx (fun _ => .head) H hn hz fun h' es' H' S' => next h' es' H' S') hks) hkp hd) hsw)
theorem init_done {x dx : Addr} {g1 g3 : Gm} {h1 h3 : Heap} {env' : Env} {m3 : Str → Option Value} {es : List DictEntry} {n : Nat} {ns : List Str} {vs : List Value} {ds : List D} {P : Value → Heap → Prop}
    (S1 : St B g1 ((dx, dictOf [] 0) :: V) env m h1) (hx : g1 x = some (instObj C dx)) (hdW : dx ∉ B.W) (S3 : St (fnBs hb g1 h1 [dx] env') g3 [(dx, dictOf es n)] env' m3 h3) (H : Half es ns vs) (iss : Iss prog w g3 vs ds)
    (hP : ∀ g', GLe g1 g' → Is prog w g' (.ref x) (.obj C (ns.zip ds)) → St B g' V env m h3 → P (.ref x) h3) : P (.ref x) h3 := by
  have E : Ext [dx] g1 h1 g3 h3 := S3.ext
  have S4 : St B g3 ((dx, dictOf es n) :: V) env m h3 := S1.step1 E .head (S3.getV (.head _)) (fun v e => nomatch e)
  obtain ⟨g4, le, hg, S5⟩ := S4.freeze .head hdW
  exact hP g4 (E.le.trans le) (.obj (le _ _ (E.le _ _ hx)) hg H.flds (iss.mono le)) S5
/-- a class called whose __init__ is a plain def of the text -/
theorem ev_new {d : Fd} {qual : Str} {vals : List Value} {names : Value → List (Str × Value)} {P : Value → Heap → Prop} (S : St B g V env m h) (Cc : Cx K mg mb B.hb) (c : Cls K C fI) (F : At B.hb d "__init__" qual fI) (hr : Room A 2)
    (hbind : ∀ x doc pm an cdv ct, bindArgs (d.fn "__init__" qual .none doc pm an cdv ct) ⟨.ref x :: vals, []⟩ = Pure.pure (names (.ref x)))
    (hkind : ∀ x n, ∀ y ∈ names x, d.scope.names.lookup y.1 = some .local ∨ (d.scope.names.lookup y.1 = some .cell ∧ ((cellsFrom n d.scope.names []).lookup y.1).isSome = true))
    (hck : cellsKinds d.scope.names = true)
    (hB : ∀ x dx g1 h1 doc pm an cdv ct L h₁, GLe g g1 → g1 x = some (instObj C dx) → St (fnBs B.hb g1 h1 [dx] (callEnvC (d.fn "__init__" qual .none doc pm an cdv ct) L fI)) g1 [(dx, dictOf [] 0)] (callEnvC (d.fn "__init__" qual .none doc pm an cdv ct) L fI) (bindA (names (.ref x)) fun _ => none) h₁ →
      Ev prog w ((A.under (.builtin "type.__call__" ⟨.ref C :: vals, []⟩)).deeper (callEnvC (d.fn "__init__" qual .none doc pm an cdv ct) L fI)) (execs d.body (callEnvC (d.fn "__init__" qual .none doc pm an cdv ct) L fI)) h₁ fun f h3 =>
        backOf f = .none ∧ ∃ g3 es n m3 ns vs ds, St (fnBs B.hb g1 h1 [dx] (callEnvC (d.fn "__init__" qual .none doc pm an cdv ct) L fI)) g3 [(dx, dictOf es n)] (callEnvC (d.fn "__init__" qual .none doc pm an cdv ct) L fI) m3 h3 ∧ Half es ns vs ∧ Iss prog w g3 vs ds ∧
          ∀ v g', GLe g1 g' → Is prog w g' v (.obj C (ns.zip ds)) → St B g' V env m h3 → P v h3)
    (hco : d.scope.isCoroutine = false := by rfl) (hgen : d.scope.isGenerator = false := by rfl) (hk : d.scope.kind = .function := by rfl) : Ev prog w A (call (.ref C) vals) h P := by
  obtain ⟨doc, pm, an, cdv, ct, F⟩ := F
  refine ev_make S Cc c fun x dx g1 h1 le hx hdW S1 => ?_
  refine evk_fn (V := [(dx, dictOf [] 0)]) (binds := names (.ref x)) Cc F (hr.make (k := 1) _ _ _).depth S1.frz S1.hbg (S1.wr (.head _)) rfl (fun s _ => BindsTo.of_eq (hbind x doc pm an cdv ct)) (fun n => hkind _ n) hck (fun L h₁ S2 => ?_) hco hgen hk
  refine (hB x dx g1 h1 doc pm an cdv ct L h₁ le hx S2).mono fun f h3 ⟨e, g3, es, n, m3, ns, vs, ds, S3, H, iss, hP⟩ => ⟨e, ?_⟩
  exact init_done S1 hx hdW S3 H iss fun g' le' i S' => hP _ g' le' i S'
theorem ClsAt.fr {name : Str} {fs : List Str} {x : Str} (c : ClsAt K mg hb name C fI fs) (h : x ∈ fs) : Free K C x := c.free x h
theorem mk_Finding (S : St B g V env m h) (G : Gd K mg mb B.hb ad) (hr : Room A 2) {a b c : Value} {d1 d2 d3 : D} (i1 : Is prog w g a d1) (i2 : Is prog w g b d2) (i3 : Is prog w g c d3) {P : Value → Heap → Prop}
    (hP : ∀ v g' h', GLe g g' → Is prog w g' v (.obj ad.Finding [("tag", d1), ("what", d2), ("at", d3)]) → St B g' V env m h' → P v h') : Ev prog w A (call (.ref ad.Finding) [a, b, c]) h P := by
  have c0 := G.Finding.1
  refine ev_new S G.cx c0.cls G.Finding.2 hr (names := fun x => [("self", x), ("tag", a), ("what", b), ("at", c)]) (fun _ _ _ _ _ _ => rfl) (fun x n y hy => ?_) (by rfl) (fun x dx g1 h1 _ _ _ _ _ L h₁ le hx S2 => ?_)
  · simp only [List.mem_cons, List.not_mem_nil, or_false] at hy
    rcases hy with rfl | rfl | rfl | rfl <;> exact .inl rfl
  refine init_field S2 G.cx c0.cls (c0.fr (by decide)) hx Half.nil (by decide) (by decide) rfl rfl fun h2 es1 H1 S3 => ?_
  refine init_field S3 G.cx c0.cls (c0.fr (by decide)) hx H1 (by decide) (by decide) rfl rfl fun h2 es2 H2 S4 => ?_
  refine init_field S4 G.cx c0.cls (c0.fr (by decide)) hx H2 (by decide) (by decide) rfl rfl fun h2 es3 H3 S5 => ?_
  refine ev_nil ⟨rfl, g1, es3, _, _, _, _, [d1, d2, d3], S5, H3, .cons (i1.mono le) (.cons (i2.mono le) (.cons (i3.mono le) .nil)), fun v g' le' i S' => hP v g' h2 (le.trans le') i S'⟩
end
section
variable {prog : Program} {w : World} {A : Around} {B : Bs} {g g' : Gm} {V V' : List (Addr × Obj)} {env : Env} {m : Str → Option Value} {h h' hb : Heap} {K : Frag} {mg mb : Str → Option Value} {ad : Ads} {C fI : Addr}
theorem mk_Lookup (S : St B g V env m h) (G : Gd K mg mb B.hb ad) (hr : Room A 2) {a0 a1 a2 a3 : Value} {d0 d1 d2 d3 : D} (i0 : Is prog w g a0 d0) (i1 : Is prog w g a1 d1) (i2 : Is prog w g a2 d2) (i3 : Is prog w g a3 d3) {P : Value → Heap → Prop}
    (hP : ∀ v g' h', GLe g g' → Is prog w g' v (.obj ad.Lookup [("kind", d0), ("flag", d1), ("mark_set", d2), ("tables", d3)]) → St B g' V env m h' → P v h') : Ev prog w A (call (.ref ad.Lookup) [a0, a1, a2, a3]) h P := by
  have c0 := G.Lookup.1
  refine ev_new S G.cx c0.cls G.Lookup.2 hr (names := fun x => [("self", x), ("kind", a0), ("flag", a1), ("mark_set", a2), ("tables", a3)]) (fun _ _ _ _ _ _ => rfl) (fun x n y hy => ?_) (by rfl) (fun x dx g1 h1 _ _ _ _ _ L h₁ le hx S2 => ?_)
  · simp only [List.mem_cons, List.not_mem_nil, or_false] at hy
    rcases hy with rfl | rfl | rfl | rfl | rfl <;> exact .inl rfl
  refine init_field S2 G.cx c0.cls (c0.fr (by decide)) hx Half.nil (by decide) (by decide) rfl rfl fun h2 es0 H0 T0 => ?_
  refine init_field T0 G.cx c0.cls (c0.fr (by decide)) hx H0 (by decide) (by decide) rfl rfl fun h2 es1 H1 T1 => ?_
  refine init_field T1 G.cx c0.cls (c0.fr (by decide)) hx H1 (by decide) (by decide) rfl rfl fun h2 es2 H2 T2 => ?_
  refine init_field T2 G.cx c0.cls (c0.fr (by decide)) hx H2 (by decide) (by decide) rfl rfl fun h2 es3 H3 T3 => ?_
  refine ev_nil ⟨rfl, g1, es3, _, _, _, _, [d0, d1, d2, d3], T3, H3, .cons (i0.mono le) (.cons (i1.mono le) (.cons (i2.mono le) (.cons (i3.mono le) .nil))), fun v g' le' i S' => hP v g' h2 (le.trans le') i S'⟩
theorem mk_Rule (S : St B g V env m h) (G : Gd K mg mb B.hb ad) (hr : Room A 2) {a0 a1 a2 a3 : Value} {d0 d1 d2 d3 : D} (i0 : Is prog w g a0 d0) (i1 : Is prog w g a1 d1) (i2 : Is prog w g a2 d2) (i3 : Is prog w g a3 d3) {P : Value → Heap → Prop}
    (hP : ∀ v g' h', GLe g g' → Is prog w g' v (.obj ad.Rule [("back", d0), ("inside", d1), ("ahead", d2), ("actions", d3)]) → St B g' V env m h' → P v h') : Ev prog w A (call (.ref ad.Rule) [a0, a1, a2, a3]) h P := by
  have c0 := G.Rule.1
  refine ev_new S G.cx c0.cls G.Rule.2 hr (names := fun x => [("self", x), ("back", a0), ("inside", a1), ("ahead", a2), ("actions", a3)]) (fun _ _ _ _ _ _ => rfl) (fun x n y hy => ?_) (by rfl) (fun x dx g1 h1 _ _ _ _ _ L h₁ le hx S2 => ?_)
  · simp only [List.mem_cons, List.not_mem_nil, or_false] at hy
    rcases hy with rfl | rfl | rfl | rfl | rfl <;> exact .inl rfl
  refine init_field S2 G.cx c0.cls (c0.fr (by decide)) hx Half.nil (by decide) (by decide) rfl rfl fun h2 es0 H0 T0 => ?_
  refine init_field T0 G.cx c0.cls (c0.fr (by decide)) hx H0 (by decide) (by decide) rfl rfl fun h2 es1 H1 T1 => ?_
  refine init_field T1 G.cx c0.cls (c0.fr (by decide)) hx H1 (by decide) (by decide) rfl rfl fun h2 es2 H2 T2 => ?_
  refine init_field T2 G.cx c0.cls (c0.fr (by decide)) hx H2 (by decide) (by decide) rfl rfl fun h2 es3 H3 T3 => ?_
  refine ev_nil ⟨rfl, g1, es3, _, _, _, _, [d0, d1, d2, d3], T3, H3, .cons (i0.mono le) (.cons (i1.mono le) (.cons (i2.mono le) (.cons (i3.mono le) .nil))), fun v g' le' i S' => hP v g' h2 (le.trans le') i S'⟩
theorem mk_Single (S : St B g V env m h) (G : Gd K mg mb B.hb ad) (hr : Room A 2) {a0 : Value} {d0 : D} (i0 : Is prog w g a0 d0) {P : Value → Heap → Prop}
    (hP : ∀ v g' h', GLe g g' → Is prog w g' v (.obj ad.Single [("mapping", d0)]) → St B g' V env m h' → P v h') : Ev prog w A (call (.ref ad.Single) [a0]) h P := by
  have c0 := G.Single.1
  refine ev_new S G.cx c0.cls G.Single.2 hr (names := fun x => [("self", x), ("mapping", a0)]) (fun _ _ _ _ _ _ => rfl) (fun x n y hy => ?_) (by rfl) (fun x dx g1 h1 _ _ _ _ _ L h₁ le hx S2 => ?_)
  · simp only [List.mem_cons, List.not_mem_nil, or_false] at hy
    rcases hy with rfl | rfl <;> exact .inl rfl
  refine init_field S2 G.cx c0.cls (c0.fr (by decide)) hx Half.nil (by decide) (by decide) rfl rfl fun h2 es0 H0 T0 => ?_
  refine ev_nil ⟨rfl, g1, es0, _, _, _, _, [d0], T0, H0, .cons (i0.mono le) .nil, fun v g' le' i S' => hP v g' h2 (le.trans le') i S'⟩
theorem mk_Script (S : St B g V env m h) (G : Gd K mg mb B.hb ad) (hr : Room A 2) {a0 a1 a2 : Value} {d0 d1 d2 : D} (i0 : Is prog w g a0 d0) (i1 : Is prog w g a1 d1) (i2 : Is prog w g a2 d2) {P : Value → Heap → Prop}
    (hP : ∀ v g' h', GLe g g' → Is prog w g' v (.obj ad.Script [("tag", d0), ("default", d1), ("languages", d2)]) → St B g' V env m h' → P v h') : Ev prog w A (call (.ref ad.Script) [a0, a1, a2]) h P := by
  have c0 := G.Script.1
  refine ev_new S G.cx c0.cls G.Script.2 hr (names := fun x => [("self", x), ("tag", a0), ("default", a1), ("languages", a2)]) (fun _ _ _ _ _ _ => rfl) (fun x n y hy => ?_) (by rfl) (fun x dx g1 h1 _ _ _ _ _ L h₁ le hx S2 => ?_)
  · simp only [List.mem_cons, List.not_mem_nil, or_false] at hy
    rcases hy with rfl | rfl | rfl | rfl <;> exact .inl rfl
  refine init_field S2 G.cx c0.cls (c0.fr (by decide)) hx Half.nil (by decide) (by decide) rfl rfl fun h2 es0 H0 T0 => ?_
  refine init_field T0 G.cx c0.cls (c0.fr (by decide)) hx H0 (by decide) (by decide) rfl rfl fun h2 es1 H1 T1 => ?_
  refine init_field T1 G.cx c0.cls (c0.fr (by decide)) hx H1 (by decide) (by decide) rfl rfl fun h2 es2 H2 T2 => ?_
  refine ev_nil ⟨rfl, g1, es2, _, _, _, _, [d0, d1, d2], T2, H2, .cons (i0.mono le) (.cons (i1.mono le) (.cons (i2.mono le) .nil)), fun v g' le' i S' => hP v g' h2 (le.trans le') i S'⟩
theorem mk_Layout (S : St B g V env m h) (G : Gd K mg mb B.hb ad) (hr : Room A 2) {a0 a1 a2 : Value} {d0 d1 d2 : D} (i0 : Is prog w g a0 d0) (i1 : Is prog w g a1 d1) (i2 : Is prog w g a2 d2) {P : Value → Heap → Prop}
    (hP : ∀ v g' h', GLe g g' → Is prog w g' v (.obj ad.Layout [("scripts", d0), ("features", d1), ("lookups", d2)]) → St B g' V env m h' → P v h') : Ev prog w A (call (.ref ad.Layout) [a0, a1, a2]) h P := by
  have c0 := G.Layout.1
  refine ev_new S G.cx c0.cls G.Layout.2 hr (names := fun x => [("self", x), ("scripts", a0), ("features", a1), ("lookups", a2)]) (fun _ _ _ _ _ _ => rfl) (fun x n y hy => ?_) (by rfl) (fun x dx g1 h1 _ _ _ _ _ L h₁ le hx S2 => ?_)
  · simp only [List.mem_cons, List.not_mem_nil, or_false] at hy
    rcases hy with rfl | rfl | rfl | rfl <;> exact .inl rfl
  refine init_field S2 G.cx c0.cls (c0.fr (by decide)) hx Half.nil (by decide) (by decide) rfl rfl fun h2 es0 H0 T0 => ?_
  refine init_field T0 G.cx c0.cls (c0.fr (by decide)) hx H0 (by decide) (by decide) rfl rfl fun h2 es1 H1 T1 => ?_
  refine init_field T1 G.cx c0.cls (c0.fr (by decide)) hx H1 (by decide) (by decide) rfl rfl fun h2 es2 H2 T2 => ?_
  refine ev_nil ⟨rfl, g1, es2, _, _, _, _, [d0, d1, d2], T2, H2, .cons (i0.mono le) (.cons (i1.mono le) (.cons (i2.mono le) .nil)), fun v g' le' i S' => hP v g' h2 (le.trans le') i S'⟩
/-- a list taken over by list(..) -/
theorem ev_copy {l : Value} {ds : List D} {P : Value → Heap → Prop} (S : St B g V env m h) (i : Is prog w g l (.list ds)) (hz : ds.length ≤ 10000) (hP : ∀ v g' h', GLe g g' → Is prog w g' v (.list ds) → St B g' V env m h' → P v h') :
    Ev prog w A (call (.type "list") [l]) h P := by
  obtain ⟨a, vs, k, rfl, ga, iss⟩ := i.asList
  refine ev_list_of (S.frz _ _ ga) (le_line (by rw [iss.length]; exact hz)) fun D h2 c kp hD ho => ?_
  obtain ⟨g2, le, hg, S2⟩ := S.grow1 kp hD ho
  exact hP _ g2 h2 le (.list hg (iss.mono le)) S2
theorem mk_Feature (S : St B g V env m h) (G : Gd K mg mb B.hb ad) (hr : Room A 2) {a b : Value} {d1 : D} {ds : List D} (i1 : Is prog w g a d1) (i2 : Is prog w g b (.list ds)) (hz : ds.length ≤ 10000) {P : Value → Heap → Prop}
    (hP : ∀ v g' h', GLe g g' → Is prog w g' v (.obj ad.Feature [("tag", d1), ("lookups", .list ds)]) → St B g' V env m h' → P v h') : Ev prog w A (call (.ref ad.Feature) [a, b]) h P := by
  have c0 := G.Feature.1
  refine ev_new S G.cx c0.cls G.Feature.2 hr (names := fun x => [("self", x), ("tag", a), ("lookups", b)]) (fun _ _ _ _ _ _ => rfl) (fun x n y hy => ?_) (by rfl) (fun x dx g1 h1 _ _ _ _ _ L h₁ le hx S2 => ?_)
  · simp only [List.mem_cons, List.not_mem_nil, or_false] at hy
    rcases hy with rfl | rfl | rfl <;> exact .inl rfl
  refine init_field S2 G.cx c0.cls (c0.fr (by decide)) hx Half.nil (by decide) (by decide) rfl rfl fun h2 es1 H1 S3 => ?_
  refine ev_cons (ev_set_field (ev_callB S3 G.cx G.bi.list (fun _ => keepable_type _ _) (ev_args_cons (ev_var S3 rfl (ev_args_nil (ev_copy S3 (i2.mono le) hz fun v g2 h3 le2 iv S4 => ?_))))))
  refine ev_var S4 rfl (ev_setattr S4 G.cx c0.cls (c0.fr (by decide)) (le2 _ _ hx) (fun _ => .head) H1 (by decide) (by decide) fun h4 es2 H2 S5 => ?_)
  refine ev_nil ⟨rfl, g2, es2, _, _, _, _, [d1, .list ds], S5, H2, .cons ((i1.mono le).mono le2) (.cons iv .nil), fun v g' le' i S' => hP v g' h4 (le.trans le') i S'⟩
theorem mk_LangSys (S : St B g V env m h) (G : Gd K mg mb B.hb ad) (hr : Room A 2) {a b : Value} {d1 : D} {ds : List D} (i1 : Is prog w g a d1) (i2 : Is prog w g b (.list ds)) (hz : ds.length ≤ 10000) {P : Value → Heap → Prop}
    (hP : ∀ v g' h', GLe g g' → Is prog w g' v (.obj ad.LangSys [("required", d1), ("features", .list ds)]) → St B g' V env m h' → P v h') : Ev prog w A (call (.ref ad.LangSys) [a, b]) h P := by
  have c0 := G.LangSys.1
  refine ev_new S G.cx c0.cls G.LangSys.2 hr (names := fun x => [("self", x), ("required", a), ("features", b)]) (fun _ _ _ _ _ _ => rfl) (fun x n y hy => ?_) (by rfl) (fun x dx g1 h1 _ _ _ _ _ L h₁ le hx S2 => ?_)
  · simp only [List.mem_cons, List.not_mem_nil, or_false] at hy
    rcases hy with rfl | rfl | rfl <;> exact .inl rfl
  refine init_field S2 G.cx c0.cls (c0.fr (by decide)) hx Half.nil (by decide) (by decide) rfl rfl fun h2 es1 H1 S3 => ?_
  refine ev_cons (ev_set_field (ev_callB S3 G.cx G.bi.list (fun _ => keepable_type _ _) (ev_args_cons (ev_var S3 rfl (ev_args_nil (ev_copy S3 (i2.mono le) hz fun v g2 h3 le2 iv S4 => ?_))))))
  refine ev_var S4 rfl (ev_setattr S4 G.cx c0.cls (c0.fr (by decide)) (le2 _ _ hx) (fun _ => .head) H1 (by decide) (by decide) fun h4 es2 H2 S5 => ?_)
  refine ev_nil ⟨rfl, g2, es2, _, _, _, _, [d1, .list ds], S5, H2, .cons ((i1.mono le).mono le2) (.cons iv .nil), fun v g' le' i S' => hP v g' h4 (le.trans le') i S'⟩
theorem mk_Contexts (S : St B g V env m h) (G : Gd K mg mb B.hb ad) (hr : Room A 2) {a b c : Value} {d1 d2 d3 : D} (i1 : Is prog w g a d1) (i2 : Is prog w g b d2) (i3 : Is prog w g c d3) {P : Value → Heap → Prop}
    (hP : ∀ v g' h', GLe g g' → Is prog w g' v (.obj ad.Contexts [("form", d1), ("is_chained", d2), ("sets", d3), ("coverage", .none), ("classes", .none)]) → St B g' V env m h' → P v h') : Ev prog w A (call (.ref ad.Contexts) [a, b, c]) h P := by
  obtain ⟨c0, ⟨doc, pm, an, cdv, ct, F⟩, kd, hdf⟩ := G.Contexts
  refine ev_make S G.cx c0.cls fun x dx g1 h1 le hx hdW S1 => ?_
  refine evk_fn (V := [(dx, dictOf [] 0)]) (binds := [("self", .ref x), ("form", a), ("is_chained", b), ("sets", c), ("coverage", .none), ("classes", .none)]) G.cx F (hr.make (k := 1) _ _ _).depth S1.frz S1.hbg (S1.wr (.head _)) rfl
    (fun s hs => BindsTo.of_defaults (T := ad.dContexts) rfl (by subst hs; exact S1.hbk _ _ hdf) rfl rfl rfl) (fun n y hy => ?_) (by rfl) (fun L h₁ S2 => ?_)
  · simp only [List.mem_cons, List.not_mem_nil, or_false] at hy
    rcases hy with rfl | rfl | rfl | rfl | rfl | rfl <;> exact .inl rfl
  refine init_field S2 G.cx c0.cls (c0.fr (by decide)) hx Half.nil (by decide) (by decide) rfl rfl fun h2 es0 H0 T0 => ?_
  refine init_field T0 G.cx c0.cls (c0.fr (by decide)) hx H0 (by decide) (by decide) rfl rfl fun h2 es1 H1 T1 => ?_
  refine init_field T1 G.cx c0.cls (c0.fr (by decide)) hx H1 (by decide) (by decide) rfl rfl fun h2 es2 H2 T2 => ?_
  refine init_field T2 G.cx c0.cls (c0.fr (by decide)) hx H2 (by decide) (by decide) rfl rfl fun h2 es3 H3 T3 => ?_
  refine init_field T3 G.cx c0.cls (c0.fr (by decide)) hx H3 (by decide) (by decide) rfl rfl fun h2 es4 H4 T4 => ?_
  refine ev_nil ⟨rfl, ?_⟩
  exact init_done (ds := [d1, d2, d3, .none, .none]) S1 hx hdW T4 H4 (.cons (i1.mono le) (.cons (i2.mono le) (.cons (i3.mono le) (.cons .none (.cons .none .nil))))) fun g' le' i S' => hP _ g' h2 (le.trans le') i S'
end
/-! ## a set, sorted -/
noncomputable def ins (k : Int) : List Int → List Int
  | [] => [k]
  | x :: r => if k < x then k :: x :: r else if k = x then x :: r else x :: ins k r
noncomputable def srt (xs : List Int) : List Int := xs.foldr ins []
theorem mem_ins (k a : Int) : ∀ l, a ∈ ins k l ↔ a = k ∨ a ∈ l
  | [] => by simp [ins]
  | x :: r => by
    unfold ins
    split
    · simp
    · split
      · rename_i h; subst h; simp
      · rw [List.mem_cons, mem_ins k a r, List.mem_cons]
        constructor
        · rintro (h | h | h) <;> simp [h]
        · rintro (h | h | h) <;> simp [h]
theorem mem_srt (a : Int) : ∀ xs, a ∈ srt xs ↔ a ∈ xs
  | [] => by simp [srt]
  | x :: r => by
    show a ∈ ins x (srt r) ↔ _
    rw [mem_ins, mem_srt a r, List.mem_cons]
theorem pw_ins (k : Int) : ∀ l : List Int, l.Pairwise (· < ·) → (ins k l).Pairwise (· < ·)
  | [], _ => by simp [ins]
  | x :: r, h => by
    have hx := (List.pairwise_cons.mp h).1
    have hr := (List.pairwise_cons.mp h).2
    unfold ins
    split
    · rename_i q
      refine List.pairwise_cons.mpr ⟨fun a ha => ?_, h⟩
      rcases List.mem_cons.mp ha with rfl | ha
      · exact q
      · have := hx a ha; (first | lia | omega)
    · split
      · exact h
      · refine List.pairwise_cons.mpr ⟨fun a ha => ?_, pw_ins k r hr⟩
        rw [mem_ins] at ha
        rcases ha with rfl | ha
        · (first | lia | omega)
        · exact hx a ha
theorem pw_srt : ∀ xs, (srt xs).Pairwise (· < ·)
  | [] => List.Pairwise.nil
  | x :: r => pw_ins x _ (pw_srt r)
/-- only one list rises and has these members -/
theorem rising_unique : ∀ {a b : List Int}, a.Pairwise (· < ·) → b.Pairwise (· < ·) → (∀ k, k ∈ a ↔ k ∈ b) → a = b
  | [], [], _, _, _ => rfl
  | [], y :: s, _, _, h => absurd ((h y).mpr (.head _)) (by simp)
  | x :: r, [], _, _, h => absurd ((h x).mp (.head _)) (by simp)
  | x :: r, y :: s, ha, hb, h => by
    have hx := (List.pairwise_cons.mp ha).1
    have hy := (List.pairwise_cons.mp hb).1
    have e : x = y := by
      have h1 := (h x).mp (.head _)
      have h2 := (h y).mpr (.head _)
      rcases List.mem_cons.mp h1 with h1 | h1
      · exact h1
      · rcases List.mem_cons.mp h2 with h2 | h2
        · exact h2.symm
        · have := hx y h2; have := hy x h1; (first | lia | omega)
    subst e
    rw [rising_unique (List.pairwise_cons.mp ha).2 (List.pairwise_cons.mp hb).2 fun k => ?_]
    constructor
    · intro hk
      rcases List.mem_cons.mp ((h k).mp (.tail _ hk)) with rfl | q
      · have := hx k hk; (first | lia | omega)
      · exact q
    · intro hk
      rcases List.mem_cons.mp ((h k).mpr (.tail _ hk)) with rfl | q
      · have := hy k hk; (first | lia | omega)
      · exact q
theorem eq_srt {zs xs : List Int} (a : zs.Pairwise (· < ·)) (b : ∀ k, k ∈ zs ↔ k ∈ xs) : zs = srt xs := rising_unique a (pw_srt xs) fun k => (b k).trans (mem_srt k xs).symm
theorem nodup_of_lt {l : List Int} (h : l.Pairwise (· < ·)) : l.Nodup := h.imp fun q => by (first | lia | omega)
theorem nodup_le : ∀ (l us : List Int), l.Nodup → (∀ x ∈ l, x ∈ us) → l.length ≤ us.length
  | [], _, _, _ => Nat.zero_le _
  | x :: r, us, nd, h => by
    rw [List.nodup_cons] at nd
    have hx := h x (.head _)
    have := nodup_le r (us.erase x) nd.2 fun y hy => (List.mem_erase_of_ne (by rintro rfl; exact nd.1 hy)).mpr (h y (.tail _ hy))
    rw [List.length_erase_of_mem hx] at this
    have := List.length_pos_of_mem hx
    rw [List.length_cons]; (first | lia | omega)
/-- few different numbers -/
noncomputable def Few (xs : List Int) : Prop := ∀ k ∈ xs, -20 ≤ k ∧ k ≤ 20
theorem few_len {xs : List Int} (h : Few xs) {ys : List Int} (nd : ys.Nodup) (hm : ∀ k, k ∈ ys ↔ k ∈ xs) : ys.length < 64 := by
  have hs : ∀ y ∈ ys, y ∈ (List.range 41).map fun i : Nat => (i : Int) - 20 := fun y hy => by
    have := h y ((hm y).mp hy)
    exact List.mem_map.mpr ⟨(y + 20).toNat, List.mem_range.mpr (by (first | lia | omega)), by (first | lia | omega)⟩
  have := nodup_le _ _ nd hs
  simp at this; (first | lia | omega)
theorem few_srt {xs : List Int} (h : Few xs) : Few (srt xs) := fun k hk => h k ((mem_srt k xs).mp hk)
theorem srt_len {xs : List Int} (h : Few xs) : (srt xs).length < 64 := few_len h (nodup_of_lt (pw_srt xs)) fun k => mem_srt k xs
section
variable {prog : Program} {w : World} {A : Around} {B : Bs} {g g' : Gm} {V V' : List (Addr × Obj)} {env : Env} {m : Str → Option Value} {h h' hb : Heap} {K : Frag} {mg mb : Str → Option Value} {ad : Ads} {C fI : Addr}
@[elab_as_elim] theorem Is.intK {Q : Value → Prop} {v : Value} {i : Int} (x : Is prog w g v (.int i)) (k : ∀ t, Q (.int i t)) : Q v := by cases x; exact k _
@[elab_as_elim] theorem Is.listK {Q : Value → Prop} {v : Value} {ds : List D} (x : Is prog w g v (.list ds)) (k : ∀ a vs c, g a = some (lobj vs c) → Iss prog w g vs ds → Q (.ref a)) : Q v := by cases x; exact k _ _ _ ‹_› ‹_›
@[elab_as_elim] theorem Is.tupK {Q : Value → Prop} {v : Value} {ds : List D} (x : Is prog w g v (.tup ds)) (k : ∀ a vs c, g a = some (tobj vs c) → Iss prog w g vs ds → Q (.ref a)) : Q v := by cases x; exact k _ _ _ ‹_› ‹_›
theorem Src.ofList {v : Value} {ds : List D} (i : Is prog w g v (.list ds)) : ∃ n Pi, Src g v n Pi ∧ ds.length = n ∧ ∀ j u, Pi j u → ∃ d, ds[j]? = some d ∧ Is prog w g u d := by
  obtain ⟨a, vs, k, rfl, ga, iss⟩ := i.asList
  exact ⟨_, _, .list ga, iss.length.symm, fun j u e => iss.get e⟩
theorem Src.ofTup {v : Value} {ds : List D} (i : Is prog w g v (.tup ds)) : ∃ n Pi, Src g v n Pi ∧ ds.length = n ∧ ∀ j u, Pi j u → ∃ d, ds[j]? = some d ∧ Is prog w g u d := by
  obtain ⟨a, vs, k, rfl, ga, iss⟩ := i.asTup
  exact ⟨_, _, .tuple ga, iss.length.symm, fun j u e => iss.get e⟩
/-- a comprehension over a list that is data, giving data: the new list may yet be written -/
theorem LcK.overLV {α : Type} {elt : Expr} {gc : Comprehension} {scope : Scope} {pos : Pos} {cl : List (Str × Addr)} {T : (Str → Option Value) → Addr → Str → Option Value} {Q : Addr → Heap → Prop} {xv : Value} {dof : α → D} {xs : List α} (S : St B g V env m h) (G : Gd K mg mb B.hb ad) (i : Is prog w g xv (.list (xs.map dof)))
    (lc : List (Str × Value)) (f : α → Option D) (hlc : Kn (cmpM cl m) lc) (hn : xs.length < 100000)
    (turn : ∀ (j : Nat) a u g2 m h B' V' C, Gd K mg mb B'.hb ad → InC V V' B' C scope → xs[j]? = some a → Is prog w g u (dof a) → GLe g g2 → Kn m lc → St B' g2 V' (cmpEnv scope cl C env) m h →
      Ev prog w A (assign gc.target (cmpEnv scope cl C env) u) h fun _ h2 => Ev prog w A (testsT gc.ifs (cmpEnv scope cl C env)) h2 fun ok h3 =>
        if ok = true then Ev prog w A (eval elt (cmpEnv scope cl C env)) h3 (CdT prog w lc B' g2 V' (cmpEnv scope cl C env) (f a))
        else CdF lc B' g2 V' (cmpEnv scope cl C env) (f a = none) h3)
    (k : ∀ D g5 ys c h', GLe g g5 → Iss prog w g5 ys (xs.filterMap f) → D ∉ B.W → St B g5 ((D, lobj ys c) :: V) env (T m D) h' → Q D h') (ha : gc.is_async = 0 := by rfl) :
    LcK prog w A B elt [gc] scope pos cl env T Q xv h := by
  obtain ⟨n, Pi, src, hn', hPi⟩ := Src.ofList i
  rw [List.length_map] at hn'
  refine ⟨g, V, m, n, Pi, _, src, S, comp_data G lc xs f hlc hn' (hn' ▸ hn) (fun j a v g2 m h B' V' C G' hV hj _ pv => ?_) ha, fun D g5 V5 ys c h' le hV ⟨e, hys⟩ hDW S5 => ?_⟩
  · obtain ⟨d, hd, iu⟩ := hPi j v pv
    rw [List.getElem?_map, hj] at hd; cases hd
    exact turn j a v g2 m h B' V' C G' hV hj iu
  · subst e
    exact k D g5 ys c h' le hys hDW S5
/-- a comprehension over a list that is data, giving data -/
theorem LcK.overL {α : Type} {elt : Expr} {gc : Comprehension} {scope : Scope} {pos : Pos} {cl : List (Str × Addr)} {T : (Str → Option Value) → Addr → Str → Option Value} {Q : Addr → Heap → Prop} {xv : Value} {dof : α → D} {xs : List α} (S : St B g V env m h) (G : Gd K mg mb B.hb ad) (i : Is prog w g xv (.list (xs.map dof)))
    (lc : List (Str × Value)) (f : α → Option D) (hlc : Kn (cmpM cl m) lc) (hn : xs.length < 100000)
    (turn : ∀ (j : Nat) a u g2 m h B' V' C, Gd K mg mb B'.hb ad → InC V V' B' C scope → xs[j]? = some a → Is prog w g u (dof a) → GLe g g2 → Kn m lc → St B' g2 V' (cmpEnv scope cl C env) m h →
      Ev prog w A (assign gc.target (cmpEnv scope cl C env) u) h fun _ h2 => Ev prog w A (testsT gc.ifs (cmpEnv scope cl C env)) h2 fun ok h3 =>
        if ok = true then Ev prog w A (eval elt (cmpEnv scope cl C env)) h3 (CdT prog w lc B' g2 V' (cmpEnv scope cl C env) (f a))
        else CdF lc B' g2 V' (cmpEnv scope cl C env) (f a = none) h3)
    (k : ∀ D g5 ys c h' g6, GLe g g5 → Iss prog w g5 ys (xs.filterMap f) → GLe g5 g6 → g6 D = some (lobj ys c) → St B g6 V env (T m D) h' → Q D h') (ha : gc.is_async = 0 := by rfl) :
    LcK prog w A B elt [gc] scope pos cl env T Q xv h :=
  LcK.overLV S G i lc f hlc hn turn (fun D g5 ys c h' le hys hDW S5 => S5.freezeK .head hDW fun g6 le6 hg S6 => k D g5 ys c h' g6 le hys le6 hg S6) ha
/-- the second clause, over a list that is data -/
theorem Cd2.overL {β : Type} {lc : List (Str × Value)} {B' : Bs} {V0 V2 : List (Addr × Obj)} {cenv : Env} {gd : Comprehension} {elt : Expr} {q : β → Option D} {dof : β → D} {xs : List β} {xv : Value} (i : Is prog w g' xv (.list (xs.map dof))) (le : GLe g g') (kn : Kn m lc) (S : St B' g' V2 cenv m h)
    (turn : ∀ (j : Nat) b u g m h V3, (∀ p ∈ V0, p ∈ V3) → xs[j]? = some b → Is prog w g' u (dof b) → GLe g' g → Kn m lc → St B' g V3 cenv m h →
      Ev prog w A (assign gd.target cenv u) h fun _ h2 => Ev prog w A (testsT gd.ifs cenv) h2 fun ok h3 =>
        if ok = true then Ev prog w A (eval elt cenv) h3 (CdT prog w lc B' g V3 cenv (q b))
        else CdF lc B' g V3 cenv (q b = none) h3) :
    Cd2 lc B' g V2 cenv xs.length (Cd2T prog w A lc B' V0 cenv gd elt xs q) xv h := by
  obtain ⟨n, Pi, src, hn', hPi⟩ := Src.ofList i
  rw [List.length_map] at hn'
  refine ⟨g', m, n, Pi, src, le, kn, hn', S, fun j b v g m h V3 hV hb _ pv => ?_⟩
  obtain ⟨d, hd, iu⟩ := hPi j v pv
  rw [List.getElem?_map, hb] at hd; cases hd
  exact turn j b v g m h V3 hV hb iu
/-- two clauses, the first over a list that is data -/
theorem LcK.overL2 {α β : Type} {elt : Expr} {gc gd : Comprehension} {scope : Scope} {pos : Pos} {cl : List (Str × Addr)} {T : (Str → Option Value) → Addr → Str → Option Value} {Q : Addr → Heap → Prop} {xv : Value} {dof : α → D} {xs : List α} (S : St B g V env m h) (G : Gd K mg mb B.hb ad) (i : Is prog w g xv (.list (xs.map dof)))
    (lc : List (Str × Value)) (p : α → Bool) (ins : α → List β) (q : α → β → Option D) (hh : A.handled = none) (hlc : Kn (cmpM cl m) lc) (hn : xs.length ≤ 500) (hins : ∀ a ∈ xs, (ins a).length ≤ 100)
    (turn : ∀ (j : Nat) a u g2 m h B' V' C, Gd K mg mb B'.hb ad → InC V V' B' C scope → xs[j]? = some a → Is prog w g u (dof a) → GLe g g2 → Kn m lc → St B' g2 V' (cmpEnv scope cl C env) m h →
      Ev prog w A (assign gc.target (cmpEnv scope cl C env) u) h fun _ h2 => Ev prog w A (testsT gc.ifs (cmpEnv scope cl C env)) h2 fun ok h3 =>
        if ok = true then p a = true ∧ Ev prog w A (eval gd.iter (cmpEnv scope cl C env)) h3 (Cd2 lc B' g2 V' (cmpEnv scope cl C env) (ins a).length
          (Cd2T prog w A lc B' V (cmpEnv scope cl C env) gd elt (ins a) (q a)))
        else CdF lc B' g2 V' (cmpEnv scope cl C env) (p a = false) h3)
    (k : ∀ D g5 ys c h' g6, GLe g g5 → Iss prog w g5 ys (xs.flatMap fun a => if p a = true then (ins a).filterMap (q a) else []) → GLe g5 g6 → g6 D = some (lobj ys c) → St B g6 V env (T m D) h' → Q D h')
    (hds : ∀ C x, foldedSetIterable gd.iter (cmpEnv scope cl C env) x = Pure.pure x := by intro _ _; rfl) (ha : gc.is_async = 0 := by rfl) (hd : gd.is_async = 0 := by rfl) :
    LcK prog w A B elt [gc, gd] scope pos cl env T Q xv h := by
  obtain ⟨n, Pi, src, hn', hPi⟩ := Src.ofList i
  rw [List.length_map] at hn'
  refine ⟨g, V, m, n, Pi, _, src, S, comp_data2 G lc xs p ins q hh hlc hn' (hn' ▸ hn) hins (fun j a v g2 m h B' V' C G' hV hj _ pv => ?_) hds ha hd, fun D g5 V5 ys c h' le hV ⟨e, hys⟩ hDW S5 => ?_⟩
  · obtain ⟨d, hd, iu⟩ := hPi j v pv
    rw [List.getElem?_map, hj] at hd; cases hd
    exact turn j a v g2 m h B' V' C G' hV hj iu
  · subst e
    refine S5.freezeK .head hDW fun g6 le6 hg S6 => ?_
    exact k D g5 ys c h' g6 le hys le6 hg S6
/-- set(xs), xs a list of ints -/
theorem ev_set_is {v : Value} {xs : List Int} {P : Value → Heap → Prop} (S : St B g V env m h) (hh : A.handled = none) (i : Is prog w g v (.list (iL xs))) (hz : xs.length < 1000)
    (hP : ∀ R g' h', GLe g g' → g R = none → SetV prog w g' (.ref R) xs → St B g' V env m h' → P (.ref R) h') : Ev prog w A (call (.type "set") [v]) h P := by
  obtain ⟨a, vs, k, rfl, ga, iss⟩ := i.asList
  exact ev_set S hh ga iss.iL (by rw [iss.length, iL_length]; exact hz) hP
inductive SrtK (prog : Program) (w : World) (B : Bs) (env : Env) (g : Gm) (P : Value → Heap → Prop) (v : Value) (h1 : Heap) : Prop
  | mk (g1 : Gm) (V1 : List (Addr × Obj)) (m1 : Str → Option Value) (xs : List Int) : GLe g g1 → Is prog w g1 v (.list (iL xs)) → Few xs → xs.length < 1000 → St B g1 V1 env m1 h1 →
      (∀ u g2 h2, GLe g1 g2 → Is prog w g2 u (.list (iL (srt xs))) → St B g2 V1 env m1 h2 → P u h2) → SrtK prog w B env g P v h1
/-- sorted(set(xs)) -/
theorem ev_srt {e : Expr} {p1 p2 p3 p4 : Pos} {P : Value → Heap → Prop} (S : St B g V env m h) (G : Gd K mg mb B.hb ad) (hh : A.handled = none)
    (x : Ev prog w A (eval e env) h (SrtK prog w B env g P))
    (he : starEach [e] env = [(false, eval e env)] := by rfl)
    (hk1 : env.kindOf "sorted" = some .globalImplicit := by rfl) (hk2 : env.kindOf "set" = some .globalImplicit := by rfl) (hg : env.globals = mainGlobals := by rfl) (hbn : env.builtins = builtinsNs := by rfl)
    (he2 : starEach [.Call (.Name "set" p2) [e] [] p3] env = [(false, eval (.Call (.Name "set" p2) [e] [] p3) env)] := by rfl) :
    Ev prog w A (eval (.Call (.Name "sorted" p1) [.Call (.Name "set" p2) [e] [] p3] [] p4) env) h P := by
  refine ev_callB S G.cx G.bi.sorted (fun _ => keepable_builtin _ _) (ev_args_cons (ev_callB S G.cx G.bi.set (fun _ => keepable_type _ _) (ev_args_cons (x.mono fun v h1 ⟨g1, V1, m1, xs, le, i, few, hz, S1, hP⟩ => ev_args_nil ?_) he) hk2 (by rfl) hg hbn (by rw [he]; rfl)) he2) hk1 (by rfl) hg hbn (by rw [he2]; rfl)
  refine ev_set_is S1 hh i hz fun R g2 h2 le2 _ sv S2 => ev_args_nil ?_
  refine ev_sorted_set S2 hh sv (fun _ ys nd hm => few_len few nd hm) fun D g3 h3 zs le3 iz hs hm S3 => ?_
  rw [eq_srt hs hm] at iz
  exact hP _ g3 h3 (le2.trans le3) iz S3
/-- found.told() -/
theorem c_Ftold (G : Gd K mg mb hb ad) (hr : A.depth < recursionLimit) (H : Hp hb g h) {v : Value} {d1 d2 d3 : D} (i : Is prog w g v (.obj ad.Finding [("tag", d1), ("what", d2), ("at", d3)])) (n1 : d1 ≠ .any) (n2 : d2 ≠ .any) (n3 : d3 ≠ .any) :
    Gives prog w A g h (.ref ad.Ftold) [v] fun g' u => Is prog w g' u (.tup [d1, d2, d3]) := fun P hP => by
  have c0 := G.Finding.1
  refine enter0 (V := []) G G.Ftold.2.2 hr H (Wr.nil _ _) (binds := [("self", v)]) (fun _ _ _ _ _ => rfl) (fun n x hx => ?_) (by rfl) (fun x h₁ _ S => ?_)
  · simp only [List.mem_cons, List.not_mem_nil, or_false] at hx
    rcases hx with rfl <;> exact .inl rfl
  have fld : ∀ {A' : Around} (name : Str) (j : Nat) (d : D), fFinding[j]? = some name → [d1, d2, d3][j]? = some d → d ≠ .any → name ∈ fFinding → ∀ (Q : Value → Heap → Prop), (∀ u, Is prog w g u d → Q u h₁) → Ev prog w A' (getAttr v name true) h₁ Q := fun {A'} name j d h1 h2 h3 h4 Q hQ =>
    ev_field (ns := fFinding) (ds := [d1, d2, d3]) S G.cx c0.cls (c0.fr h4) i rfl (by decide) h1 h2 h3 hQ
  refine ev_cons (ev_return (ev_tuple (ev_args_cons (ev_attr (ev_var S rfl (fld "tag" 0 d1 rfl rfl n1 (by decide) _ fun u1 i1 => ?_))))))
  refine ev_args_cons (ev_attr (ev_var S rfl (fld "what" 1 d2 rfl rfl n2 (by decide) _ fun u2 i2 => ?_)))
  refine ev_args_cons (ev_attr (ev_var S rfl (fld "at" 2 d3 rfl rfl n3 (by decide) _ fun u3 i3 => ev_args_nil ⟨le_line (le_dec rfl), ?_⟩)))
  refine S.push_frzK (tobj [u1, u2, u3] 0) rfl fun g2 le hg S2 => ?_
  exact hP _ g2 _ S2.ext (.tup hg (.cons (i1.mono le) (.cons (i2.mono le) (.cons (i3.mono le) .nil))))
theorem iL_get {xs : List Int} {j : Nat} {d : D} (h : (iL xs)[j]? = some d) : ∃ k, xs[j]? = some k ∧ d = .int k := by
  unfold iL at h
  rw [List.getElem?_map, Option.map_eq_some_iff] at h
  obtain ⟨k, a, b⟩ := h
  exact ⟨k, a, b.symm⟩
/-- findings_of -/
theorem c_findings (G : Gd K mg mb hb ad) (hr : Room A 4) (H : Hp hb g h) {a b v : Value} {d1 d2 : D} {xs : List Int} (i1 : Is prog w g a d1) (i2 : Is prog w g b d2) (i3 : Is prog w g v (.list (iL xs))) (few : Few xs) (hz : xs.length < 1000) :
    Gives prog w A g h (.ref ad.findings_of) [a, b, v] fun g' u => Is prog w g' u (.list ((srt xs).map fun k => .obj ad.Finding [("tag", d1), ("what", d2), ("at", .int k)])) := fun P hP => by
  refine enter (V := []) G G.findings_of.2 hr H (Wr.nil _ _) (binds := [("tag", a), ("what", b), ("numbers", v)]) (fun _ _ _ _ _ => rfl) (fun n x hx => ?_) (by rfl) (fun x A' T h₁ hr' hT S => ?_)
  · simp only [List.mem_cons, List.not_mem_nil, or_false] at hx
    rcases hx with rfl | rfl | rfl
    · exact .inr ⟨rfl, rfl⟩
    · exact .inr ⟨rfl, rfl⟩
    · exact .inl rfl
  refine ev_cons (ev_return (ev_elc S hr'.hh rfl (ev_srt S G hr'.hh (ev_var S rfl ⟨g, _, _, xs, GLe.refl g, i3, few, hz, S, fun u g2 h2 le2 iu S2 => ?_⟩))))
  have hl := srt_len few
  refine LcK.overL (xs := srt xs) S2 G iu [("tag", a), ("what", b)] (fun k => some (.obj ad.Finding [("tag", d1), ("what", d2), ("at", .int k)])) ?_ (by (first | lia | omega)) ?_ ?_
  · refine Kn.cmp (l := [("tag", a), ("what", b)]) (.cons rfl (.cons rfl .nil)) fun p hp => ⟨hp, ?_⟩
    simp only [List.mem_cons, List.not_mem_nil, or_false] at hp
    rcases hp with rfl | rfl <;> rfl
  · intro j k u g m h B' V' C G hV hk iu le kn S
    refine ev_assign_name S (.inl ⟨rfl, rfl⟩) fun h2 S => ev_noTests ?_
    have kn' : Kn (setM m "number" u) [("tag", a), ("what", b)] := kn.other
    refine ev_callC S G.cx G.Finding.1 (ev_args_cons (ev_var S kn'.g0 (ev_args_cons (ev_var S kn'.g1 (ev_args_cons (ev_var S (setM_self _ _ _) (ev_args_nil ⟨S.hbk, ?_⟩)))))))
    have le3 := (S2.le.trans le)
    refine mk_Finding S G (hr'.less (by decide)) (i1.mono le3) (i2.mono le3) (iu.mono le) fun v g' h' le' i S' => ⟨g', _, _, le', kn', S', rfl, i⟩
  · intro D5 g5 ys k5 h5 g6 le5 hys le6 hg6 S6
    refine hT _ _ (hP _ g6 _ S6.ext (.list hg6 ?_))
    have : (srt xs).filterMap (fun k => some (D.obj ad.Finding [("tag", d1), ("what", d2), ("at", .int k)])) = (srt xs).map fun k => .obj ad.Finding [("tag", d1), ("what", d2), ("at", .int k)] := by
      rw [List.filterMap_eq_map']
    rw [← this]
    exact hys.mono le6
end
section
variable {prog : Program} {w : World} {A : Around} {B : Bs} {g g' : Gm} {V V' : List (Addr × Obj)} {env : Env} {m : Str → Option Value} {h h' hb : Heap} {K : Frag} {mg mb : Str → Option Value} {ad : Ads} {C fI : Addr}
/-- where a turn of a loop leaves things -/
inductive TurnI (B : Bs) (env : Env) (J : Jt) (i : Nat) (g : Gm) (I : Addr) (oI : Obj) (h : Heap) : Prop
  | mk (g' : Gm) (V' : List (Addr × Obj)) (m' : Str → Option Value) : GLe g g' → J (i + 1) g' V' m' → St B g' ((I, oI) :: V') env m' h → TurnI B env J i g I oI h
noncomputable def ForT (prog : Program) (w : World) (A : Around) (B : Bs) (env : Env) (J : Jt) (target : Expr) (body : List Stmt) (P : Flow → Heap → Prop) (g₁ : Gm) (n : Nat) (Pi : Nat → Value → Prop) : Prop :=
  ∀ i v g V m h I oI (T : Flow → Heap → Prop), (∀ h', TurnI B env J i g I oI h' → T .next h') → (∀ u h', P (.ret u) h' → T (.ret u) h') → i < n → Pi i v → GLe g₁ g → J i g V m → St B g ((I, oI) :: V) env m h →
    Ev prog w A (assign target env v) h fun _ h2 => Ev prog w A (execs body env) h2 T
theorem ev_forS {target iter : Expr} {body : List Stmt} {pos : Pos} {P : Flow → Heap → Prop} (S : St B g V env m h) (J : Jt) (hh : A.handled = none)
    (x : Ev prog w A (eval iter env) h (ForK B env J (ForT prog w A B env J target body P) P))
    (hs : ∀ x, foldedSetIterable iter env x = Pure.pure x := by intro _; rfl) : Ev prog w A (exec (.For target iter body [] pos) env) h P :=
  ev_for_src J hh (x.mono fun xv h1 z => by
    obtain ⟨g₁, V₁, m₁, n, Pi, src, S1, j0, turn, done⟩ := z
    exact ⟨g₁, V₁, m₁, n, Pi, src, S1, j0, fun i v g V m h I oI hi pv le j S => turn i v g V m h I oI _ (fun h' y => by
      obtain ⟨g', V', m', a, b, c⟩ := y
      exact ⟨g', V', m', a, b, c⟩) (fun _ _ y => y) hi pv le j S, done⟩) hs
/-- over a list that is data -/
theorem ForK.overL {α : Type} {target : Expr} {body : List Stmt} {P : Flow → Heap → Prop} {J : Jt} {xv : Value} {dof : α → D} {xs : List α} (S : St B g V env m h) (i : Is prog w g xv (.list (xs.map dof))) (j0 : J 0 g V m)
    (turn : ∀ (j : Nat) a u g2 V m h I oI (T : Flow → Heap → Prop), (∀ h', TurnI B env J j g2 I oI h' → T .next h') → (∀ u h', P (.ret u) h' → T (.ret u) h') → xs[j]? = some a → Is prog w g u (dof a) → GLe g g2 → J j g2 V m → St B g2 ((I, oI) :: V) env m h →
      Ev prog w A (assign target env u) h fun _ h2 => Ev prog w A (execs body env) h2 T)
    (done : ∀ g2 V m h, GLe g g2 → J xs.length g2 V m → St B g2 V env m h → P .next h) :
    ForK B env J (ForT prog w A B env J target body P) P xv h := by
  obtain ⟨n, Pi, src, hn', hPi⟩ := Src.ofList i
  rw [List.length_map] at hn'
  subst hn'
  refine ⟨g, V, m, _, Pi, src, S, j0, fun j v g2 V m h I oI T hT hR hj pv le jj S => ?_, done⟩
  obtain ⟨d, hd, iu⟩ := hPi j v pv
  rw [List.getElem?_map, Option.map_eq_some_iff] at hd
  obtain ⟨a, ha, rfl⟩ := hd
  exact turn j a v g2 V m h I oI T hT hR ha iu le jj S
theorem ForK.overT {α : Type} {target : Expr} {body : List Stmt} {P : Flow → Heap → Prop} {J : Jt} {xv : Value} {dof : α → D} {xs : List α} (S : St B g V env m h) (i : Is prog w g xv (.tup (xs.map dof))) (j0 : J 0 g V m)
    (turn : ∀ (j : Nat) a u g2 V m h I oI (T : Flow → Heap → Prop), (∀ h', TurnI B env J j g2 I oI h' → T .next h') → (∀ u h', P (.ret u) h' → T (.ret u) h') → xs[j]? = some a → Is prog w g u (dof a) → GLe g g2 → J j g2 V m → St B g2 ((I, oI) :: V) env m h →
      Ev prog w A (assign target env u) h fun _ h2 => Ev prog w A (execs body env) h2 T)
    (done : ∀ g2 V m h, GLe g g2 → J xs.length g2 V m → St B g2 V env m h → P .next h) :
    ForK B env J (ForT prog w A B env J target body P) P xv h := by
  obtain ⟨n, Pi, src, hn', hPi⟩ := Src.ofTup i
  rw [List.length_map] at hn'
  subst hn'
  refine ⟨g, V, m, _, Pi, src, S, j0, fun j v g2 V m h I oI T hT hR hj pv le jj S => ?_, done⟩
  obtain ⟨d, hd, iu⟩ := hPi j v pv
  rw [List.getElem?_map, Option.map_eq_some_iff] at hd
  obtain ⟨a, ha, rfl⟩ := hd
  exact turn j a v g2 V m h I oI T hT hR ha iu le jj S
inductive AppK (B : Bs) (env : Env) (F : Addr) (P : Flow → Heap → Prop) (v : Value) (h1 : Heap) : Prop
  | mk (g1 : Gm) (V1 : List (Addr × Obj)) (m1 : Str → Option Value) (vs : List Value) (c : Nat) (f : Obj → List (Addr × Obj)) : St B g1 V1 env m1 h1 → (∀ o', VU F (lobj vs c) o' V1 (f o')) → vs.length ≤ 10000 → (∀ h2, St B g1 (f (lobj (vs ++ [v]) (c + 1))) env m1 h2 → P .next h2) → AppK B env F P v h1
/-- x.append(e), x a list under way -/
theorem ev_app {x : Str} {e : Expr} {p1 p2 p3 pos : Pos} {F : Addr} {us : List Value} {c0 : Nat} {P : Flow → Heap → Prop} (S : St B g V env m h) (hv : m x = some (.ref F)) (hF : (F, lobj us c0) ∈ V)
    (y : Ev prog w A (eval e env) h (AppK B env F P))
    (he : starEach [e] env = [(false, eval e env)] := by rfl) (hk : isVar env x = true := by rfl) (hd : (x == ("__debug__" : Str)) = false := by rfl) (hln : (p2.endLine == p3.line) = true := by rfl)
    (hi : interactive env = false := by rfl) : Ev prog w A (exec (.Expr (.Call (.Attribute (.Name x p1) "append" p2) [e] [] p3) pos) env) h P := by
  refine ev_expr (ev_method (ev_var S hv (fun pl => ev_getm_list (S.getV hF) slot_list_append PySem.F.type_list_append (ev_args_cons (y.mono fun v h1 z => ev_args_nil ⟨keepable_builtin _ _, ?_⟩) he)) hk hd) (by rfl) (by rw [he]; rfl) hln (by rw [he]; rfl)) hi (by rfl)
  obtain ⟨g1, V1, m1, vs, c, f, S1, u, hz, fin⟩ := z
  refine ev_append (S1.getV (u (lobj vs c)).mem) (le_line hz) fun h2 e2 b2 => fin h2 (S1.upd (u _) b2 e2 (lobj_nocell _ _))
inductive ExtK (prog : Program) (w : World) (B : Bs) (env : Env) (F : Addr) (P : Flow → Heap → Prop) (v : Value) (h1 : Heap) : Prop
  | mk (g1 : Gm) (V1 : List (Addr × Obj)) (m1 : Str → Option Value) (vs : List Value) (c : Nat) (f : Obj → List (Addr × Obj)) (ds : List D) : St B g1 V1 env m1 h1 → (∀ o', VU F (lobj vs c) o' V1 (f o')) → Is prog w g1 v (.list ds) → vs.length + ds.length < 100000 →
      (∀ h2 ws e, Iss prog w g1 ws ds → St B g1 (f (lobj (vs ++ ws) e)) env m1 h2 → P .next h2) → ExtK prog w B env F P v h1
/-- x.extend(e), e a frozen list -/
theorem ev_ext {x : Str} {e : Expr} {p1 p2 p3 pos : Pos} {F : Addr} {us : List Value} {c0 : Nat} {P : Flow → Heap → Prop} (S : St B g V env m h) (hv : m x = some (.ref F)) (hF : (F, lobj us c0) ∈ V)
    (y : Ev prog w A (eval e env) h (ExtK prog w B env F P))
    (he : starEach [e] env = [(false, eval e env)] := by rfl) (hk : isVar env x = true := by rfl) (hd : (x == ("__debug__" : Str)) = false := by rfl) (hln : (p2.endLine == p3.line) = true := by rfl)
    (hi : interactive env = false := by rfl) : Ev prog w A (exec (.Expr (.Call (.Attribute (.Name x p1) "extend" p2) [e] [] p3) pos) env) h P := by
  refine ev_expr (ev_method (ev_var S hv (fun pl => ev_getm_list (S.getV hF) PySem.F.slot_list_extend PySem.F.type_list_extend (ev_args_cons (y.mono fun v h1 z => ev_args_nil ⟨keepable_builtin _ _, ?_⟩) he)) hk hd) (by rfl) (by rw [he]; rfl) hln (by rw [he]; rfl)) hi (by rfl)
  obtain ⟨g1, V1, m1, vs, c, f, ds, S1, u, i, hz, fin⟩ := z
  obtain ⟨a, ws, k, rfl, ga, iss⟩ := i.asList
  refine ev_extend (S1.getV (u (lobj vs c)).mem) (S1.frz _ _ ga) (by rw [iss.length]; exact hz) fun h2 e e2 b2 => fin h2 ws e iss (S1.upd (u _) b2 e2 (lobj_nocell _ _))
/-! ## the law's own words -/
theorem c_told (G : Gd K mg mb hb ad) (hr : Room A 4) (H : Hp hb g h) {b v : Value} {s2 : Str} {xs : List Int} (i2 : Is prog w g b (.str s2)) (i3 : Is prog w g v (.list (iL xs))) (few : Few xs) (hz : xs.length < 1000) :
    Gives prog w A g h (.ref ad.told) [b, v] fun g' u => Is prog w g' u (.list ((srt xs).map fun k => .tup [.str "GSUB", .str s2, .int k])) := fun P hP => by
  refine enter (V := []) G G.told.2 hr H (Wr.nil _ _) (binds := [("what", b), ("numbers", v)]) (fun _ _ _ _ _ => rfl) (fun n x hx => ?_) (by rfl) (fun x A' T h₁ hr' hT S => ?_)
  · simp only [List.mem_cons, List.not_mem_nil, or_false] at hx
    rcases hx with rfl | rfl
    · exact .inr ⟨rfl, rfl⟩
    · exact .inl rfl
  refine ev_cons (ev_return (ev_elc S hr'.hh rfl (ev_srt S G hr'.hh (ev_var S rfl ⟨g, _, _, xs, GLe.refl g, i3, few, hz, S, fun u g2 h2 le2 iu S2 => ?_⟩))))
  have hl := srt_len few
  refine LcK.overL (xs := srt xs) S2 G iu [("what", b)] (fun k => some (.tup [.str "GSUB", .str s2, .int k])) ?_ (by (first | lia | omega)) ?_ ?_
  · refine Kn.cmp (l := [("what", b)]) (.cons rfl .nil) fun p hp => ⟨hp, ?_⟩
    simp only [List.mem_cons, List.not_mem_nil, or_false] at hp
    rcases hp with rfl; rfl
  · intro j k u g m h B' V' C G hV hk iu le kn S
    refine ev_assign_name S (.inl ⟨rfl, rfl⟩) fun h2 S => ev_noTests ?_
    have kn' : Kn (setM m "number" u) [("what", b)] := kn.other
    refine ev_tuple (ev_args_cons (ev_str fun t => ev_args_cons (ev_var S kn'.g0 (ev_args_cons (ev_var S (setM_self _ _ _) (ev_args_nil ⟨le_line (le_dec rfl), ?_⟩))))))
    have le3 := (S2.le.trans le)
    refine S.push_frzK (tobj [.str "GSUB" t, b, u] 0) rfl fun g3 le4 hg S3 => ?_
    exact ⟨g3, _, _, le4, kn', S3, rfl, .tup hg (.cons .str (.cons ((i2.mono le3).mono le4) (.cons ((iu.mono le).mono le4) .nil)))⟩
  · intro D5 g5 ys k5 h5 g6 le5 hys le6 hg6 S6
    refine hT _ _ (hP _ g6 _ S6.ext (.list hg6 ?_))
    rw [List.filterMap_eq_map'] at hys
    exact hys.mono le6
/-! ## tables -/
noncomputable def actD (a : Int × Int) : D := .tup [.int a.1, .int a.2]
structure Rl where
  width : Nat
  acts : List (Int × Int)
noncomputable def ruleD (ad : Ads) (r : Rl) : D := .obj ad.Rule [("back", .tup []), ("inside", .tup (List.replicate r.width (.int 3))), ("ahead", .tup []), ("actions", .tup (r.acts.map actD))]
noncomputable def ctxD (ad : Ads) (chained : Bool) (rs : List Rl) : D := .obj ad.Contexts [("form", .int 1), ("is_chained", .bool chained), ("sets", .dicti [(3, .list (rs.map (ruleD ad)))]), ("coverage", .none), ("classes", .none)]
theorem Is.asDicti {v : Value} {kvs : List (Int × D)} (x : Is prog w g v (.dicti kvs)) : ∃ a o vs, v = .ref a ∧ g a = some o ∧ (a == sysModules) = false ∧ o.IsDictOf (intKind prog w) vs ∧ vs.map (·.1) = kvs.map (·.1) ∧ Iss prog w g (vs.map (·.2)) (kvs.map (·.2)) := by
  cases x with
  | @dicti a o vs ns us ds hg hs hi h1 h2 iss =>
    subst h1 h2
    have hl : (vs.map (·.1)).length = ds.length := by rw [← iss.length]; simp
    exact ⟨a, o, vs, rfl, hg, hs, hi, by rw [List.map_fst_zip (Nat.le_of_eq hl)], by rw [List.map_snd_zip (Nat.le_of_eq hl.symm)]; exact iss⟩
theorem Is.asDicts {v : Value} {kvs : List (Str × D)} (x : Is prog w g v (.dicts kvs)) : ∃ a o vs, v = .ref a ∧ g a = some o ∧ (a == sysModules) = false ∧ o.IsDictOf (PySem.strKind prog w) vs ∧ vs.map (·.1) = kvs.map (·.1) ∧ Iss prog w g (vs.map (·.2)) (kvs.map (·.2)) := by
  cases x with
  | @dicts a o vs ns us ds hg hs hi h1 h2 iss =>
    subst h1 h2
    have hl : (vs.map (·.1)).length = ds.length := by rw [← iss.length]; simp
    exact ⟨a, o, vs, rfl, hg, hs, hi, by rw [List.map_fst_zip (Nat.le_of_eq hl)], by rw [List.map_snd_zip (Nat.le_of_eq hl.symm)]; exact iss⟩
/-- table.rules() -/
theorem c_rules (G : Gd K mg mb hb ad) (hr : Room A 3) (H : Hp hb g h) {v : Value} {ch : Bool} {rs : List Rl} (i : Is prog w g v (ctxD ad ch rs)) (hz : rs.length ≤ 10) :
    Gives prog w A g h (.ref ad.Frules) [v] fun g' u => Is prog w g' u (.list (rs.map (ruleD ad))) := fun P hP => by
  have c0 := G.Contexts.1
  refine enter (V := []) G G.Frules.2.2 hr H (Wr.nil _ _) (binds := [("self", v)]) (fun _ _ _ _ _ => rfl) (fun n x hx => ?_) (by rfl) (fun x A' T h₁ hr' hT S => ?_)
  · simp only [List.mem_cons, List.not_mem_nil, or_false] at hx
    rcases hx with rfl; exact .inl rfl
  -- found = []
  refine ev_cons (ev_assign (ev_list (ev_args_nil ⟨le_line (le_dec rfl), ?_⟩)))
  have S1 := S.push_vol (lobj [] 0) rfl (lobj_nocell _ _)
  generalize h₁.objs.size = F at S1
  refine ev_store S1 (.inl ⟨rfl, rfl⟩) fun h2 S2 => ?_
  have fld : ∀ {A' : Around} {B' : Bs} {V' : List (Addr × Obj)} {e' : Env} {m' : Str → Option Value} {g' : Gm} {h' : Heap} {Q : Value → Heap → Prop}, St B' g' V' e' m' h' → Cx K mg mb B'.hb → GLe g g' → (∀ u, Is prog w g' u (.dicti [(3, .list (rs.map (ruleD ad)))]) → Q u h') → Ev prog w A' (getAttr v "sets" true) h' Q := fun {A' B' V' e' m' g' h' Q} S Cc le hQ =>
    ev_field (ns := fContexts) (ds := [.int 1, .bool ch, .dicti [(3, .list (rs.map (ruleD ad)))], .none, .none]) (i := 2) S Cc c0.cls (c0.fr (by decide)) (i.mono le) rfl (by decide) rfl rfl (by intro e; cases e) hQ
  have kn0 : Kn (setM (bindA [("self", v)] fun _ => none) "found" (.ref F)) [("self", v), ("found", .ref F)] := .cons rfl (.cons rfl .nil)
  generalize setM (bindA [("self", v)] fun _ => none) "found" (.ref F) = m2 at S2 kn0
  refine ev_cons (ev_forS S2 (fun i g V m => ∃ vs c, V = [(F, lobj vs c)] ∧ Iss prog w g vs (if i = 0 then [] else rs.map (ruleD ad)) ∧ Kn m [("self", v), ("found", .ref F)]) hr'.hh
    (ev_callB S2 G.cx G.bi.sorted (fun _ => keepable_builtin _ _) (ev_args_cons (ev_attr (ev_var S2 kn0.g0 (fld S2 G.cx (GLe.refl g) fun u iu => ev_args_nil ?_))))))
  obtain ⟨a, o, kvs, rfl, ga, hs, hi, hk, iss⟩ := iu.asDicti
  have hln : kvs.length = 1 := by have := congrArg List.length hk; simpa using this
  refine ev_sorted_dicti S2 hr'.hh hs (S2.frz _ _ ga) hi (by (first | lia | omega)) fun R g3 h3 zs le3 iz _ hp S3 => ?_
  rw [hk] at hp
  have hzs : zs = [3] := List.perm_singleton.mp hp
  subst hzs
  refine ForK.overL (xs := [3]) (dof := .int) S3 iz ⟨[], 0, rfl, .nil, kn0⟩ ?_ ?_
  · rintro j k u g4 V4 m4 h4 I oI T2 hT2 _ hj iu le4 ⟨vs, c, rfl, ivs, kn⟩ S4
    have hj0 : j = 0 := by have := (List.getElem?_eq_some_iff.mp hj).1; simpa using this
    subst hj0
    obtain rfl : (3 : Int) = k := by simpa using hj
    obtain ⟨t, rfl⟩ := iu.asInt
    refine ev_assign_name S4 (.inl ⟨rfl, rfl⟩) fun h5 S5 => ?_
    have kn5 : Kn (setM m4 "key" (.int 3 t)) [("self", v), ("found", .ref F)] := kn.other
    refine ev_cons (ev_forS S5 (fun i g V m => ∃ vs c, V = [(I, oI), (F, lobj vs c)] ∧ Iss prog w g vs ((rs.map (ruleD ad)).take i) ∧ Kn m [("self", v), ("found", .ref F)]) hr'.hh
      (ev_subscript (ev_attr (ev_var S5 kn5.g0 (fld S5 G.cx (le3.trans le4) fun u iu => ev_var S5 (setM_self _ _ _) ?_)))))
    obtain ⟨a, o, kvs, rfl, ga, hs, hi, hk, iss⟩ := iu.asDicti
    have hln : kvs.length = 1 := by have := congrArg List.length hk; simpa using this
    obtain ⟨⟨k0, u0⟩, rfl⟩ := List.length_eq_one_iff.mp hln
    simp only [List.map_cons, List.map_nil, List.cons.injEq, and_true] at hk
    subst hk
    cases iss with
    | cons iu0 _ =>
    refine ev_item_dict (knd := intKind prog w) (k := 3) (intKind_is _ _ _ _) (S5.frz _ _ ga) hi (v := u0) (by simp [valueAt]) ?_
    refine ForK.overL S5 iu0 ⟨vs, c, rfl, by simpa using ivs, kn5⟩ ?_ ?_
    · rintro j r u g6 V6 m6 h6 I2 oI2 T3 hT3 _ hj iu le6 ⟨vs, c, rfl, ivs, kn⟩ S6
      refine ev_assign_name S6 (.inl ⟨rfl, rfl⟩) fun h7 S7 => ?_
      have kn7 : Kn (setM m6 "rule" u) [("self", v), ("found", .ref F)] := kn.other
      refine ev_cons (ev_app S7 kn7.g1 (.tail _ (.tail _ (.head _))) (ev_var S7 (setM_self _ _ _) ⟨g6, _, _, vs, c, _, S7, (fun _ => .tail (.tail .head)), ?_, fun h8 S8 => ev_nil ?_⟩))
      · rw [ivs.length, List.length_take, List.length_map]; (first | lia | omega)
      · refine hT3 _ ⟨g6, _, _, GLe.refl _, ⟨_, _, rfl, ?_, kn7⟩, S8⟩
        rw [take_snoc _ _ _ (by rw [List.getElem?_map, hj]; rfl)]; exact ivs.snoc (iu.mono le6)
    · rintro g6 V6 m6 h6 le6 ⟨vs, c, rfl, ivs, kn⟩ S6
      rw [List.take_of_length_le (by rw [List.length_map]; (first | lia | omega))] at ivs
      refine ev_nil (hT2 _ ⟨g6, _, _, le6, ⟨vs, c, rfl, ?_, kn⟩, S6⟩)
      simpa using ivs
  · rintro g4 V4 m4 h4 le4 ⟨vs, c, rfl, ivs, kn⟩ S4
    simp only [List.length_cons, List.length_nil, Nat.zero_add, Nat.one_ne_zero, if_false] at ivs
    refine ev_cons (ev_return (ev_var S4 kn.g1 ?_))
    refine S4.freezeK .head (fun q => nomatch q) fun g5 le5 hg5 S5 => ?_
    exact hT _ _ (hP _ g5 _ S5.ext (.list hg5 (ivs.mono le5)))
end
noncomputable def goalsOf (rs : List Rl) : List Int := rs.flatMap fun r => r.acts.map (·.2)
theorem goals_take {rs : List Rl} {i : Nat} {r : Rl} (h : rs[i]? = some r) : goalsOf (rs.take (i + 1)) = goalsOf (rs.take i) ++ r.acts.map (·.2) := by
  unfold goalsOf; rw [take_snoc _ _ _ h, List.flatMap_append]; simp
section
variable {prog : Program} {w : World} {A : Around} {B : Bs} {g g' : Gm} {V V' : List (Addr × Obj)} {env : Env} {m : Str → Option Value} {h h' hb : Heap} {K : Frag} {mg mb : Str → Option Value} {ad : Ads} {C fI : Addr}
theorem isDict_nil {KT : Type} [DecidableEq KT] (knd : KeyKind prog w KT) : (dictOf [] 0).IsDictOf knd [] := by
  have e : (({ objs := #[] } : Heap).push (dictOf [] 0)).get? ({ objs := #[] } : Heap).objs.size = some (dictOf [] 0) := Heap.get?_push_size _ rfl
  obtain ⟨o, ho, hi⟩ := Heap.dictOf_iff.mp (dictOf_nil (knd := knd) e)
  rw [e] at ho; cases ho; exact hi
theorem stored_keys {KT : Type} [DecidableEq KT] (kvs : List (KT × Value)) (k a : KT) (v : Value) : a ∈ (stored kvs k v).map (·.1) ↔ a = k ∨ a ∈ kvs.map (·.1) := by
  unfold stored
  split
  · rename_i h
    have e : (kvs.map fun kv => if kv.1 = k then (kv.1, v) else kv).map (·.1) = kvs.map (·.1) := by
      rw [List.map_map]; refine List.map_congr_left fun p _ => ?_
      dsimp only [Function.comp]; split <;> rfl
    rw [e]
    constructor
    · exact .inr
    · rintro (rfl | h2)
      · obtain ⟨p, hp, q⟩ := List.any_eq_true.mp h
        exact List.mem_map.mpr ⟨p, hp, by simpa using q⟩
      · exact h2
  · rw [List.map_append, List.mem_append]; simp; exact Or.comm
theorem isDict_nodup {KT : Type} [DecidableEq KT] {knd : KeyKind prog w KT} {o : Obj} {kvs : List (KT × Value)} (h : o.IsDictOf knd kvs) : (kvs.map (·.1)).Nodup := by
  obtain ⟨es, ep, a1, a2, a3, a4, a5⟩ := h; exact a5
theorem isDict_nocell {KT : Type} [DecidableEq KT] {knd : KeyKind prog w KT} {o : Obj} {kvs : List (KT × Value)} (h : o.IsDictOf knd kvs) : ∀ v, o.data ≠ .cell v := fun v e => by
  obtain ⟨es, ep, a1, a2, a3⟩ := h; rw [a2] at e; cases e
theorem Is.two {v : Value} {d1 d2 : D} (x : Is prog w g v (.tup [d1, d2])) : ∃ t u1 u2 c, v = .ref t ∧ g t = some (tobj [u1, u2] c) ∧ Is prog w g u1 d1 ∧ Is prog w g u2 d2 := by
  obtain ⟨t, us, c, rfl, ht, iss⟩ := x.asTup
  cases iss with
  | cons i1 r =>
    cases r with
    | cons i2 r => cases r; exact ⟨t, _, _, c, rfl, ht, i1, i2⟩
@[elab_as_elim] theorem Is.twoK {Q : Value → Prop} {v : Value} {d1 d2 : D} (x : Is prog w g v (.tup [d1, d2])) (k : ∀ t u1 u2 c, g t = some (tobj [u1, u2] c) → Is prog w g u1 d1 → Is prog w g u2 d2 → Q (.ref t)) : Q v := by
  obtain ⟨t, u1, u2, c, rfl, ht, i1, i2⟩ := x.two
  exact k t u1 u2 c ht i1 i2
theorem fld_rule {v : Value} {r : Rl} {name : Str} {d : D} (S : St B g V env m h) (G : Gd K mg mb B.hb ad) (i : Is prog w g v (ruleD ad r)) (j : Nat) (h1 : fRule[j]? = some name) (h2 : [D.tup [], .tup (List.replicate r.width (.int 3)), .tup [], .tup (r.acts.map actD)][j]? = some d) (h3 : d ≠ .any) (h4 : name ∈ fRule)
    {Q : Value → Heap → Prop} (hQ : ∀ u, Is prog w g u d → Q u h) : Ev prog w A (getAttr v name true) h Q :=
  ev_field (ns := fRule) (ds := [.tup [], .tup (List.replicate r.width (.int 3)), .tup [], .tup (r.acts.map actD)]) S G.cx G.Rule.1.cls (G.Rule.1.fr h4) i rfl (by decide) h1 h2 h3 hQ
/-- e.rules() -/
theorem ev_rules {x : Str} {p1 p2 p3 : Pos} {v : Value} {ch : Bool} {rs : List Rl} {P : Value → Heap → Prop} (S : St B g V env m h) (G : Gd K mg mb B.hb ad) (hr : Room A 3) (hv : m x = some v) (i : Is prog w g v (ctxD ad ch rs)) (hz : rs.length ≤ 10)
    (hP : ∀ u g' h', GLe g g' → Is prog w g' u (.list (rs.map (ruleD ad))) → St B g' V env m h' → P u h')
    (hk : isVar env x = true := by rfl) (hd : (x == ("__debug__" : Str)) = false := by rfl) (hln : (p2.endLine == p3.line) = true := by rfl) : Ev prog w A (eval (.Call (.Attribute (.Name x p1) "rules" p2) [] [] p3) env) h P := by
  refine ev_method (ev_var S hv (fun pl => ev_getm_inst S G.cx G.Contexts.1.cls i G.Frules.1 G.Frules.2.1 (show (_ : Str) ∉ fContexts from by decide) (ev_args_nil ⟨G.Frules.2.2.keepable S.hbk, ?_⟩)) hk hd) (by rfl) (by rfl) hln (by rfl)
  exact (c_rules G hr S.hp i hz).use S fun u g' h' le iu S' => hP u g' h' le iu S'
/-- lookups_of -/
theorem c_lookups (G : Gd K mg mb hb ad) (hr : Room A 5) (H : Hp hb g h) {v : Value} {ch : Bool} {rs : List Rl} (i : Is prog w g v (ctxD ad ch rs)) (hz : rs.length ≤ 10) (hzz : ∀ r ∈ rs, r.acts.length ≤ 10) (few : Few (goalsOf rs)) :
    Gives prog w A g h (.ref ad.lookups_of) [v] fun g' u => Is prog w g' u (.list (iL (srt (goalsOf rs)))) := fun P hP => by
  refine enter (V := []) G G.lookups_of.2 hr H (Wr.nil _ _) (binds := [("table", v)]) (fun _ _ _ _ _ => rfl) (fun n x hx => ?_) (by rfl) (fun x A' T h₁ hr' hT S => ?_)
  · simp only [List.mem_cons, List.not_mem_nil, or_false] at hx
    rcases hx with rfl; exact .inl rfl
  refine ev_cons (ev_assign (ev_dict_nil ?_))
  have S1 := S.push_vol (dictOf [] 0) rfl (fun v e => nomatch e)
  have hsys : (h₁.objs.size == sysModules) = false := S.freshSys G.sm (Nat.le_refl _)
  generalize h₁.objs.size = F at S1 hsys
  refine ev_store S1 (.inl ⟨rfl, rfl⟩) fun h2 S2 => ?_
  have kn0 : Kn (setM (bindA [("table", v)] fun _ => none) "found" (.ref F)) [("found", .ref F)] := .cons rfl .nil
  have fewK : ∀ {o : Obj} {kvs : List (Int × Value)} {gs : List Int}, o.IsDictOf (intKind prog w) kvs → (∀ k, k ∈ kvs.map (·.1) ↔ k ∈ gs) → (∀ k ∈ gs, k ∈ goalsOf rs) → kvs.length < 64 := fun {o kvs gs} hi hm hs => by
    have := few_len (xs := gs) (fun k hk => few k (hs k hk)) (isDict_nodup hi) hm
    simpa using this
  refine ev_cons (ev_forS S2 (fun i g V m => ∃ o kvs, V = [(F, o)] ∧ o.IsDictOf (intKind prog w) kvs ∧ (∀ k, k ∈ kvs.map (·.1) ↔ k ∈ goalsOf (rs.take i)) ∧ Kn m [("found", .ref F)]) hr'.hh
    (ev_rules S2 G (hr'.less (by decide)) rfl i hz fun u g3 h3 le3 iu S3 => ?_))
  refine ForK.overL S3 iu ⟨_, [], rfl, isDict_nil _, fun k => by simp [goalsOf], kn0⟩ ?_ ?_
  · rintro j r u g4 V4 m4 h4 I oI T2 hT2 _ hr2 iu le4 ⟨o, kvs, rfl, hi, hm, kn⟩ S4
    refine ev_assign_name S4 (.inl ⟨rfl, rfl⟩) fun h5 S5 => ?_
    have kn5 : Kn (setM m4 "rule" u) [("found", .ref F)] := kn.other
    refine ev_cons (ev_forS S5 (fun i g V m => ∃ o kvs, V = [(I, oI), (F, o)] ∧ o.IsDictOf (intKind prog w) kvs ∧ (∀ k, k ∈ kvs.map (·.1) ↔ k ∈ goalsOf (rs.take j) ++ (r.acts.take i).map (·.2)) ∧ Kn m [("found", .ref F)]) hr'.hh
      (ev_attr (ev_var S5 (setM_self _ _ _) (fld_rule S5 G (iu.mono le4) 3 rfl rfl (by intro e; cases e) (by decide) fun u2 iu2 => ?_))))
    refine ForK.overT S5 iu2 ⟨o, kvs, rfl, hi, fun k => by rw [hm]; simp, kn5⟩ ?_ ?_
    · rintro j2 a u3 g6 V6 m6 h6 I2 oI2 T3 hT3 _ ha iu3 le6 ⟨o, kvs, rfl, hi, hm, kn⟩ S6
      refine (iu3.mono le6).twoK fun t u4 u5 c ht i4 i5 => ?_
      obtain ⟨t5, rfl⟩ := i5.asInt
      refine ev_assign_tup2 S6 hr'.hh ht fun h7 S7 => ev_assign_name S7 (.inl ⟨rfl, rfl⟩) fun h8 S8 => ev_assign_name S8 (.inl ⟨rfl, rfl⟩) fun h9 S9 => ?_
      have kn9 : Kn (setM (setM m6 "index" u4) "lookup" (.int a.2 t5)) [("found", .ref F)] := (kn.other).other
      have sub : ∀ k ∈ goalsOf (rs.take j) ++ (r.acts.take j2).map (·.2), k ∈ goalsOf rs := fun k hk => by
        rcases List.mem_append.mp hk with q | q
        · obtain ⟨x, hx, q⟩ := List.mem_flatMap.mp q
          exact List.mem_flatMap.mpr ⟨x, List.mem_of_mem_take hx, q⟩
        · obtain ⟨x, hx, q⟩ := List.mem_map.mp q
          exact List.mem_flatMap.mpr ⟨r, List.mem_of_getElem? hr2, List.mem_map.mpr ⟨x, List.mem_of_mem_take hx, q⟩⟩
      have hlk := fewK hi hm sub
      refine ev_cons (ev_assign_sub (ev_bool (ev_var S9 kn9.g0 (ev_var S9 (setM_self _ _ _) (ev_setitem_dict (knd := intKind prog w) (k := a.2) (intKind_is _ _ _ _) (S9.getV (.tail _ (.tail _ (.head _)))) hi (by (first | lia | omega)) fun h10 o' e10 i10 b10 => ?_)))))
      have S10 := S9.upd (.tail (.tail .head)) b10 e10 (isDict_nocell i10)
      refine ev_nil (hT3 _ ⟨g6, _, _, GLe.refl _, ⟨o', _, rfl, i10, fun k => ?_, kn9⟩, S10⟩)
      rw [stored_keys, hm, take_snoc _ _ _ ha, List.map_append, List.mem_append, List.mem_append, List.mem_append]
      simp only [List.map_cons, List.map_nil, List.mem_singleton]
      constructor
      · rintro (q | q | q)
        · exact .inr (.inr q)
        · exact .inl q
        · exact .inr (.inl q)
      · rintro (q | q | q)
        · exact .inr (.inl q)
        · exact .inr (.inr q)
        · exact .inl q
    · rintro g6 V6 m6 h6 le6 ⟨o, kvs, rfl, hi, hm, kn⟩ S6
      refine ev_nil (hT2 _ ⟨g6, _, _, le6, ⟨o, kvs, rfl, hi, fun k => ?_, kn⟩, S6⟩)
      rw [hm, goals_take hr2, List.take_length]
  · rintro g4 V4 m4 h4 le4 ⟨o, kvs, rfl, hi, hm, kn⟩ S4
    rw [List.take_length] at hm
    refine ev_cons (ev_return (ev_callB S4 G.cx G.bi.sorted (fun _ => keepable_builtin _ _) (ev_args_cons (ev_var S4 kn.g0 (ev_args_nil ?_)))))
    have hlk := fewK hi hm fun k hk => hk
    refine ev_sorted_dicti S4 hr'.hh hsys (S4.getV (.head _)) hi hlk fun R g5 h5 zs le5 iz hs hp S5 => ?_
    have e : zs = srt (goalsOf rs) := eq_srt (hs.imp₂ (fun a b h1 h2 => by (first | lia | omega)) (hp.nodup_iff.mpr (isDict_nodup hi))) fun k => (hp.mem_iff).trans (hm k)
    rw [e] at iz
    exact hT _ _ (hP _ g5 _ S5.ext iz)
end
structure Lk where
  kind : Str
  flag : Int
  mark : Int
  width : Nat
  acts : List (Int × Int)
noncomputable def Lk.rules (k : Lk) : List Rl := [⟨k.width, k.acts.take 1⟩, ⟨k.width, k.acts.drop 1⟩]
noncomputable def Lk.tabs (ad : Ads) (k : Lk) : List D := if k.kind = ("single" : Str) then [.obj ad.Single [("mapping", .any)]] else [ctxD ad (decide (k.kind = ("chain" : Str))) k.rules]
noncomputable def fldsL (ad : Ads) (k : Lk) : List D := [.str k.kind, .int k.flag, .int k.mark, .list (k.tabs ad)]
noncomputable def lkD (ad : Ads) (k : Lk) : D := .obj ad.Lookup (fLookup.zip (fldsL ad k))
structure Lk.Ok (k : Lk) : Prop where
  kind : k.kind = ("context" : Str) ∨ k.kind = ("single" : Str) ∨ k.kind = ("chain" : Str)
  len : k.acts.length ≤ 5
  one : k.kind = ("single" : Str) → k.acts = []
  few : Few (k.acts.map (·.2))
noncomputable def Lk.isCtx (k : Lk) : Bool := decide (k.kind = ("context" : Str)) || decide (k.kind = ("chain" : Str))
noncomputable def behindR (r : Rl) : Bool := r.acts.any fun a => decide (a.1 ≥ (r.width : Int))
theorem isCtx_iff {k : Lk} (ok : k.Ok) : k.isCtx = true ↔ k.kind ≠ ("single" : Str) := by
  have h1 : ("context" : Str) ≠ ("single" : Str) := by decide
  have h2 : ("chain" : Str) ≠ ("single" : Str) := by decide
  have h3 : ("single" : Str) ≠ ("context" : Str) := by decide
  have h4 : ("single" : Str) ≠ ("chain" : Str) := by decide
  unfold Lk.isCtx
  rcases ok.kind with e | e | e <;> rw [e]
  · simp [h1]
  · simp [h3, h4]
  · simp [h2]
theorem goals_rules (k : Lk) : goalsOf k.rules = k.acts.map (·.2) := by
  unfold goalsOf Lk.rules
  simp only [List.flatMap_cons, List.flatMap_nil, List.append_nil]
  rw [← List.map_append, List.take_append_drop]
theorem any_behind (k : Lk) : k.rules.any behindR = k.acts.any fun a => decide (a.1 ≥ (k.width : Int)) := by
  unfold Lk.rules behindR
  simp only [List.any_cons, List.any_nil, Bool.or_false]
  rw [← List.any_append, List.take_append_drop]
theorem any_take_snoc {α : Type} {l : List α} {f : α → Bool} {i : Nat} {a : α} (h : l[i]? = some a) (h1 : (l.take i).any f = false) (h2 : f a = false) : (l.take (i + 1)).any f = false := by
  rw [take_snoc _ _ _ h, List.any_append, h1]; simp [h2]
theorem any_of_get {α : Type} {l : List α} {f : α → Bool} {i : Nat} {a : α} (h : l[i]? = some a) (h2 : f a = true) : l.any f = true := List.any_eq_true.mpr ⟨a, List.mem_of_getElem? h, h2⟩
section
variable {prog : Program} {w : World} {A : Around} {B : Bs} {g g' : Gm} {V V' : List (Addr × Obj)} {env : Env} {m : Str → Option Value} {h h' hb : Heap} {K : Frag} {mg mb : Str → Option Value} {ad : Ads} {C fI : Addr}
theorem ev_len_tup {l : Addr} {vs : List Value} {n : Nat} {P : Value → Heap → Prop} (hl : h.get? l = some (tobj vs n)) (hsz : vs.length < 100000) (x : ∀ t, P (.int vs.length t) h) :
    Ev prog w A (call (.builtin "len") [.ref l]) h P := fun s E hs => by
  subst hs
  exact len_tuple (isTuple_of hl) (by simp; (first | lia | omega)) ⟨Same.mk' s _ _, by simpa using x _⟩
theorem fld_lookup {v : Value} {k : Lk} {name : Str} {d : D} (S : St B g V env m h) (G : Gd K mg mb B.hb ad) (i : Is prog w g v (lkD ad k)) (j : Nat) (h1 : fLookup[j]? = some name) (h2 : (fldsL ad k)[j]? = some d) (h3 : d ≠ .any) (h4 : name ∈ fLookup)
    {Q : Value → Heap → Prop} (hQ : ∀ u, Is prog w g u d → Q u h) : Ev prog w A (getAttr v name true) h Q :=
  ev_field (ns := fLookup) (ds := fldsL ad k) S G.cx G.Lookup.1.cls (G.Lookup.1.fr h4) i rfl (by decide) h1 h2 h3 hQ
/-- is_behind -/
theorem c_behind (G : Gd K mg mb hb ad) (hr : Room A 5) (H : Hp hb g h) {v : Value} {ch : Bool} {rs : List Rl} (i : Is prog w g v (ctxD ad ch rs)) (hz : rs.length ≤ 10) (hzz : ∀ r ∈ rs, r.acts.length ≤ 10 ∧ r.width ≤ 10) :
    Gives prog w A g h (.ref ad.behind) [v] fun g' u => u = .bool (rs.any behindR) := fun P hP => by
  refine enter (V := []) G G.behind.2 hr H (Wr.nil _ _) (binds := [("table", v)]) (fun _ _ _ _ _ => rfl) (fun n x hx => ?_) (by rfl) (fun x A' T h₁ hr' hT S => ?_)
  · simp only [List.mem_cons, List.not_mem_nil, or_false] at hx
    rcases hx with rfl; exact .inl rfl
  refine ev_cons (ev_forS S (fun i g V m => V = [] ∧ (rs.take i).any behindR = false) hr'.hh
    (ev_rules S G (hr'.less (by decide)) rfl i hz fun u g3 h3 le3 iu S3 => ?_))
  refine ForK.overL S3 iu ⟨rfl, by simp⟩ ?_ ?_
  · rintro j r u g4 V4 m4 h4 I oI T2 hT2 hR2 hr2 iu le4 ⟨rfl, hb0⟩ S4
    have hrm := hzz r (List.mem_of_getElem? hr2)
    refine ev_assign_name S4 (.inl ⟨rfl, rfl⟩) fun h5 S5 => ?_
    have kn5 : Kn (setM m4 "rule" u) [("rule", u)] := .cons (setM_self _ _ _) .nil
    refine ev_cons (ev_forS S5 (fun i g V m => V = [(I, oI)] ∧ (r.acts.take i).any (fun a => decide (a.1 ≥ (r.width : Int))) = false ∧ Kn m [("rule", u)]) hr'.hh
      (ev_attr (ev_var S5 (setM_self _ _ _) (fld_rule S5 G (iu.mono le4) 3 rfl rfl (by intro e; cases e) (by decide) fun u2 iu2 => ?_))))
    refine ForK.overT S5 iu2 ⟨rfl, by simp, kn5⟩ ?_ ?_
    · rintro j2 a u3 g6 V6 m6 h6 I2 oI2 T3 hT3 hR3 ha iu3 le6 ⟨rfl, hb1, kn⟩ S6
      refine (iu3.mono le6).twoK fun t u4 u5 c ht i4 i5 => ?_
      obtain ⟨t4, rfl⟩ := i4.asInt
      refine ev_assign_tup2 S6 hr'.hh ht fun h7 S7 => ev_assign_name S7 (.inl ⟨rfl, rfl⟩) fun h8 S8 => ev_assign_name S8 (.inl ⟨rfl, rfl⟩) fun h9 S9 => ?_
      have kn9 : Kn (setM (setM m6 "index" (.int a.1 t4)) "number" u5) [("rule", u)] := (kn.other).other
      refine ev_cons (ev_if (ev_true_compare1 (ev_var S9 ((setM_ne (by decide)).trans (setM_self _ _ _)) (ev_callB S9 G.cx G.bi.len (fun _ => keepable_builtin _ _) (ev_args_cons (ev_attr (ev_var S9 kn9.g0 (fld_rule S9 G ((iu.mono le4).mono le6) 1 rfl rfl (by intro e; cases e) (by decide) fun u6 iu6 => ev_args_nil ?_))))))))
      refine iu6.tupK fun t6 vs6 c6 ht6 iss6 => ?_
      have hl6 : vs6.length = r.width := by rw [iss6.length]; simp
      refine ev_len_tup (S9.frz _ _ ht6) (by (first | lia | omega)) fun t7 => ev_ge (ev_truthy_bool ?_)
      rw [hl6]
      by_cases q : a.1 ≥ (r.width : Int)
      · simp only [q, decide_true, if_true]
        refine ev_cons (ev_return (ev_bool ?_))
        have e : rs.any behindR = true := any_of_get hr2 (any_of_get ha (by simp [q]))
        exact hR3 _ _ (hR2 _ _ (hT _ _ (hP _ g6 _ S9.ext (show Value.bool true = Value.bool (rs.any behindR) by rw [e]))))
      · simp only [q, decide_false, Bool.false_eq_true, if_false]
        exact ev_nil (ev_nil (hT3 _ ⟨g6, _, _, GLe.refl _, ⟨rfl, any_take_snoc ha hb1 (by simp [q]), kn9⟩, S9⟩))
    · rintro g6 V6 m6 h6 le6 ⟨rfl, hb1, kn⟩ S6
      rw [List.take_length] at hb1
      exact ev_nil (hT2 _ ⟨g6, _, _, le6, ⟨rfl, any_take_snoc hr2 hb0 hb1⟩, S6⟩)
  · rintro g4 V4 m4 h4 le4 ⟨rfl, hb0⟩ S4
    rw [List.take_length] at hb0
    refine ev_cons (ev_return (ev_bool ?_))
    exact hT _ _ (hP _ g4 _ S4.ext (show Value.bool false = Value.bool (rs.any behindR) by rw [hb0]))
/-- e1 == 'context' or e2 == 'chain' -/
theorem ev_kinds {e1 e2 : Expr} {k1 k2 : Nat} {p1 p2 p3 p4 p5 : Pos} {whole : Sem Value} {k : Lk} {P : Bool → Heap → Prop}
    (x1 : ∀ Q : Value → Heap → Prop, (∀ t, Q (.str k.kind t) h) → Ev prog w A (eval e1 env) h Q) (x2 : ∀ Q : Value → Heap → Prop, (∀ t, Q (.str k.kind t) h) → Ev prog w A (eval e2 env) h Q) (hP : P k.isCtx h) :
    Ev prog w A (isTrue (.BoolOp .Or [.Compare e1 [.Eq] [.Constant (.str "context") k1 p1] p2, .Compare e2 [.Eq] [.Constant (.str "chain") k2 p3] p4] p5) env whole) h P := by
  refine ev_true_or2 (ev_true_compare1 (x1 _ fun t => ev_str fun t2 => ev_eq_str (ev_truthy_bool ?_)) (by with_unfolding_all rfl))
  unfold Lk.isCtx at hP
  by_cases q : k.kind = ("context" : Str)
  · simp only [q, decide_true, if_true, Bool.true_or] at hP ⊢; exact hP
  · simp only [q, decide_false, Bool.false_eq_true, if_false, Bool.false_or] at hP ⊢
    exact ev_true_compare1 (x2 _ fun t => ev_str fun t2 => ev_eq_str (ev_truthy_bool hP)) (by with_unfolding_all rfl)
/-- next_lookups -/
theorem c_next (G : Gd K mg mb hb ad) (hr : Room A 8) (H : Hp hb g h) {v : Value} {k : Lk} (ok : k.Ok) (hw : k.width ≤ 10) (i : Is prog w g v (lkD ad k)) :
    Gives prog w A g h (.ref ad.next) [v] fun g' u => Is prog w g' u (.list (iL (srt (k.acts.map (·.2))))) := fun P hP => by
  refine enter (V := []) G G.next.2 hr H (Wr.nil _ _) (binds := [("lookup", v)]) (fun _ _ _ _ _ => rfl) (fun n x hx => ?_) (by rfl) (fun x A' T h₁ hr' hT S => ?_)
  · simp only [List.mem_cons, List.not_mem_nil, or_false] at hx
    rcases hx with rfl; exact .inl rfl
  refine ev_cons (ev_assign (ev_list (ev_args_nil ⟨le_line (le_dec rfl), ?_⟩)))
  have S1 := S.push_vol (lobj [] 0) rfl (lobj_nocell _ _)
  generalize h₁.objs.size = F at S1
  refine ev_store S1 (.inl ⟨rfl, rfl⟩) fun h2 S2 => ?_
  have kn0 : Kn (setM (bindA [("lookup", v)] fun _ => none) "found" (.ref F)) [("found", .ref F), ("lookup", v)] := .cons rfl (.cons rfl .nil)
  generalize setM (bindA [("lookup", v)] fun _ => none) "found" (.ref F) = m2 at S2 kn0
  have hkind : ∀ (A' : Around) (Q : Value → Heap → Prop), (∀ t, Q (.str k.kind t) h2) → Ev prog w A' (getAttr v "kind" true) h2 Q := fun A' Q hQ => fld_lookup S2 G i 0 rfl rfl (by intro e; cases e) (by decide) fun u iu => by
    obtain ⟨t, rfl⟩ := iu.asStr; exact hQ t
  refine ev_cons (ev_if (ev_kinds (k := k) (fun Q hQ => ev_attr (ev_var S2 kn0.g1 (hkind _ Q hQ))) (fun Q hQ => ev_attr (ev_var S2 kn0.g1 (hkind _ Q hQ))) ?_))
  by_cases q : k.kind = ("single" : Str)
  · have e : k.isCtx = false := by
      cases e : k.isCtx with
      | false => rfl
      | true => exact absurd q ((isCtx_iff ok).mp e)
    have e0 : k.acts = [] := ok.one q
    simp only [e, Bool.false_eq_true, if_false]
    refine ev_nil (ev_cons (ev_return (ev_srt S2 G hr'.hh (ev_var S2 kn0.g0 ?_))))
    refine S2.freezeK .head (fun q => nomatch q) fun g3 le3 hg3 S3 => ?_
    refine ⟨g3, _, _, [], le3, .list hg3 .nil, (fun k hk => nomatch hk), by simp, S3, fun u g4 h4 le4 iu S4 => ?_⟩
    refine hT _ _ (hP _ g4 _ S4.ext ?_)
    rw [e0]; exact iu
  · have e : k.isCtx = true := (isCtx_iff ok).mpr q
    simp only [e, if_true]
    refine ev_cons (ev_forS S2 (fun i g V m => ∃ vs c, V = [(F, lobj vs c)] ∧ Iss prog w g vs (if i = 0 then [] else iL (srt (k.acts.map (·.2)))) ∧ Kn m [("found", .ref F), ("lookup", v)]) hr'.hh
      (ev_attr (ev_var S2 kn0.g1 (fld_lookup S2 G i 3 rfl rfl (by intro e; cases e) (by decide) fun u iu => ?_))))
    have et : k.tabs ad = [ctxD ad (decide (k.kind = ("chain" : Str))) k.rules] := by unfold Lk.tabs; rw [if_neg q]
    rw [et] at iu
    refine ForK.overL (xs := [()]) (dof := fun _ => ctxD ad (decide (k.kind = ("chain" : Str))) k.rules) S2 iu ⟨[], 0, rfl, .nil, kn0⟩ ?_ ?_
    · rintro j _ u g4 V4 m4 h4 I oI T2 hT2 _ hj iu le4 ⟨vs, c, rfl, ivs, kn⟩ S4
      have hj0 : j = 0 := by have := (List.getElem?_eq_some_iff.mp hj).1; simpa using this
      subst hj0
      cases ivs
      refine ev_assign_name S4 (.inl ⟨rfl, rfl⟩) fun h5 S5 => ?_
      have kn5 : Kn (setM m4 "table" u) [("found", .ref F), ("lookup", v)] := kn.other
      refine ev_cons (ev_ext S5 kn5.g0 (.tail _ (.head _)) (ev_callD S5 G.cx G.lookups_of (ev_args_cons (ev_var S5 (setM_self _ _ _) (ev_args_nil ⟨S5.hbk, ?_⟩)))))
      have few : Few (goalsOf k.rules) := by rw [goals_rules]; exact ok.few
      have hln := ok.len
      refine (c_lookups G (hr'.less (by decide)) S5.hp (iu.mono le4) (by simp [Lk.rules]) (fun r hr2 => ?_) few).use S5 fun u2 g6 h6 le6 iu2 S6 => ?_
      · simp only [Lk.rules, List.mem_cons, List.not_mem_nil, or_false] at hr2
        rcases hr2 with rfl | rfl
        · simp; (first | lia | omega)
        · simp; (first | lia | omega)
      · rw [goals_rules] at iu2
        refine ⟨g6, _, _, [], c, _, _, S6, (fun _ => .tail .head), iu2, ?_, fun h8 ws e8 iws S8 => ev_nil (hT2 _ ⟨g6, _, _, le6, ⟨_, _, rfl, iws, kn5⟩, S8⟩)⟩
        rw [iL_length]; have := srt_len ok.few; simp; (first | lia | omega)
    · rintro g4 V4 m4 h4 le4 ⟨vs, c, rfl, ivs, kn⟩ S4
      simp only [List.length_cons, List.length_nil, Nat.zero_add, Nat.one_ne_zero, if_false] at ivs
      refine ev_nil (ev_cons (ev_return (ev_srt S4 G hr'.hh (ev_var S4 kn.g0 ?_))))
      refine S4.freezeK .head (fun q => nomatch q) fun g5 le5 hg5 S5 => ?_
      have hl := srt_len ok.few
      refine ⟨g5, _, _, _, le5, .list hg5 (ivs.mono le5), few_srt ok.few, by (first | lia | omega), S5, fun u g6 h6 le6 iu S6 => ?_⟩
      refine hT _ _ (hP _ g6 _ S6.ext ?_)
      rwa [← eq_srt (zs := srt (k.acts.map (·.2))) (pw_srt _) (fun _ => Iff.rfl)] at iu
end
/-! ## ways -/
noncomputable abbrev okIn (n : Nat) (k : Int) : Prop := 0 ≤ k ∧ k < (n : Int)
noncomputable def rowOf (steps : List (List Int)) (k : Int) : List Int := steps.getD k.toNat []
inductive Reach (steps : List (List Int)) (seeds : List Int) : Int → Prop
  | seed {k} : k ∈ seeds → okIn steps.length k → Reach steps seeds k
  | step {a k} : Reach steps seeds a → k ∈ rowOf steps a → okIn steps.length k → Reach steps seeds k
theorem Reach.ok {steps : List (List Int)} {seeds : List Int} {k : Int} (r : Reach steps seeds k) : okIn steps.length k := by cases r <;> assumption
noncomputable def rangeI (n : Nat) : List Int := (List.range n).map fun i : Nat => (i : Int)
theorem mem_rangeI {n : Nat} {k : Int} : k ∈ rangeI n ↔ okIn n k := by
  unfold rangeI okIn
  rw [List.mem_map]
  constructor
  · rintro ⟨a, ha, rfl⟩; have := List.mem_range.mp ha; (first | lia | omega)
  · rintro ⟨a, b⟩; exact ⟨k.toNat, List.mem_range.mpr (by (first | lia | omega)), by (first | lia | omega)⟩
theorem pw_rangeI (n : Nat) : (rangeI n).Pairwise (· < ·) := by
  unfold rangeI
  exact List.pairwise_map.mpr (List.pairwise_lt_range.imp fun h => by (first | lia | omega))
theorem rangeI_length (n : Nat) : (rangeI n).length = n := by unfold rangeI; simp
noncomputable def rch (steps : List (List Int)) (seeds : List Int) : List Int := (rangeI steps.length).filter fun k => @decide (Reach steps seeds k) (Classical.propDecidable _)
theorem mem_rch {steps : List (List Int)} {seeds : List Int} {k : Int} : k ∈ rch steps seeds ↔ Reach steps seeds k := by
  unfold rch
  rw [List.mem_filter, mem_rangeI]
  exact ⟨fun h => @of_decide_eq_true _ (Classical.propDecidable _) h.2, fun h => ⟨h.ok, @decide_eq_true _ (Classical.propDecidable _) h⟩⟩
theorem pw_rch (steps : List (List Int)) (seeds : List Int) : (rch steps seeds).Pairwise (· < ·) := (pw_rangeI _).sublist (List.filter_sublist)
theorem rch_len (steps : List (List Int)) (seeds : List Int) : (rch steps seeds).length ≤ steps.length := by
  have := List.length_filter_le (fun k => @decide (Reach steps seeds k) (Classical.propDecidable _)) (rangeI steps.length)
  rw [rangeI_length] at this; exact this
theorem eq_rch {steps : List (List Int)} {seeds zs : List Int} (a : zs.Pairwise (· < ·)) (b : ∀ k, k ∈ zs ↔ Reach steps seeds k) : zs = rch steps seeds := rising_unique a (pw_rch _ _) fun k => (b k).trans mem_rch.symm
theorem inRow_len {n : Nat} {xs : List Int} (nd : xs.Nodup) (h : ∀ k ∈ xs, okIn n k) : xs.length ≤ n := by
  have := nodup_le xs (rangeI n) nd fun k hk => mem_rangeI.mpr (h k hk)
  rwa [rangeI_length] at this
/-- the seeds within range -/
noncomputable def fitR (n : Nat) (xs : List Int) : List Int := xs.filter fun k => decide (okIn n k)
theorem mem_fitR {n : Nat} {xs : List Int} {k : Int} : k ∈ fitR n xs ↔ k ∈ xs ∧ okIn n k := by unfold fitR; rw [List.mem_filter, decide_eq_true_iff]
theorem fitR_len (n : Nat) (xs : List Int) : (fitR n xs).length ≤ xs.length := List.length_filter_le _ _
theorem row_get {steps : List (List Int)} {k : Int} (h : okIn steps.length k) : steps[k.toNat]? = some (rowOf steps k) := by
  unfold okIn at h; unfold rowOf
  have : k.toNat < steps.length := by (first | lia | omega)
  simp [List.getElem?_eq_getElem this]
noncomputable def stepsD (steps : List (List Int)) : D := .list (steps.map fun r => .list (iL r))
section
variable {prog : Program} {w : World} {A : Around} {B : Bs} {g g' : Gm} {V V' : List (Addr × Obj)} {env : Env} {m : Str → Option Value} {h h' hb : Heap} {K : Frag} {mg mb : Str → Option Value} {ad : Ads} {C fI : Addr}
theorem ev_notin_set {v : Value} {xs : List Int} {k : Int} {t : Tok} {P : Value → Heap → Prop} (S : St B g V env m h) (hv : SetV prog w g v xs) (hP : P (.bool (!decide (k ∈ xs))) h) : Ev prog w A (compareOp .NotIn (.int k t) v) h P := fun s E hs => by
  subst hs
  obtain ⟨a, o, n, rfl, hga, hS, hn, hn1⟩ := hv.ex
  obtain ⟨hex, es, ep, tt, hd, I⟩ := hS
  obtain ⟨e0, ep0, t0, hd0, hsz⟩ := hn
  rw [hd] at hd0; cases hd0
  obtain ⟨ys, h1, h2, h3⟩ := I.ys
  have hS' : s.heap.SetOf (intKind prog w) a (fun k => decide (k ∈ xs)) es.size := by
    refine ⟨o, es, ep, tt, S.frz _ _ hga, hex, hd, I.el, fun k => ?_, by unfold scanBound; (first | lia | omega), I.tok.fits, rfl⟩
    rw [decide_eq_true_iff, ← h3 k]
    constructor
    · intro hk
      obtain ⟨j, hj⟩ := List.getElem?_of_mem hk
      obtain ⟨t', e⟩ := h1.get j k hj
      rw [List.getElem?_map, Option.map_eq_some_iff] at e
      obtain ⟨p, hp, e⟩ := e
      exact ⟨p, List.mem_of_getElem? hp, by rw [e]; exact intKind_is _ _ _ _⟩
    · rintro ⟨p, hp, hk⟩
      obtain ⟨j, hj⟩ := List.getElem?_of_mem hp
      obtain ⟨t', e⟩ := IntsAre.int_at h1 j p.2 (by rw [List.getElem?_map, hj]; rfl)
      rw [e] at hk
      have hlt : j < ys.length := by rw [← h1.length, List.length_map]; exact (List.getElem?_eq_some_iff.mp hj).1
      have e2 : ys.getD j 0 = k := by
        have : isInt k (.int (ys.getD j 0) t') = true := hk
        simpa [isInt] using this
      rw [← e2]
      have : ys.getD j 0 = ys[j] := by simp [List.getD, List.getElem?_eq_getElem hlt]
      rw [this]; exact List.getElem_mem hlt
  exact wpAny_notInSet_of (knd := intKind prog w) (k := k) (intKind_is _ _ _ _) rfl hS' ⟨Same.mk' s _ _, hP⟩
/-- 0 <= x < len(y) -/
theorem ev_inr {x y : Str} {k0 : Nat} {p0 p1 p2 p3 p4 pos : Pos} {k : Int} {t : Tok} {l : Addr} {vs : List Value} {c : Nat} {whole : Sem Value} {P : Bool → Heap → Prop} (S : St B g V env m h) (G : Gd K mg mb B.hb ad) (hx : m x = some (.int k t)) (hy : m y = some (.ref l)) (hl : g l = some (lobj vs c)) (hz : vs.length < 100000)
    (hP : P (decide (okIn vs.length k)) h)
    (hk1 : isVar env x = true := by rfl) (hd1 : (x == ("__debug__" : Str)) = false := by rfl) (hk2 : isVar env y = true := by rfl) (hd2 : (y == ("__debug__" : Str)) = false := by rfl)
    (hkl : env.kindOf "len" = some .globalImplicit := by rfl) (hg : env.globals = mainGlobals := by rfl) (hbn : env.builtins = builtinsNs := by rfl) :
    Ev prog w A (isTrue (.Compare (.Constant (.int 0) k0 p0) [.LtE, .Lt] [.Name x p1, .Call (.Name "len" p2) [.Name y p3] [] p4] pos) env whole) h P := by
  refine ev_true_chain2 (ev_int fun t0 => ev_var S hx (ev_le (ev_truthy_bool ?_)) hk1 hd1)
  by_cases q : (0 : Int) ≤ k
  · simp only [q, decide_true, if_true]
    refine ev_callB S G.cx G.bi.len (fun _ => keepable_builtin _ _) (ev_args_cons (ev_var S hy (ev_args_nil (ev_len (S.frz _ _ hl) fun t2 => ev_lt (ev_truthy_bool ?_))) hk2 hd2)) hkl (by rfl) hg hbn (by rfl)
    have e : decide (okIn vs.length k) = decide (k < (vs.length : Int)) := by unfold okIn; simp [q]
    rwa [e] at hP
  · simp only [q, decide_false, Bool.false_eq_true, if_false]
    have e : decide (okIn vs.length k) = false := by unfold okIn; simp [q]
    rwa [e] at hP
end
theorem iL_filter (p : Int → Bool) : ∀ xs : List Int, (xs.filterMap fun k => if p k = true then some (D.int k) else none) = iL (xs.filter p)
  | [] => rfl
  | x :: r => by
    have ih := iL_filter p r
    by_cases q : p x = true
    · rw [List.filterMap_cons, List.filter_cons]; simp only [q, if_true]; rw [ih]; rfl
    · rw [List.filterMap_cons, List.filter_cons]; simp only [q, if_false]; rw [ih]; simp
theorem intsAre_concat {k : Int} : ∀ {ws : List Int} {us : List Value}, IntsAre us (ws ++ [k]) → ∃ us' t, us = us' ++ [.int k t] ∧ IntsAre us' ws
  | [], [], h => nomatch h
  | [], u :: us, h => by
    cases h with
    | cons _ t r => cases r; exact ⟨[], t, rfl, .nil⟩
  | x :: ws, [], h => nomatch h
  | x :: ws, u :: us, h => by
    cases h with
    | cons _ t r =>
      obtain ⟨us', t', rfl, h'⟩ := intsAre_concat r
      exact ⟨.int x t :: us', t', rfl, .cons x t h'⟩
section
variable {prog : Program} {w : World} {A : Around} {B : Bs} {g g' : Gm} {V V' : List (Addr × Obj)} {env : Env} {m : Str → Option Value} {h h' hb : Heap} {K : Frag} {mg mb : Str → Option Value} {ad : Ads} {C fI : Addr}
theorem steps_list {v : Value} {steps : List (List Int)} (i : Is prog w g v (stepsD steps)) : ∃ a vs c, v = .ref a ∧ g a = some (lobj vs c) ∧ vs.length = steps.length ∧ ∀ {k : Int}, okIn steps.length k → ∃ u, vs[k.toNat]? = some u ∧ Is prog w g u (.list (iL (rowOf steps k))) := by
  obtain ⟨a, vs, c, rfl, ga, iss⟩ := i.asList
  refine ⟨a, vs, c, rfl, ga, by rw [iss.length, List.length_map], fun {k} hk => ?_⟩
  exact iss.get' (by rw [List.getElem?_map, row_get hk]; rfl)
/-- reached -/
theorem c_reached (G : Gd K mg mb hb ad) (hr : Room A 3) (H : Hp hb g h) {sv dv : Value} {steps : List (List Int)} {seeds : List Int} (i1 : Is prog w g sv (stepsD steps)) (i2 : Is prog w g dv (.list (iL seeds))) (hn : steps.length ≤ 20) (hrow : ∀ k, (rowOf steps k).length ≤ 100) (hsd : seeds.length ≤ 500) :
    Gives prog w A g h (.ref ad.reached) [sv, dv] fun g' u => Is prog w g' u (.list (iL (rch steps seeds))) := fun P hP => by
  obtain ⟨a, svs, sc, rfl, ga, hsl, hget⟩ := steps_list i1
  refine enter (V := []) G G.reached.2 hr H (Wr.nil _ _) (binds := [("steps", .ref a), ("seeds", dv)]) (fun _ _ _ _ _ => rfl) (fun n x hx => ?_) (by rfl) (fun x A' T h₁ hr' hT S => ?_)
  · simp only [List.mem_cons, List.not_mem_nil, or_false] at hx
    rcases hx with rfl | rfl
    · exact .inr ⟨rfl, rfl⟩
    · exact .inl rfl
  refine ev_cons (ev_assign (ev_list (ev_args_nil ⟨le_line (le_dec rfl), ?_⟩)))
  have S1 := S.push_vol (lobj [] 0) rfl (lobj_nocell _ _)
  generalize h₁.objs.size = F at S1
  refine ev_store S1 (.inl ⟨rfl, rfl⟩) fun h2 S2 => ?_
  have kn0 : Kn (setM (bindA [("steps", .ref a), ("seeds", dv)] fun _ => none) "seen" (.ref F)) [("steps", .ref a), ("seen", .ref F), ("seeds", dv)] := .cons rfl (.cons rfl (.cons rfl .nil))
  generalize setM (bindA [("steps", .ref a), ("seeds", dv)] fun _ => none) "seen" (.ref F) = m2 at S2 kn0
  refine ev_cons (ev_alc S2 hr'.hh (.inl ⟨rfl, rfl⟩) rfl (ev_var S2 kn0.g2 (LcK.overLV (xs := seeds) S2 G i2 [("steps", .ref a)] (fun k => if decide (okIn steps.length k) = true then some (.int k) else none) ?_ (by (first | lia | omega)) ?_ ?_)))
  · refine Kn.cmp kn0 fun p hp => ?_
    simp only [List.mem_cons, List.not_mem_nil, or_false] at hp
    rcases hp with rfl; exact ⟨.head _, rfl⟩
  · intro j k u g3 m h B' V' C G hV hk iu le kn S
    refine iu.intK fun t => ?_
    refine ev_assign_name S (.inl ⟨rfl, rfl⟩) fun h2 S => ev_test1 ?_
    have kn' : Kn (setM m "seed" (.int k t)) [("steps", .ref a)] := kn.other
    refine ev_inr S G (setM_self _ _ _) kn'.g0 (le _ _ ga) (by (first | lia | omega)) ?_
    rw [hsl]
    refine if_dec (fun p => ?_) (fun p => ?_)
    · exact ev_var S (setM_self _ _ _) ⟨g3, _, _, GLe.refl _, kn', S, by simp [p], .int⟩
    · exact ⟨g3, _, GLe.refl _, kn', S, by simp [p]⟩
  intro W g3 us c3 h3 le3 hus hDW S3
  rw [iL_filter] at hus
  have ius := hus.iL
  obtain ⟨oF, hoF⟩ : ∃ o, o = lobj ([] : List Value) 0 := ⟨_, rfl⟩
  rw [← hoF] at S3
  obtain ⟨vs, c0, e, ivs⟩ : ∃ vs c0, oF = lobj vs c0 ∧ IntsAre vs ([] : List Int) := ⟨[], 0, hoF, .nil⟩
  clear hoF
  subst e
  have kn3 : Kn (setM m2 "waiting" (.ref W)) [("steps", .ref a), ("seen", .ref F), ("waiting", .ref W)] := by
    have k := kn0.other (x := "waiting") (v := .ref W)
    exact .cons k.g0 (.cons k.g1 (.cons (setM_self _ _ _) .nil))
  have hlen : (seeds.filter fun k => decide (okIn steps.length k)).length ≤ seeds.length := List.length_filter_le _ _
  have hmem : ∀ k, k ∈ (seeds.filter fun k => decide (okIn steps.length k)) ↔ k ∈ seeds ∧ okIn steps.length k := fun k => by rw [List.mem_filter, decide_eq_true_iff]
  have rw0 : ∀ k ∈ (seeds.filter fun k => decide (okIn steps.length k)), Reach steps seeds k := fun k hk => .seed ((hmem k).mp hk).1 ((hmem k).mp hk).2
  have cs0 : ∀ k ∈ seeds, okIn steps.length k → k ∈ ([] : List Int) ∨ k ∈ (seeds.filter fun k => decide (okIn steps.length k)) := fun k hk ho => .inr ((hmem k).mpr ⟨hk, ho⟩)
  have bd0 : (seeds.filter fun k => decide (okIn steps.length k)).length ≤ 500 + 100 * ([] : List Int).length := by simp only [List.length_nil]; (first | lia | omega)
  generalize (seeds.filter fun k => decide (okIn steps.length k)) = ws at ius rw0 cs0 bd0
  have rx0 : ∀ k ∈ ([] : List Int), Reach steps seeds k := fun k hk => nomatch hk
  have cl0 : ∀ a ∈ ([] : List Int), ∀ k ∈ rowOf steps a, okIn steps.length k → k ∈ ([] : List Int) ∨ k ∈ ws := fun k hk => nomatch hk
  have nd0 : ([] : List Int).Nodup := List.nodup_nil
  generalize ([] : List Int) = xs at ivs cs0 bd0 rx0 cl0 nd0
  generalize setM m2 "waiting" (.ref W) = m3 at S3 kn3
  refine ev_cons (ev_while ?_)
  obtain ⟨N, hN⟩ : ∃ N, (steps.length - xs.length) * 1000 + ws.length ≤ N := ⟨_, Nat.le_refl _⟩
  clear hmem hlen hus kn0 S2 S1
  induction N using Nat.strongRecOn generalizing g3 m3 h3 xs ws us vs c0 c3 with
  | ind N ih =>
  have hxl : xs.length ≤ steps.length := inRow_len nd0 fun k hk => (rx0 k hk).ok
  rcases List.eq_nil_or_concat ws with hws | ⟨ws', k, hws⟩
  · subst hws
    cases ius
    refine evC_while_turn (ev_true_value (ev_var S3 kn3.g2 (ev_truthy_list (S3.getV (.head _)) (by simp) ?_)))
    simp only [List.isEmpty_nil, Bool.not_true, Bool.false_eq_true, if_false]
    refine ev_cons (ev_return (ev_callB S3 G.cx G.bi.sorted (fun _ => keepable_builtin _ _) (ev_args_cons (ev_var S3 kn3.g1 (ev_args_nil (ev_sorted_list S3 (S3.getV (.tail _ (.head _))) ivs (by rw [ivs.length]; (first | lia | omega)) fun R g4 h4 zs le4 iz hs hp S4 => ?_))))))
    have e : zs = rch steps seeds := eq_rch (hs.imp₂ (fun a b h1 h2 => by (first | lia | omega)) (hp.nodup_iff.mpr nd0)) fun k => by
      rw [hp.mem_iff]
      refine ⟨rx0 k, fun r => ?_⟩
      induction r with
      | seed h1 h2 => exact (cs0 _ h1 h2).resolve_right (fun q => nomatch q)
      | step h1 h2 h3 ih => exact (cl0 _ ih _ h2 h3).resolve_right (fun q => nomatch q)
    rw [e] at iz
    exact hT _ _ (hP _ g4 _ S4.ext iz)
  · subst hws
    have hk : Reach steps seeds k := rw0 k (by simp)
    rw [List.concat_eq_append] at *
    obtain ⟨us', t, rfl, ius'⟩ := intsAre_concat ius
    rw [List.length_append, List.length_singleton] at bd0 hN
    have hul := ius'.length
    refine evC_while_turn (ev_true_value (ev_var S3 kn3.g2 (ev_truthy_list (S3.getV (.head _)) (by simp; (first | lia | omega)) ?_)))
    have e0 : (!(us' ++ [Value.int k t]).isEmpty) = true := by cases us' <;> rfl
    rw [e0]
    simp only [if_true]
    refine ev_cons (ev_assign (ev_method (ev_var S3 kn3.g2 (fun pl => ev_getm_list (S3.getV (.head _)) PySem.F.slot_list_pop PySem.F.type_list_pop (ev_args_nil ⟨keepable_builtin _ _, ev_pop (S3.getV (.head _)) (by (first | lia | omega)) fun h4 e4 e5 b5 => ?_⟩)))))
    have S4 := S3.upd .head b5 e5 (lobj_nocell _ _)
    refine ev_store S4 (.inl ⟨rfl, rfl⟩) fun h5 S5 => ?_
    have kn5 : Kn (setM m3 "number" (.int k t)) [("steps", .ref a), ("seen", .ref F), ("waiting", .ref W)] := kn3.other
    refine ev_cons (ev_if (ev_true_compare1 (ev_var S5 (setM_self _ _ _) (ev_var S5 kn5.g1 (ev_notin (S5.getV (.tail _ (.head _))) ivs (ev_truthy_bool ?_))))))
    refine if_ndec (fun p => ?_) (fun p => ?_)
    · refine ev_cons (ev_app S5 kn5.g1 (.tail _ (.head _)) (ev_var S5 (setM_self _ _ _) ⟨g3, _, _, vs, c0, _, S5, (fun _ => .tail .head), by rw [ivs.length]; (first | lia | omega), fun h6 S6 => ?_⟩))
      obtain ⟨u, hu, iu⟩ := hget hk.ok
      refine ev_cons (ev_ext S6 kn5.g2 (.head _) (ev_elc S6 hr'.hh rfl (ev_subscript (ev_var S6 kn5.g0 (ev_var S6 (setM_self _ _ _) (ev_item_list (S6.frz _ _ (le3 _ _ ga)) hk.ok.1 hu ?_))))))
      have hrk := hrow k
      refine LcK.overL (xs := rowOf steps k) S6 G (iu.mono le3) [("steps", .ref a)] (fun k => if decide (okIn steps.length k) = true then some (.int k) else none) ?_ (by (first | lia | omega)) ?_ ?_
      · refine Kn.cmp kn5 fun p hp => ?_
        simp only [List.mem_cons, List.not_mem_nil, or_false] at hp
        rcases hp with rfl; exact ⟨.head _, rfl⟩
      · intro j k u g7 m h B' V' C G hV hk iu le kn S
        refine iu.intK fun t => ?_
        refine ev_assign_name S (.inl ⟨rfl, rfl⟩) fun h2 S => ev_test1 ?_
        have kn' : Kn (setM m "one" (.int k t)) [("steps", .ref a)] := kn.other
        refine ev_inr S G (setM_self _ _ _) kn'.g0 (le _ _ (le3 _ _ ga)) (by (first | lia | omega)) ?_
        rw [hsl]
        refine if_dec (fun p => ?_) (fun p => ?_)
        · exact ev_var S (setM_self _ _ _) ⟨g7, _, _, GLe.refl _, kn', S, by simp [p], .int⟩
        · exact ⟨g7, _, GLe.refl _, kn', S, by simp [p]⟩
      intro D7 g7 ys c7 h7 g8 le7 hys le8 hg8 S8
      rw [iL_filter] at hys
      have hfl : ((rowOf steps k).filter fun k => decide (okIn steps.length k)).length ≤ (rowOf steps k).length := List.length_filter_le _ _
      have hfm : ∀ j, j ∈ ((rowOf steps k).filter fun k => decide (okIn steps.length k)) ↔ j ∈ rowOf steps k ∧ okIn steps.length j := fun j => by rw [List.mem_filter, decide_eq_true_iff]
      generalize (rowOf steps k).filter (fun k => decide (okIn steps.length k)) = fs at hys hfl hfm
      refine ⟨g8, _, _, us', _, _, _, S8, (fun _ => .head), .list hg8 (hys.mono le8), ?_, fun h9 ws9 e9 iss9 S9 => ev_nil (ev_nil ?_)⟩
      · rw [iL_length]; (first | lia | omega)
      have hnd : (xs ++ [k]).Nodup := by
        rw [List.nodup_append]
        exact ⟨nd0, by simp, fun x hx y hy => by rw [List.mem_singleton.mp hy]; rintro rfl; exact p hx⟩
      have hxl2 : (xs ++ [k]).length ≤ steps.length := inRow_len hnd fun j hj => by
        rcases List.mem_append.mp hj with q | q
        · exact (rx0 j q).ok
        · rw [List.mem_singleton.mp q]; exact hk.ok
      rw [List.length_append, List.length_singleton] at hxl2
      refine ih (N - 1) (by (first | lia | omega)) g8 (us' ++ ws9) _ h9 ((le3.trans le7).trans le8) (vs ++ [.int k t]) _ (ws' ++ fs) (intsAre_app ius' iss9.iL) (fun j hj => ?_) (xs ++ [k]) (intsAre_app ivs (.cons _ _ .nil)) (fun j hj ho => ?_) ?_ (fun j hj => ?_) (fun b hb j hj ho => ?_) hnd _ S9 kn5 ?_
      · rcases List.mem_append.mp hj with q | q
        · exact rw0 j (List.mem_append_left _ q)
        · exact .step hk ((hfm j).mp q).1 ((hfm j).mp q).2
      · rcases cs0 j hj ho with q | q
        · exact .inl (List.mem_append_left _ q)
        · rcases List.mem_append.mp q with q | q
          · exact .inr (List.mem_append_left _ q)
          · exact .inl (List.mem_append_right _ q)
      · rw [List.length_append, List.length_append, List.length_singleton]; (first | lia | omega)
      · rcases List.mem_append.mp hj with q | q
        · exact rx0 j q
        · rw [List.mem_singleton.mp q]; exact hk
      · rcases List.mem_append.mp hb with q | q
        · rcases cl0 b q j hj ho with q | q
          · exact .inl (List.mem_append_left _ q)
          · rcases List.mem_append.mp q with q | q
            · exact .inr (List.mem_append_left _ q)
            · exact .inl (List.mem_append_right _ q)
        · rw [List.mem_singleton.mp q] at hj
          exact .inr (List.mem_append_right _ ((hfm j).mpr ⟨hj, ho⟩))
      · rw [List.length_append, List.length_append, List.length_singleton]; (first | lia | omega)
    · refine ev_nil (ev_nil ?_)
      refine ih (N - 1) (by (first | lia | omega)) g3 us' _ h5 le3 vs _ ws' ius' (fun j hj => rw0 j (List.mem_append_left _ hj)) xs ivs (fun j hj ho => ?_) (by (first | lia | omega)) rx0 (fun b hb j hj ho => ?_) nd0 _ S5 kn5 (by (first | lia | omega))
      · rcases cs0 j hj ho with q | q
        · exact .inl q
        · rcases List.mem_append.mp q with q | q
          · exact .inr q
          · rw [List.mem_singleton.mp q]; exact .inl p
      · rcases cl0 b hb j hj ho with q | q
        · exact .inl q
        · rcases List.mem_append.mp q with q | q
          · exact .inr q
          · rw [List.mem_singleton.mp q]; exact .inl p
end
noncomputable def ringsL (steps : List (List Int)) : List Int := (rangeI steps.length).filter fun k => decide (k ∈ rch steps (rowOf steps k))
theorem rangeI_get {n i : Nat} {k : Int} (h : (rangeI n)[i]? = some k) : k = (i : Int) ∧ i < n := by
  unfold rangeI at h
  rw [List.getElem?_map, Option.map_eq_some_iff] at h
  obtain ⟨a, ha, rfl⟩ := h
  by_cases q : i < n
  · rw [List.getElem?_range q] at ha
    simp only [Option.some.injEq] at ha; subst ha
    exact ⟨rfl, q⟩
  · rw [List.getElem?_eq_none (by simp; (first | lia | omega))] at ha; cases ha
theorem rangeI_at {n i : Nat} (h : i < n) : (rangeI n)[i]? = some (i : Int) := by
  unfold rangeI
  rw [List.getElem?_map, List.getElem?_range h]; rfl
theorem okIn_nat {n i : Nat} (h : i < n) : okIn n (i : Int) := ⟨by (first | lia | omega), by (first | lia | omega)⟩
theorem ringsL_len (steps : List (List Int)) : (ringsL steps).length ≤ steps.length := by
  have := List.length_filter_le (fun k => decide (k ∈ rch steps (rowOf steps k))) (rangeI steps.length)
  rw [rangeI_length] at this; exact this
section
variable {prog : Program} {w : World} {A : Around} {B : Bs} {g g' : Gm} {V V' : List (Addr × Obj)} {env : Env} {m : Str → Option Value} {h h' hb : Heap} {K : Frag} {mg mb : Str → Option Value} {ad : Ads} {C fI : Addr}
/-- range(len(x)) -/
theorem ev_rangelen {x : Str} {p1 p2 p3 p4 p5 : Pos} {l : Addr} {vs : List Value} {c : Nat} {P : Value → Heap → Prop} (S : St B g V env m h) (G : Gd K mg mb B.hb ad) (hx : m x = some (.ref l)) (hl : h.get? l = some (lobj vs c)) (hz : vs.length < 100000)
    (hP : ∀ r g' h', GLe g g' → Src g' (.ref r) vs.length (fun i x => ∃ t, x = .int i t) → St B g' V env m h' → P (.ref r) h')
    (hk1 : isVar env x = true := by rfl) (hd1 : (x == ("__debug__" : Str)) = false := by rfl)
    (hkr : env.kindOf "range" = some .globalImplicit := by rfl) (hkl : env.kindOf "len" = some .globalImplicit := by rfl) (hg : env.globals = mainGlobals := by rfl) (hbn : env.builtins = builtinsNs := by rfl) :
    Ev prog w A (eval (.Call (.Name "range" p1) [.Call (.Name "len" p2) [.Name x p3] [] p4] [] p5) env) h P := by
  refine ev_callB S G.cx G.bi.range (fun _ => keepable_type _ _) (ev_args_cons (ev_callB S G.cx G.bi.len (fun _ => keepable_builtin _ _) (ev_args_cons (ev_var S hx (ev_args_nil (ev_len hl fun t => ev_args_nil ?_)) hk1 hd1)) hkl (by rfl) hg hbn (by rfl))) hkr (by rfl) hg hbn (by rfl)
  exact ev_range S (by (first | lia | omega)) hP
/-- over a range -/
theorem LcK.overR {elt : Expr} {gc : Comprehension} {scope : Scope} {pos : Pos} {cl : List (Str × Addr)} {T : (Str → Option Value) → Addr → Str → Option Value} {Q : Addr → Heap → Prop} {xv : Value} {n : Nat} (S : St B g V env m h) (G : Gd K mg mb B.hb ad) (src : Src g xv n (fun i x => ∃ t, x = .int i t))
    (lc : List (Str × Value)) (f : Int → Option D) (hlc : Kn (cmpM cl m) lc) (hn : n < 100000)
    (turn : ∀ (j : Nat) t g2 m h B' V' C, Gd K mg mb B'.hb ad → InC V V' B' C scope → j < n → GLe g g2 → Kn m lc → St B' g2 V' (cmpEnv scope cl C env) m h →
      Ev prog w A (assign gc.target (cmpEnv scope cl C env) (.int j t)) h fun _ h2 => Ev prog w A (testsT gc.ifs (cmpEnv scope cl C env)) h2 fun ok h3 =>
        if ok = true then Ev prog w A (eval elt (cmpEnv scope cl C env)) h3 (CdT prog w lc B' g2 V' (cmpEnv scope cl C env) (f j))
        else CdF lc B' g2 V' (cmpEnv scope cl C env) (f j = none) h3)
    (k : ∀ D g5 ys c h' g6, GLe g g5 → Iss prog w g5 ys ((rangeI n).filterMap f) → GLe g5 g6 → g6 D = some (lobj ys c) → St B g6 V env (T m D) h' → Q D h') (ha : gc.is_async = 0 := by rfl) :
    LcK prog w A B elt [gc] scope pos cl env T Q xv h := by
  refine ⟨g, V, m, n, _, _, src, S, comp_data G lc (rangeI n) f hlc (rangeI_length n) hn (fun j a v g2 m h B' V' C G' hV hj hjn ⟨t, e⟩ => ?_) ha, fun D g5 V5 ys c h' le hV ⟨e, hys⟩ hDW S5 => ?_⟩
  · subst e
    obtain ⟨rfl, _⟩ := rangeI_get hj
    exact turn j t g2 m h B' V' C G' hV hjn
  · subst e
    refine S5.freezeK .head hDW fun g6 le6 hg S6 => ?_
    exact k D g5 ys c h' g6 le hys le6 hg S6
/-- a loop over a range -/
theorem ForK.overR {target : Expr} {body : List Stmt} {P : Flow → Heap → Prop} {J : Jt} {xv : Value} {n : Nat} (S : St B g V env m h) (src : Src g xv n (fun i x => ∃ t, x = .int i t)) (j0 : J 0 g V m)
    (turn : ∀ (j : Nat) t g2 V m h I oI (T : Flow → Heap → Prop), (∀ h', TurnI B env J j g2 I oI h' → T .next h') → j < n → GLe g g2 → J j g2 V m → St B g2 ((I, oI) :: V) env m h →
      Ev prog w A (assign target env (.int j t)) h fun _ h2 => Ev prog w A (execs body env) h2 T)
    (done : ∀ g2 V m h, GLe g g2 → J n g2 V m → St B g2 V env m h → P .next h) : ForK B env J (ForT prog w A B env J target body P) P xv h :=
  ⟨g, V, m, n, _, src, S, j0, fun j v g2 V m h I oI T hT _ hj ⟨t, e⟩ le jj S => by
    subst e
    exact turn j t g2 V m h I oI T hT hj le jj S, done⟩
/-- on_rings -/
theorem c_rings (G : Gd K mg mb hb ad) (hr : Room A 5) (H : Hp hb g h) {sv : Value} {steps : List (List Int)} (i1 : Is prog w g sv (stepsD steps)) (hn : steps.length ≤ 20) (hrow : ∀ k, (rowOf steps k).length ≤ 100) :
    Gives prog w A g h (.ref ad.rings) [sv] fun g' u => Is prog w g' u (.list (iL (ringsL steps))) := fun P hP => by
  obtain ⟨a, svs, sc, rfl, ga, hsl, hget⟩ := steps_list i1
  refine enter (V := []) G G.rings.2 hr H (Wr.nil _ _) (binds := [("steps", .ref a)]) (fun _ _ _ _ _ => rfl) (fun n x hx => ?_) (by rfl) (fun x A' T h₁ hr' hT S => ?_)
  · simp only [List.mem_cons, List.not_mem_nil, or_false] at hx
    rcases hx with rfl
    exact .inr ⟨rfl, rfl⟩
  refine ev_cons (ev_return (ev_elc S hr'.hh rfl (ev_rangelen S G rfl (S.frz _ _ ga) (by (first | lia | omega)) fun r g2 h2 le2 src S2 => ?_)))
  rw [hsl] at src
  refine LcK.overR S2 G src [("steps", .ref a)] (fun k => if decide (k ∈ rch steps (rowOf steps k)) = true then some (.int k) else none) ?_ (by (first | lia | omega)) ?_ ?_
  · refine Kn.cmp (l := [("steps", .ref a)]) (.cons rfl .nil) fun p hp => ⟨hp, ?_⟩
    simp only [List.mem_cons, List.not_mem_nil, or_false] at hp
    rcases hp with rfl; rfl
  · intro j t g3 m h B' V' C G hV hj le kn S
    refine ev_assign_name S (.inl ⟨rfl, rfl⟩) fun h2 S => ev_test1 ?_
    have kn' : Kn (setM m "number" (.int j t)) [("steps", .ref a)] := kn.other
    have gle := le2.trans le
    obtain ⟨u, hu, iu⟩ := hget (okIn_nat hj)
    refine ev_true_compare1 (ev_var S (setM_self _ _ _) (ev_callD S G.cx G.reached (ev_args_cons (ev_var S kn'.g0 (ev_args_cons (ev_subscript (ev_var S kn'.g0 (ev_var S (setM_self _ _ _) (ev_item_list (S.frz _ _ (gle _ _ ga)) (okIn_nat hj).1 hu (ev_args_nil ⟨S.hbk, ?_⟩))))))))))
    refine (c_reached G (hr'.less (by decide)) S.hp (i1.mono gle) (iu.mono gle) hn hrow (by have := hrow j; (first | lia | omega))).use S fun u5 g5 h5 le5 iu5 S5 => ?_
    refine iu5.listK fun a5 vs5 c5 ga5 iss5 => ?_
    refine ev_in (S5.frz _ _ ga5) iss5.iL (ev_truthy_bool ?_)
    refine if_dec (fun p => ?_) (fun p => ?_)
    · exact ev_var S5 (setM_self _ _ _) ⟨g5, _, _, le5, kn', S5, by simp [p], .int⟩
    · exact ⟨g5, _, le5, kn', S5, by simp [p]⟩
  · intro D5 g5 ys k5 h5 g6 le5 hys le6 hg6 S6
    rw [iL_filter] at hys
    exact hT _ _ (hP _ g6 _ S6.ext (.list hg6 (hys.mono le6)))
end
noncomputable def mx (l : List Int) : Int := l.foldr max 0
theorem mx_le : ∀ (l : List Int) (k : Int), k ∈ l → k ≤ mx l
  | x :: r, k, h => by
    show k ≤ max x (mx r)
    rcases List.mem_cons.mp h with rfl | h
    · (first | lia | omega)
    · have := mx_le r k h; (first | lia | omega)
theorem mx_nonneg : ∀ l : List Int, 0 ≤ mx l
  | [] => by decide
  | x :: r => by
    show 0 ≤ max x (mx r)
    have := mx_nonneg r; (first | lia | omega)
theorem mx_mem : ∀ l : List Int, mx l = 0 ∨ mx l ∈ l
  | [] => .inl rfl
  | x :: r => by
    show max x (mx r) = 0 ∨ max x (mx r) ∈ x :: r
    by_cases q : x ≤ mx r
    · rw [Int.max_eq_right q]
      rcases mx_mem r with e | e
      · exact .inl e
      · exact .inr (.tail _ e)
    · rw [Int.max_eq_left (by (first | lia | omega))]; exact .inr (.head _)
theorem mx_eq {M : Int} {l : List Int} (h1 : M ∈ 0 :: l) (h2 : ∀ y ∈ (0 : Int) :: l, y ≤ M) : M = mx l := by
  have a : mx l ≤ M := by
    rcases mx_mem l with e | e
    · rw [e]; exact h2 0 (.head _)
    · exact h2 _ (.tail _ e)
  have b : M ≤ mx l := by
    rcases List.mem_cons.mp h1 with rfl | h
    · exact mx_nonneg l
    · exact mx_le l M h
  (first | lia | omega)
theorem iL_filter_map (p : Int → Bool) (f : Int → Int) : ∀ xs : List Int, (xs.filterMap fun k => if p k = true then some (D.int (f k)) else none) = iL ((xs.filter p).map f)
  | [] => rfl
  | x :: r => by
    have ih := iL_filter_map p f r
    by_cases q : p x = true
    · rw [List.filterMap_cons, List.filter_cons]; simp only [q, if_true]; rw [ih]; rfl
    · rw [List.filterMap_cons, List.filter_cons]; simp only [q, if_false]; rw [ih]; simp
noncomputable def lostB (steps : List (List Int)) (k : Int) : Bool := (rch steps [k]).any fun j => decide (j ∈ ringsL steps)
noncomputable def baseL (steps : List (List Int)) : List Int := (rangeI steps.length).map fun k => if lostB steps k = true then -1 else 0
noncomputable def upd (steps : List (List Int)) (f : List Int) (k : Int) : List Int := if f.getD k.toNat 0 ≥ 0 then f.set k.toNat (mx ((fitR steps.length (rowOf steps k)).map fun j => f.getD j.toNat 0 + 1)) else f
noncomputable def sweep (steps : List (List Int)) (f : List Int) : List Int := (rangeI steps.length).foldl (upd steps) f
noncomputable def depsL (steps : List (List Int)) : List Int := (rangeI steps.length).foldl (fun f _ => sweep steps f) (baseL steps)
theorem upd_len (steps : List (List Int)) (f : List Int) (k : Int) : (upd steps f k).length = f.length := by unfold upd; split <;> simp
theorem foldl_snoc {α β : Type} (F : β → α → β) (b : β) {l : List α} {i : Nat} {a : α} (h : l[i]? = some a) : (l.take (i + 1)).foldl F b = F ((l.take i).foldl F b) a := by
  rw [take_snoc _ _ _ h, List.foldl_append]; rfl
theorem baseL_len (steps : List (List Int)) : (baseL steps).length = steps.length := by unfold baseL; rw [List.length_map, rangeI_length]
theorem baseL_snoc (steps : List (List Int)) {i : Nat} (h : i < steps.length) : (baseL steps).take (i + 1) = (baseL steps).take i ++ [if lostB steps i = true then -1 else 0] := by
  refine take_snoc _ _ _ ?_
  unfold baseL
  rw [List.getElem?_map, rangeI_at h]; rfl
theorem any_iff {xs ys : List Int} : (xs.any fun j => decide (j ∈ ys)) = true ↔ ∃ k, k ∈ xs ∧ k ∈ ys := by
  rw [List.any_eq_true]
  constructor
  · rintro ⟨k, a, b⟩; exact ⟨k, a, of_decide_eq_true b⟩
  · rintro ⟨k, a, b⟩; exact ⟨k, a, decide_eq_true b⟩
theorem intsAre_set : ∀ {vs : List Value} {xs : List Int}, IntsAre vs xs → ∀ (k : Int) (t : Tok) (i : Nat), IntsAre (vs.set i (.int k t)) (xs.set i k)
  | _, _, .nil, _, _, _ => .nil
  | _, _, .cons n u h, k, t, 0 => .cons k t h
  | _, _, .cons n u h, k, t, i + 1 => .cons n u (intsAre_set h k t i)
theorem few_in {n : Nat} (hn : n ≤ 20) {xs : List Int} (h : ∀ k ∈ xs, okIn n k) : Few xs := fun k hk => by have := h k hk; unfold okIn at this; (first | lia | omega)
theorem getD_at {f : List Int} {i : Nat} (h : i < f.length) : f[i]? = some (f.getD i 0) := by simp [List.getElem?_eq_getElem h]
section
variable {prog : Program} {w : World} {A : Around} {B : Bs} {g g' : Gm} {V V' : List (Addr × Obj)} {env : Env} {m : Str → Option Value} {h h' hb : Heap} {K : Frag} {mg mb : Str → Option Value} {ad : Ads} {C fI : Addr}
theorem ev_foundAt {x y : Str} {p1 p2 pos : Pos} {F : Addr} {vs : List Value} {f : List Int} {c : Nat} {k : Int} {t : Tok} {P : Value → Heap → Prop} (S : St B g V env m h) (hx : m x = some (.ref F)) (hF : (F, lobj vs c) ∈ V) (hi : IntsAre vs f) (hy : m y = some (.int k t)) (hk : okIn f.length k) (hz : vs.length < 100000)
    (hP : ∀ t, P (.int (f.getD k.toNat 0) t) h)
    (hk1 : isVar env x = true := by rfl) (hd1 : (x == ("__debug__" : Str)) = false := by rfl) (hk2 : isVar env y = true := by rfl) (hd2 : (y == ("__debug__" : Str)) = false := by rfl) :
    Ev prog w A (eval (.Subscript (.Name x p1) (.Name y p2) pos) env) h P := by
  have hlt : k.toNat < f.length := by unfold okIn at hk; (first | lia | omega)
  obtain ⟨u, hu⟩ := hi.get k.toNat _ (getD_at hlt)
  exact ev_subscript (ev_var S hx (ev_var S hy (ev_item_list (S.getV hF) hk.1 hu (hP u)) hk2 hd2) hk1 hd1)
/-- depths -/
theorem c_depths (G : Gd K mg mb hb ad) (hr : Room A 7) (H : Hp hb g h) {sv : Value} {steps : List (List Int)} (i1 : Is prog w g sv (stepsD steps)) (hn : steps.length ≤ 20) (hrow : ∀ k, (rowOf steps k).length ≤ 100) :
    Gives prog w A g h (.ref ad.depths) [sv] fun g' u => Is prog w g' u (.list (iL (depsL steps))) := fun P hP => by
  obtain ⟨a, svs, sc, rfl, ga, hsl, hget⟩ := steps_list i1
  refine enter (V := []) G G.depths.2 hr H (Wr.nil _ _) (binds := [("steps", .ref a)]) (fun _ _ _ _ _ => rfl) (fun n x hx => ?_) (by rfl) (fun x A' T h₁ hr' hT S => ?_)
  · simp only [List.mem_cons, List.not_mem_nil, or_false] at hx
    rcases hx with rfl
    exact .inr ⟨rfl, rfl⟩
  refine ev_cons (ev_assign (ev_callD S G.cx G.rings (ev_args_cons (ev_var S rfl (ev_args_nil ⟨S.hbk, ?_⟩)))))
  refine (c_rings G (hr'.less (by decide)) S.hp i1 hn hrow).use S fun rv g2 h2 le2 irv S2 => ?_
  refine ev_store S2 (.inl ⟨rfl, rfl⟩) fun h3 S3 => ?_
  refine ev_cons (ev_assign (ev_list (ev_args_nil ⟨le_line (le_dec rfl), ?_⟩)))
  have S4 := S3.push_vol (lobj [] 0) rfl (lobj_nocell _ _)
  generalize h3.objs.size = F at S4
  refine ev_store S4 (.inr ⟨rfl, _, rfl, .inr ⟨"found", rfl⟩⟩) fun h5 S5 => ?_
  have kn5 : Kn (setM (setM (bindA [("steps", .ref a)] fun _ => none) "rings" rv) "found" (.ref F)) [("steps", .ref a), ("found", .ref F), ("rings", rv)] := .cons rfl (.cons rfl (.cons rfl .nil))
  generalize setM (setM (bindA [("steps", .ref a)] fun _ => none) "rings" rv) "found" (.ref F) = m5 at S5 kn5
  have hrl := ringsL_len steps
  refine ev_cons (ev_forS S5 (fun i g V m => ∃ vs c, V = [(F, lobj vs c)] ∧ IntsAre vs ((baseL steps).take i) ∧ Kn m [("steps", .ref a), ("found", .ref F), ("rings", rv)]) hr'.hh
    (ev_rangelen S5 G kn5.g0 (S5.frz _ _ (le2 _ _ ga)) (by (first | lia | omega)) fun r g6 h6 le6 src S6 => ?_))
  rw [hsl] at src
  refine ForK.overR S6 src ⟨[], 0, rfl, .nil, kn5⟩ ?_ ?_
  · rintro j t g7 V7 m7 h7 I oI T2 hT2 hj le7 ⟨vs, c, rfl, ivs, kn⟩ S7
    refine ev_assign_name S7 (.inl ⟨rfl, rfl⟩) fun h8 S8 => ?_
    have kn8 : Kn (setM m7 "number" (.int j t)) [("steps", .ref a), ("found", .ref F), ("rings", rv)] := kn.other
    have gle := (le2.trans le6).trans le7
    have hvl : vs.length ≤ 20 := by rw [ivs.length, List.length_take, baseL_len]; (first | lia | omega)
    refine ev_cons (ev_app S8 kn8.g1 (.tail _ (.head _)) (ev_ifexp (ev_true_value (ev_binop (ev_callB S8 G.cx G.bi.set (fun _ => keepable_type _ _) (ev_args_cons (ev_callD S8 G.cx G.reached (ev_args_cons (ev_var S8 kn8.g0 (ev_args_cons (ev_list (ev_args_cons (ev_var S8 (setM_self _ _ _) (ev_args_nil ⟨le_line (le_dec rfl), ?_⟩))))))))))))))
    refine S8.push_frzK (lobj [.int j t] 0) rfl fun g9 le9 hg9 S9 => ?_
    refine ev_args_nil ⟨S9.hbk, ?_⟩
    refine (c_reached (seeds := [(j : Int)]) G (hr'.less (by decide)) S9.hp ((i1.mono gle).mono le9) (.list hg9 (.cons .int .nil)) hn hrow (by simp)).use S9 fun u10 g10 h10 le10 iu10 S10 => ?_
    have hrc := rch_len steps [(j : Int)]
    refine ev_args_nil (ev_set_is S10 hr'.hh iu10 (by (first | lia | omega)) fun R1 g11 h11 le11 _ sv1 S11 => ?_)
    refine ev_callB S11 G.cx G.bi.set (fun _ => keepable_type _ _) (ev_args_cons (ev_var S11 kn8.g2 (ev_args_nil ?_)))
    refine ev_set_is S11 hr'.hh ((((((irv.mono le6).mono le7).mono le9).mono le10).mono le11)) (by (first | lia | omega)) fun R2 g12 h12 le12 hR2 sv2 S12 => ?_
    refine ev_and_set S12 (sv1.mono le12) sv2 ?_ fun R3 g13 h13 o13 n13 le13 hg13 hn13 S13 tr => tr _ ?_
    · rintro e
      obtain ⟨b, ob, nb, eb, hgb, _⟩ := sv1.ex
      cases eb; cases e
      rw [hgb] at hR2; cases hR2
    by_cases q : lostB steps j = true
    · have : n13 ≠ 0 := hn13.mpr (any_iff.mp q)
      have e : (n13 != 0) = true := by simpa using this
      rw [e]; simp only [if_true]
      exact ev_unary (ev_int fun t1 => ev_neg fun t2 => ⟨g13, _, _, vs, c, _, S13, (fun _ => .tail .head), by (first | lia | omega), fun h14 S14 => ev_nil (hT2 _ ⟨g13, _, _, (((le9.trans le10).trans le11).trans le12).trans le13, ⟨_, _, rfl, by rw [baseL_snoc steps hj, if_pos q]; exact intsAre_app ivs (.cons _ _ .nil), kn8⟩, S14⟩)⟩)
    · have : ¬ n13 ≠ 0 := fun e => q (any_iff.mpr (hn13.mp e))
      have e : (n13 != 0) = false := by simpa using this
      rw [e]; simp only [Bool.false_eq_true, if_false]
      exact ev_int fun t1 => ⟨g13, _, _, vs, c, _, S13, (fun _ => .tail .head), by (first | lia | omega), fun h14 S14 => ev_nil (hT2 _ ⟨g13, _, _, (((le9.trans le10).trans le11).trans le12).trans le13, ⟨_, _, rfl, by rw [baseL_snoc steps hj, if_neg q]; exact intsAre_app ivs (.cons _ _ .nil), kn8⟩, S14⟩)⟩
  rintro g7 V7 m7 h7 le7 ⟨vs, c, rfl, ivs, kn⟩ S7
  rw [List.take_of_length_le (by rw [baseL_len]; (first | lia | omega))] at ivs
  have gl7 := (le2.trans le6).trans le7
  have foldLen : ∀ (l : List Int) (f : List Int), (l.foldl (upd steps) f).length = f.length := fun l => by
    induction l with
    | nil => intro f; rfl
    | cons x r ih => intro f; rw [List.foldl_cons, ih, upd_len]
  refine ev_cons (ev_forS S7 (fun i g V m => ∃ vs c, V = [(F, lobj vs c)] ∧ IntsAre vs (((rangeI steps.length).take i).foldl (fun f _ => sweep steps f) (baseL steps)) ∧ vs.length = steps.length ∧ Kn m [("steps", .ref a), ("found", .ref F)]) hr'.hh
    (ev_rangelen S7 G kn.g0 (S7.frz _ _ (gl7 _ _ ga)) (by (first | lia | omega)) fun r g8 h8 le8 src8 S8 => ?_))
  rw [hsl] at src8
  refine ForK.overR S8 src8 ⟨vs, c, rfl, ivs, by rw [ivs.length, baseL_len], .cons kn.g0 (.cons kn.g1 .nil)⟩ ?_ ?_
  · rintro i t g9 V9 m9 h9 I oI T2 hT2 hi le9 ⟨vs, c, rfl, ivs, hvl, kn⟩ S9
    refine ev_assign_name S9 (.inl ⟨rfl, rfl⟩) fun h10 S10 => ?_
    have kn10 : Kn (setM m9 "turn" (.int i t)) [("steps", .ref a), ("found", .ref F)] := kn.other
    have gl9 := (gl7.trans le8).trans le9
    generalize hf0 : ((rangeI steps.length).take i).foldl (fun f _ => sweep steps f) (baseL steps) = f0 at ivs
    refine ev_cons (ev_forS S10 (fun j g V m => ∃ vs c, V = [(I, oI), (F, lobj vs c)] ∧ IntsAre vs (((rangeI steps.length).take j).foldl (upd steps) f0) ∧ vs.length = steps.length ∧ Kn m [("steps", .ref a), ("found", .ref F)]) hr'.hh
      (ev_rangelen S10 G kn10.g0 (S10.frz _ _ (gl9 _ _ ga)) (by (first | lia | omega)) fun r g11 h11 le11 src11 S11 => ?_))
    rw [hsl] at src11
    refine ForK.overR S11 src11 ⟨vs, c, rfl, ivs, hvl, kn10⟩ ?_ ?_
    · rintro j t2 g12 V12 m12 h12 I2 oI2 T3 hT3 hj le12 ⟨vs, c, rfl, ivs, hvl, kn⟩ S12
      refine ev_assign_name S12 (.inl ⟨rfl, rfl⟩) fun h13 S13 => ?_
      have kn13 : Kn (setM m12 "number" (.int j t2)) [("steps", .ref a), ("found", .ref F)] := kn.other
      have gl12 := (gl9.trans le11).trans le12
      have st : ((rangeI steps.length).take (j + 1)).foldl (upd steps) f0 = upd steps (((rangeI steps.length).take j).foldl (upd steps) f0) j := foldl_snoc _ _ (rangeI_at hj)
      generalize ((rangeI steps.length).take j).foldl (upd steps) f0 = f at ivs st
      have hfl : f.length = steps.length := by rw [← ivs.length, hvl]
      refine ev_cons (ev_if (ev_true_compare1 (ev_foundAt S13 kn13.g1 (.tail _ (.tail _ (.head _))) ivs (setM_self _ _ _) (by rw [hfl]; exact okIn_nat hj) (by (first | lia | omega)) fun t3 => ev_int fun t4 => ev_ge (ev_truthy_bool ?_))))
      refine if_dec (fun p => ?_) (fun p => ?_)
      · refine ev_cons (ev_assign_sub (ev_callB S13 G.cx G.bi.max (fun _ => keepable_builtin _ _) (ev_args_cons (ev_binop (ev_list (ev_args_cons (ev_int fun t5 => ev_args_nil ⟨le_line (le_dec rfl), ?_⟩)))))))
        refine S13.push_frzK (lobj [.int 0 t5] 0) rfl fun g14 le14 hg14 S14 => ?_
        obtain ⟨u, hu, iu⟩ := hget (okIn_nat hj)
        refine ev_elc S14 hr'.hh rfl (ev_subscript (ev_var S14 kn13.g0 (ev_var S14 (setM_self _ _ _) (ev_item_list (S14.frz _ _ (le14 _ _ (gl12 _ _ ga))) (okIn_nat hj).1 hu ?_))))
        have hrk := hrow j
        refine LcK.overL (xs := rowOf steps j) S14 G ((iu.mono gl12).mono le14) [("steps", .ref a), ("found", .ref F)] (fun k => if decide (okIn steps.length k) = true then some (.int (f.getD k.toNat 0 + 1)) else none) ?_ (by (first | lia | omega)) ?_ ?_
        · refine Kn.cmp kn13 fun p hp => ⟨hp, ?_⟩
          simp only [List.mem_cons, List.not_mem_nil, or_false] at hp
          rcases hp with rfl | rfl <;> rfl
        · intro j' k u g7 m h B' V' C G hV hk iu le kn S
          refine iu.intK fun t => ?_
          refine ev_assign_name S (.inl ⟨rfl, rfl⟩) fun h2 S => ev_test1 ?_
          have kn' : Kn (setM m "one" (.int k t)) [("steps", .ref a), ("found", .ref F)] := kn.other
          refine ev_inr S G (setM_self _ _ _) kn'.g0 (le _ _ (le14 _ _ (gl12 _ _ ga))) (by (first | lia | omega)) ?_
          rw [hsl]
          refine if_dec (fun p => ?_) (fun p => ?_)
          · refine ev_binop (ev_foundAt S kn'.g1 (hV.vol _ (.tail _ (.tail _ (.head _)))) ivs (setM_self _ _ _) (by rw [hfl]; exact p) (by (first | lia | omega)) fun t6 => ev_int fun t7 => ev_add fun t8 => ?_)
            exact ⟨g7, _, _, GLe.refl _, kn', S, by simp [p], .int⟩
          · exact ⟨g7, _, GLe.refl _, kn', S, by simp [p]⟩
        intro D15 g15 ys c15 h15 g16 le15 hys le16 hg16 S16
        rw [iL_filter_map] at hys
        have hll : ((rowOf steps j).filter fun k => decide (okIn steps.length k)).length ≤ (rowOf steps j).length := List.length_filter_le _ _
        have hyl : ys.length ≤ 100 := by rw [hys.length, iL_length, List.length_map]; (first | lia | omega)
        refine ev_add_list (S16.frz _ _ ((le15.trans le16) _ _ hg14)) (S16.frz _ _ hg16) (le_line (by simp; (first | lia | omega))) ?_
        refine S16.push_frzK (lobj ([.int 0 t5] ++ ys) 0) rfl fun g17 le17 hg17 S17 => ?_
        refine ev_args_nil (ev_max S17 hr'.hh (S17.frz _ _ hg17) (intsAre_app (.cons 0 t5 .nil) hys.iL) (by simp) fun M t9 h18 hM1 hM2 S18 => ?_)
        have eM := mx_eq hM1 hM2
        refine ev_var S18 kn13.g1 (ev_var S18 (setM_self _ _ _) (ev_set_list (S18.getV (.tail _ (.tail _ (.head _)))) (okIn_nat hj).1 (by simp; (first | lia | omega)) fun h19 e19 b19 => ?_))
        have S19 := S18.upd (.tail (.tail .head)) b19 e19 (lobj_nocell _ _)
        refine ev_nil (ev_nil (hT3 _ ⟨g17, _, _, ((le14.trans le15).trans le16).trans le17, ⟨_, _, rfl, ?_, by rw [List.length_set]; exact hvl, kn13⟩, S19⟩))
        rw [st, eM]
        unfold upd
        rw [if_pos p]
        exact intsAre_set ivs _ t9 _
      · refine ev_nil (ev_nil (hT3 _ ⟨g12, _, _, GLe.refl _, ⟨vs, c, rfl, ?_, hvl, kn13⟩, S13⟩))
        rw [st]; unfold upd; rw [if_neg p]; exact ivs
    · rintro g12 V12 m12 h12 le12 ⟨vs, c, rfl, ivs, hvl, kn⟩ S12
      rw [List.take_of_length_le (by rw [rangeI_length]; (first | lia | omega))] at ivs
      refine ev_nil (hT2 _ ⟨g12, _, _, le11.trans le12, ⟨vs, c, rfl, ?_, hvl, kn⟩, S12⟩)
      rw [foldl_snoc _ _ (rangeI_at hi), hf0]; exact ivs
  · rintro g9 V9 m9 h9 le9 ⟨vs, c, rfl, ivs, hvl, kn⟩ S9
    rw [List.take_of_length_le (by rw [rangeI_length]; (first | lia | omega))] at ivs
    refine ev_cons (ev_return (ev_var S9 kn.g1 ?_))
    refine S9.freezeK .head (fun q => nomatch q) fun g10 le10 hg10 S10 => ?_
    exact hT _ _ (hP _ g10 _ S10.ext (.list hg10 (iss_of_ints ivs)))
end
noncomputable def ways0 (steps : List (List Int)) : List (List Int) := steps.map fun row => (rangeI steps.length).filter fun k => decide (k ∈ row)
noncomputable def furL (W : List (List Int)) (k : Int) : List Int := (rowOf W k).flatMap fun one => (rowOf W one).filter fun goal => !decide (goal ∈ rowOf W k)
noncomputable def wupd (W : List (List Int)) (k : Int) : List (List Int) := W.set k.toNat (srt (rowOf W k ++ furL W k))
noncomputable def waysL (steps : List (List Int)) : List (List Int) := (rangeI steps.length).foldl (fun W _ => (rangeI steps.length).foldl wupd W) (ways0 steps)
structure WOk (n : Nat) (W : List (List Int)) : Prop where
  len : W.length = n
  row : ∀ k, okIn n k → (rowOf W k).Pairwise (· < ·) ∧ ∀ j ∈ rowOf W k, okIn n j
theorem rowOf_set {W : List (List Int)} {k j : Int} {r : List Int} (hk : okIn W.length k) (hj : okIn W.length j) : rowOf (W.set k.toNat r) j = if j = k then r else rowOf W j := by
  unfold rowOf okIn at *
  have hj' : j.toNat < W.length := by (first | lia | omega)
  by_cases q : j = k
  · subst q; simp [List.getD, List.getElem?_set, hj']
  · have : k.toNat ≠ j.toNat := by (first | lia | omega)
    simp [List.getD, List.getElem?_set, this, q]
theorem WOk.len' {n : Nat} {W : List (List Int)} (h : WOk n W) {k : Int} (hk : okIn n k) : (rowOf W k).length ≤ n := inRow_len (nodup_of_lt (h.row k hk).1) (h.row k hk).2
theorem mem_furL {n : Nat} {W : List (List Int)} (h : WOk n W) {k : Int} (hk : okIn n k) {j : Int} (hj : j ∈ furL W k) : okIn n j := by
  unfold furL at hj
  obtain ⟨a, ha, hj⟩ := List.mem_flatMap.mp hj
  exact (h.row a ((h.row k hk).2 a ha)).2 j (List.mem_filter.mp hj).1
theorem WOk.upd {n : Nat} {W : List (List Int)} (h : WOk n W) {k : Int} (hk : okIn n k) : WOk n (wupd W k) := by
  refine ⟨by unfold wupd; rw [List.length_set, h.len], fun j hj => ?_⟩
  unfold wupd
  rw [rowOf_set (by rw [h.len]; exact hk) (by rw [h.len]; exact hj)]
  split
  · refine ⟨pw_srt _, fun i hi => ?_⟩
    rw [mem_srt] at hi
    rcases List.mem_append.mp hi with q | q
    · exact (h.row k hk).2 i q
    · exact mem_furL h hk q
  · exact h.row j hj
theorem rowOf_map {steps : List (List Int)} {F : List Int → List Int} {k : Int} (hk : okIn steps.length k) : rowOf (steps.map F) k = F (rowOf steps k) := by
  unfold rowOf okIn at *
  have : k.toNat < steps.length := by (first | lia | omega)
  simp [List.getD, List.getElem?_eq_getElem this]
theorem ways0_ok (steps : List (List Int)) : WOk steps.length (ways0 steps) := by
  refine ⟨by unfold ways0; simp, fun k hk => ?_⟩
  unfold ways0
  rw [rowOf_map hk]
  exact ⟨(pw_rangeI _).sublist List.filter_sublist, fun j hj => mem_rangeI.mp (List.mem_filter.mp hj).1⟩
theorem WOk.fold {n : Nat} : ∀ (l : List Int) {W : List (List Int)}, (∀ k ∈ l, okIn n k) → WOk n W → WOk n (l.foldl wupd W)
  | [], _, _, h => h
  | x :: r, _, hl, h => WOk.fold r (fun k hk => hl k (.tail _ hk)) (h.upd (hl x (.head _)))
theorem WOk.fold2 {n : Nat} : ∀ (l : List Int) {W : List (List Int)}, WOk n W → WOk n (l.foldl (fun W _ => (rangeI n).foldl wupd W) W)
  | [], _, h => h
  | x :: r, _, h => WOk.fold2 r (h.fold _ fun k hk => mem_rangeI.mp hk)
theorem waysL_ok (steps : List (List Int)) : WOk steps.length (waysL steps) := (ways0_ok steps).fold2 _
section
variable {prog : Program} {w : World} {A : Around} {B : Bs} {g g' : Gm} {V V' : List (Addr × Obj)} {env : Env} {m : Str → Option Value} {h h' hb : Heap} {K : Frag} {mg mb : Str → Option Value} {ad : Ads} {C fI : Addr}
theorem iss_rowAt {vs : List Value} {W : List (List Int)} (iss : Iss prog w g vs (W.map fun r => .list (iL r))) {k : Int} (hk : okIn W.length k) : ∃ u, vs[k.toNat]? = some u ∧ Is prog w g u (.list (iL (rowOf W k))) :=
  iss.get' (by rw [List.getElem?_map, row_get hk]; rfl)
theorem ev_rowAt {x y : Str} {p1 p2 pos : Pos} {F : Addr} {vs : List Value} {W : List (List Int)} {c : Nat} {k : Int} {t : Tok} {P : Value → Heap → Prop} (S : St B g V env m h) (hx : m x = some (.ref F)) (hF : h.get? F = some (lobj vs c)) (hi : Iss prog w g vs (W.map fun r => .list (iL r))) (hy : m y = some (.int k t)) (hk : okIn W.length k) (hz : vs.length < 100000)
    (hP : ∀ u, Is prog w g u (.list (iL (rowOf W k))) → P u h)
    (hk1 : isVar env x = true := by rfl) (hd1 : (x == ("__debug__" : Str)) = false := by rfl) (hk2 : isVar env y = true := by rfl) (hd2 : (y == ("__debug__" : Str)) = false := by rfl) :
    Ev prog w A (eval (.Subscript (.Name x p1) (.Name y p2) pos) env) h P := by
  obtain ⟨u, hu, iu⟩ := iss_rowAt hi hk
  exact ev_subscript (ev_var S hx (ev_var S hy (ev_item_list hF hk.1 hu (hP u iu)) hk2 hd2) hk1 hd1)
/-- the law's ways -/
theorem c_ways (G : Gd K mg mb hb ad) (hr : Room A 5) (H : Hp hb g h) {sv : Value} {steps : List (List Int)} (i1 : Is prog w g sv (stepsD steps)) (hn : steps.length ≤ 20) (hrow : ∀ k, (rowOf steps k).length ≤ 100) :
    Gives prog w A g h (.ref ad.ways) [sv] fun g' u => Is prog w g' u (stepsD (waysL steps)) := fun P hP => by
  obtain ⟨a, svs, sc, rfl, ga, hsl, hget⟩ := steps_list i1
  refine enter (V := []) G G.ways.2 hr H (Wr.nil _ _) (binds := [("steps", .ref a)]) (fun _ _ _ _ _ => rfl) (fun n x hx => ?_) (by rfl) (fun x A' T h₁ hr' hT S => ?_)
  · simp only [List.mem_cons, List.not_mem_nil, or_false] at hx
    rcases hx with rfl
    exact .inr ⟨rfl, rfl⟩
  have kn0 : Kn (bindA [("steps", .ref a)] fun _ => none) [("steps", .ref a)] := .cons rfl .nil
  refine ev_cons (ev_assign (ev_elc S hr'.hh rfl (ev_var S rfl (LcK.overLV (xs := steps) S G i1 [("steps", .ref a)] (fun row => some (.list (iL ((rangeI steps.length).filter fun k => decide (k ∈ row))))) ?_ (by (first | lia | omega)) ?_ ?_))))
  · refine Kn.cmp kn0 fun p hp => ⟨hp, ?_⟩
    simp only [List.mem_cons, List.not_mem_nil, or_false] at hp
    rcases hp with rfl; rfl
  · intro j row u g3 m h B' V' C G hV hrw iu le kn S
    refine ev_assign_name S (.inr ⟨rfl, _, rfl, hV.own _ (.inr ⟨"row", rfl⟩)⟩) fun h2 S => ev_noTests ?_
    have kn' : Kn (setM m "row" u) [("steps", .ref a)] := kn.other
    refine ev_elc S hr'.hh rfl (ev_rangelen S G kn'.g0 (S.frz _ _ (le _ _ ga)) (by (first | lia | omega)) fun r g4 h4 le4 src4 S4 => ?_)
    rw [hsl] at src4
    refine LcK.overR S4 G src4 [("row", u)] (fun k => if decide (k ∈ row) = true then some (.int k) else none) ?_ (by (first | lia | omega)) ?_ ?_
    · refine Kn.cmp (l := [("row", u)]) (.cons (setM_self _ _ _) .nil) fun p hp => ⟨hp, ?_⟩
      simp only [List.mem_cons, List.not_mem_nil, or_false] at hp
      rcases hp with rfl; rfl
    · intro j2 t g5 m h B' V' C G hV hj2 le5 kn5 S5
      refine ev_assign_name S5 (.inl ⟨rfl, rfl⟩) fun h2 S5 => ev_test1 ?_
      have kn6 : Kn (setM m "one" (.int j2 t)) [("row", u)] := kn5.other
      obtain ⟨a5, vs5, c5, rfl, ga5, iss5⟩ := ((((iu.mono le).mono le4).mono le5)).asList
      refine ev_true_compare1 (ev_var S5 (setM_self _ _ _) (ev_var S5 kn6.g0 (ev_in (S5.frz _ _ ga5) iss5.iL (ev_truthy_bool ?_))))
      refine if_dec (fun p => ?_) (fun p => ?_)
      · exact ev_var S5 (setM_self _ _ _) ⟨g5, _, _, GLe.refl _, kn6, S5, by simp [p], .int⟩
      · exact ⟨g5, _, GLe.refl _, kn6, S5, by simp [p]⟩
    · intro D5 g5 ys k5 h5 g6 le5 hys le6 hg6 S6
      rw [iL_filter] at hys
      exact ⟨g6, _, _, (le4.trans le5).trans le6, kn', S6, rfl, .list hg6 (hys.mono le6)⟩
  intro F g2 vs c2 h2 le2 hys hDW S2
  have e0 : (steps.filterMap fun row => some (D.list (iL ((rangeI steps.length).filter fun k => decide (k ∈ row))))) = (ways0 steps).map fun r => .list (iL r) := by
    rw [List.filterMap_eq_map']; unfold ways0; rw [List.map_map]; rfl
  rw [e0] at hys
  refine ev_store S2 (.inr ⟨rfl, _, rfl, .inr ⟨"ways", rfl⟩⟩) fun h3 S2 => ?_
  have kn2 : Kn (setM (bindA [("steps", .ref a)] fun _ => none) "ways" (.ref F)) [("steps", .ref a), ("ways", .ref F)] := .cons rfl (.cons rfl .nil)
  generalize setM (bindA [("steps", .ref a)] fun _ => none) "ways" (.ref F) = m2 at S2 kn2
  refine ev_cons (ev_forS S2 (fun i g V m => ∃ vs c, V = [(F, lobj vs c)] ∧ Iss prog w g vs ((((rangeI steps.length).take i).foldl (fun W _ => (rangeI steps.length).foldl wupd W) (ways0 steps)).map fun r => .list (iL r)) ∧ Kn m [("steps", .ref a), ("ways", .ref F)]) hr'.hh
    (ev_rangelen S2 G kn2.g0 (S2.frz _ _ (le2 _ _ ga)) (by (first | lia | omega)) fun r g8 h8 le8 src8 S8 => ?_))
  rw [hsl] at src8
  refine ForK.overR S8 src8 ⟨vs, c2, rfl, hys.mono le8, kn2⟩ ?_ ?_
  · rintro i t g9 V9 m9 h9 I oI T2 hT2 hi le9 ⟨vs, c, rfl, ivs, kn⟩ S9
    refine ev_assign_name S9 (.inl ⟨rfl, rfl⟩) fun h10 S10 => ?_
    have kn10 : Kn (setM m9 "turn" (.int i t)) [("steps", .ref a), ("ways", .ref F)] := kn.other
    have gl9 := (le2.trans le8).trans le9
    have ok0 : WOk steps.length (((rangeI steps.length).take i).foldl (fun W _ => (rangeI steps.length).foldl wupd W) (ways0 steps)) := (ways0_ok steps).fold2 _
    generalize hf0 : ((rangeI steps.length).take i).foldl (fun W _ => (rangeI steps.length).foldl wupd W) (ways0 steps) = W0 at ivs ok0
    refine ev_cons (ev_forS S10 (fun j g V m => ∃ vs c, V = [(I, oI), (F, lobj vs c)] ∧ Iss prog w g vs ((((rangeI steps.length).take j).foldl wupd W0).map fun r => .list (iL r)) ∧ Kn m [("steps", .ref a), ("ways", .ref F)]) hr'.hh
      (ev_rangelen S10 G kn10.g0 (S10.frz _ _ (gl9 _ _ ga)) (by (first | lia | omega)) fun r g11 h11 le11 src11 S11 => ?_))
    rw [hsl] at src11
    refine ForK.overR S11 src11 ⟨vs, c, rfl, ivs.mono le11, kn10⟩ ?_ ?_
    · rintro j t2 g12 V12 m12 h12 I2 oI2 T3 hT3 hj le12 ⟨vs, c, rfl, ivs, kn⟩ S12
      refine ev_assign_name S12 (.inr ⟨rfl, _, rfl, .inr ⟨"number", rfl⟩⟩) fun h13 S13 => ?_
      have kn13 : Kn (setM m12 "number" (.int j t2)) [("number", .int j t2), ("steps", .ref a), ("ways", .ref F)] := .cons (setM_self _ _ _) kn.other
      have st : ((rangeI steps.length).take (j + 1)).foldl wupd W0 = wupd (((rangeI steps.length).take j).foldl wupd W0) j := foldl_snoc _ _ (rangeI_at hj)
      have ok1 : WOk steps.length (((rangeI steps.length).take j).foldl wupd W0) := ok0.fold _ fun k hk => mem_rangeI.mp (List.mem_of_mem_take hk)
      generalize ((rangeI steps.length).take j).foldl wupd W0 = W at ivs st ok1
      have hvl : vs.length = steps.length := by rw [ivs.length, List.length_map, ok1.len]
      have hok : ∀ {k : Int}, okIn steps.length k → okIn W.length k := fun h => by rw [ok1.len]; exact h
      have hj0 := okIn_nat hj
      have hl0 := ok1.len' hj0
      refine ev_cons (ev_alc S13 hr'.hh (.inl ⟨rfl, rfl⟩) rfl (ev_rowAt S13 kn13.g2 (S13.getV (.tail _ (.tail _ (.head _)))) ivs kn13.g0 (hok hj0) (by (first | lia | omega)) fun u iu => ?_))
      refine LcK.overL2 (xs := rowOf W j) S13 G iu [("ways", .ref F), ("number", .int j t2)] (fun _ => true) (fun one => rowOf W one) (fun one goal => if (!decide (goal ∈ rowOf W j)) = true then some (.int goal) else none) hr'.hh ?_ (by (first | lia | omega)) (fun b hb => ?_) ?_ ?_
      · refine Kn.cmp kn13 fun p hp => ?_
        simp only [List.mem_cons, List.not_mem_nil, or_false] at hp
        rcases hp with rfl | rfl
        · exact ⟨by simp, rfl⟩
        · exact ⟨by simp, rfl⟩
      · have := ok1.len' ((ok1.row _ hj0).2 b hb); (first | lia | omega)
      · intro i1 one v g14 m h B' V' C G hV hone iv le14 kn14 S14
        refine iv.intK fun t4 => ?_
        have hone0 := (ok1.row _ hj0).2 one (List.mem_of_getElem? hone)
        refine ev_assign_name S14 (.inl ⟨rfl, rfl⟩) fun h15 S15 => ev_tests_nil ?_
        have kn15 : Kn (setM m "one" (.int one t4)) [("ways", .ref F), ("number", .int j t2)] := kn14.other
        rw [if_pos rfl]
        refine ⟨rfl, ev_rowAt S15 kn15.g0 (S15.getV (hV.vol _ (.tail _ (.tail _ (.head _))))) (ivs.mono le14) (setM_self _ _ _) (hok hone0) (by (first | lia | omega)) fun u2 iu2 => ?_⟩
        refine Cd2.overL (xs := rowOf W one) iu2 (GLe.refl _) kn15 S15 ?_
        intro j3 goal v3 g16 m h V3 hV3 hgoal iv le16 kn16 S16
        refine iv.intK fun t5 => ?_
        refine ev_assign_name S16 (.inl ⟨rfl, rfl⟩) fun h17 S17 => ev_test1 ?_
        have kn17 : Kn (setM m "goal" (.int goal t5)) [("ways", .ref F), ("number", .int j t2)] := kn16.other
        refine ev_true_compare1 (ev_var S17 (setM_self _ _ _) (ev_rowAt S17 kn17.g0 (S17.getV (hV3 _ (.tail _ (.tail _ (.head _))))) ((ivs.mono le14).mono le16) kn17.g1 (hok hj0) (by (first | lia | omega)) fun u6 iu6 => ?_))
        refine iu6.listK fun a6 vs6 c6 ga6 iss6 => ?_
        refine ev_notin (S17.frz _ _ ga6) iss6.iL (ev_truthy_bool ?_)
        refine if_ndec (fun p => ?_) (fun p => ?_)
        · exact ev_var S17 (setM_self _ _ _) ⟨g16, _, _, GLe.refl _, kn17, S17, by simp [p], .int⟩
        · exact ⟨g16, _, GLe.refl _, kn17, S17, by simp [p]⟩
      intro D5 g15 ys c15 h15 g16 le15 hys le16 hg16 S16
      have e1 : ((rowOf W j).flatMap fun one => if true = true then (rowOf W one).filterMap (fun goal => if (!decide (goal ∈ rowOf W j)) = true then some (D.int goal) else none) else []) = iL (furL W j) := by
        unfold furL iL
        rw [List.map_flatMap]
        refine congrArg (fun f => List.flatMap f (rowOf W j)) (funext fun one => ?_)
        rw [if_pos rfl]
        exact iL_filter _ _
      rw [e1] at hys
      have kn16 : Kn (setM (setM m12 "number" (.int j t2)) "further" (.ref D5)) [("number", .int j t2), ("steps", .ref a), ("ways", .ref F)] := kn13.other
      have hfl : (furL W j).length ≤ 400 := by
        have := flat_len (f := fun one => (rowOf W one).filter fun goal => !decide (goal ∈ rowOf W j)) (c := 20) (l := rowOf W j) fun b hb => by
          have h1 := ok1.len' ((ok1.row _ hj0).2 b hb)
          have h2 := List.length_filter_le (fun goal => !decide (goal ∈ rowOf W j)) (rowOf W b)
          (first | lia | omega)
        have : (furL W j).length ≤ (rowOf W j).length * 20 := this
        (first | lia | omega)
      have fewR : Few (rowOf W j ++ furL W j) := few_in hn fun k hk => by
        rcases List.mem_append.mp hk with q | q
        · exact (ok1.row _ hj0).2 k q
        · exact mem_furL ok1 hj0 q
      have gl16 := (le15.trans le16)
      refine ev_cons (ev_assign_sub (ev_srt S16 G hr'.hh (ev_binop (ev_rowAt S16 kn16.g2 (S16.getV (.tail _ (.tail _ (.head _)))) (ivs.mono gl16) kn16.g0 (hok hj0) (by (first | lia | omega)) fun u7 iu7 => ev_var S16 (setM_self _ _ _) ?_))))
      obtain ⟨a7, vs7, c7, rfl, ga7, iss7⟩ := iu7.asList
      have hl7 : vs7.length ≤ 20 := by rw [iss7.length, iL_length]; (first | lia | omega)
      have hl5 : ys.length ≤ 400 := by rw [hys.length, iL_length]; exact hfl
      refine ev_add_list (S16.frz _ _ ga7) (S16.frz _ _ hg16) (le_line (by (first | lia | omega))) ?_
      refine S16.push_frzK (lobj (vs7 ++ ys) 0) rfl fun g17 le17 hg17 S17 => ?_
      refine ⟨g17, _, _, rowOf W j ++ furL W j, le17, .list hg17 (by rw [iL_append]; exact (iss7.mono le17).append ((hys.mono le16).mono le17)), fewR, by rw [List.length_append]; (first | lia | omega), S17, fun u8 g18 h18 le18 iu8 S18 => ?_⟩
      refine ev_var S18 kn16.g2 (ev_var S18 kn16.g0 (ev_set_list (S18.getV (.tail _ (.tail _ (.head _)))) hj0.1 (by simp; (first | lia | omega)) fun h19 e19 b19 => ?_))
      have S19 := S18.upd (.tail (.tail .head)) b19 e19 (lobj_nocell _ _)
      refine ev_nil (hT3 _ ⟨g18, _, _, (gl16.trans le17).trans le18, ⟨_, _, rfl, ?_, kn16.tl⟩, S19⟩)
      rw [st]
      unfold wupd
      rw [List.map_set]
      exact ((ivs.mono ((gl16.trans le17).trans le18))).set iu8 _
    · rintro g12 V12 m12 h12 le12 ⟨vs, c, rfl, ivs, kn⟩ S12
      rw [List.take_of_length_le (by rw [rangeI_length]; (first | lia | omega))] at ivs
      refine ev_nil (hT2 _ ⟨g12, _, _, le11.trans le12, ⟨vs, c, rfl, ?_, kn⟩, S12⟩)
      rw [foldl_snoc _ _ (rangeI_at hi), hf0]; exact ivs
  · rintro g9 V9 m9 h9 le9 ⟨vs, c, rfl, ivs, kn⟩ S9
    rw [List.take_of_length_le (by rw [rangeI_length]; (first | lia | omega))] at ivs
    refine ev_cons (ev_return (ev_var S9 kn.g1 ?_))
    refine S9.freezeK .head (fun q => nomatch q) fun g10 le10 hg10 S10 => ?_
    exact hT _ _ (hP _ g10 _ S10.ext (.list hg10 (ivs.mono le10)))
end
noncomputable def lng (steps : List (List Int)) : Nat → Int → Int
  | 0, _ => 0
  | N + 1, k => mx ((fitR steps.length (rowOf steps k)).map fun j => 1 + lng steps N j)
theorem reach_self {steps : List (List Int)} {k : Int} (h : okIn steps.length k) : Reach steps [k] k := .seed (.head _) h
theorem reach_row {steps : List (List Int)} {seeds : List Int} {j i : Int} (hj : j ∈ seeds) (r : Reach steps [j] i) : Reach steps seeds i := by
  induction r with
  | seed h1 h2 => rw [List.mem_singleton.mp h1] at h2 ⊢; exact .seed hj h2
  | step _ h2 h3 ih => exact .step ih h2 h3
theorem reach_one {steps : List (List Int)} {k i : Int} (hk : okIn steps.length k) : Reach steps [k] i ↔ i = k ∨ Reach steps (rowOf steps k) i := by
  constructor
  · intro r
    induction r with
    | seed h1 h2 => exact .inl (List.mem_singleton.mp h1)
    | step _ h2 h3 ih =>
      rcases ih with rfl | ih
      · exact .inr (.seed h2 h3)
      · exact .inr (.step ih h2 h3)
  · rintro (rfl | r)
    · exact reach_self hk
    · induction r with
      | seed h1 h2 => exact .step (reach_self hk) h1 h2
      | step _ h2 h3 ih => exact .step ih h2 h3
theorem reach_via {steps : List (List Int)} {k j i : Int} (hk : okIn steps.length k) (hj : j ∈ rowOf steps k) (r : Reach steps [j] i) : Reach steps [k] i := (reach_one hk).mpr (.inr (reach_row hj r))
theorem mem_rings {steps : List (List Int)} {k : Int} : k ∈ ringsL steps ↔ okIn steps.length k ∧ Reach steps (rowOf steps k) k := by
  unfold ringsL
  rw [List.mem_filter, mem_rangeI, decide_eq_true_iff, mem_rch]
theorem lost_iff {steps : List (List Int)} {k : Int} : lostB steps k = true ↔ ∃ j, Reach steps [k] j ∧ Reach steps (rowOf steps j) j := by
  unfold lostB
  rw [any_iff]
  constructor
  · rintro ⟨j, a, b⟩; exact ⟨j, mem_rch.mp a, (mem_rings.mp b).2⟩
  · rintro ⟨j, a, b⟩; exact ⟨j, mem_rch.mpr a, mem_rings.mpr ⟨a.ok, b⟩⟩
theorem lost_step {steps : List (List Int)} {k j : Int} (hk : okIn steps.length k) (h : lostB steps k = false) (hj : j ∈ rowOf steps k) : lostB steps j = false := by
  cases e : lostB steps j with
  | false => rfl
  | true =>
    obtain ⟨i, a, b⟩ := lost_iff.mp e
    rw [lost_iff.mpr ⟨i, reach_via hk hj a, b⟩] at h; cases h
theorem rch_less {steps : List (List Int)} {k j : Int} (hk : okIn steps.length k) (h : lostB steps k = false) (hj : j ∈ rowOf steps k) (ho : okIn steps.length j) : (rch steps [j]).length < (rch steps [k]).length := by
  have hn : k ∉ rch steps [j] := fun q => by
    rw [lost_iff.mpr ⟨k, reach_self hk, reach_row hj (mem_rch.mp q)⟩] at h; cases h
  have := nodup_le (k :: rch steps [j]) (rch steps [k]) (List.nodup_cons.mpr ⟨hn, nodup_of_lt (pw_rch _ _)⟩) fun x hx => by
    rcases List.mem_cons.mp hx with rfl | hx
    · exact mem_rch.mpr (reach_self hk)
    · exact mem_rch.mpr (reach_via hk hj (mem_rch.mp hx))
  rw [List.length_cons] at this; (first | lia | omega)
theorem rch_pos {steps : List (List Int)} {k : Int} (hk : okIn steps.length k) : 0 < (rch steps [k]).length := List.length_pos_of_mem (mem_rch.mpr (reach_self hk))
section
variable {prog : Program} {w : World} {A : Around} {B : Bs} {g g' : Gm} {V V' : List (Addr × Obj)} {env : Env} {m : Str → Option Value} {h h' hb : Heap} {K : Frag} {mg mb : Str → Option Value} {ad : Ads} {C fI : Addr}
theorem c_longest0 {sv : Value} {steps : List (List Int)} (hn : steps.length ≤ 20) (hrow : ∀ k, (rowOf steps k).length ≤ 100) (hpos : ∀ k, ∀ j ∈ rowOf steps k, 0 ≤ j) :
    ∀ (N : Nat) (hb : Heap) (G : Gd K mg mb hb ad) (A : Around) (g : Gm) (h : Heap) (k : Int) (t : Tok), Room A (N + 3) → Hp hb g h → Is prog w g sv (stepsD steps) → okIn steps.length k → lostB steps k = false → (rch steps [k]).length ≤ N →
      Gives prog w A g h (.ref ad.longest) [sv, .int k t] fun g' u => Is prog w g' u (.int (lng steps N k)) := fun N => by
  induction N with
  | zero => intro hb G A g h k t _ _ _ hk _ hz; have := rch_pos hk; (first | lia | omega)
  | succ N ih =>
  intro hb G A g h k t hr H i1 hk hlost hz P hP
  obtain ⟨a, svs, sc, rfl, ga, hsl, hget⟩ := steps_list i1
  refine enter (V := []) G G.longest.2 hr H (Wr.nil _ _) (binds := [("steps", .ref a), ("number", .int k t)]) (fun _ _ _ _ _ => rfl) (fun n x hx => ?_) (by rfl) (fun x A' T h₁ hr' hT S => ?_)
  · simp only [List.mem_cons, List.not_mem_nil, or_false] at hx
    rcases hx with rfl | rfl
    · exact .inr ⟨rfl, rfl⟩
    · exact .inl rfl
  have kn0 : Kn (bindA [("steps", .ref a), ("number", .int k t)] fun _ => none) [("steps", .ref a), ("number", .int k t)] := .cons rfl (.cons rfl .nil)
  obtain ⟨u, hu, iu⟩ := hget hk
  refine ev_cons (ev_return (ev_callB S G.cx G.bi.max (fun _ => keepable_builtin _ _) (ev_args_cons (ev_binop (ev_list (ev_args_cons (ev_int fun t5 => ev_args_nil ⟨le_line (le_dec rfl), ?_⟩)))))))
  refine S.push_frzK (lobj [.int 0 t5] 0) rfl fun g14 le14 hg14 S14 => ?_
  refine ev_elc S14 hr'.hh rfl (ev_subscript (ev_var S14 kn0.g0 (ev_var S14 kn0.g1 (ev_item_list (S14.frz _ _ (le14 _ _ ga)) hk.1 hu ?_))))
  have hrk := hrow k
  refine LcK.overL (xs := rowOf steps k) S14 G (iu.mono le14) [("steps", .ref a)] (fun k => if decide (okIn steps.length k) = true then some (.int (1 + lng steps N k)) else none) ?_ (by (first | lia | omega)) ?_ ?_
  · refine Kn.cmp kn0 fun p hp => ?_
    simp only [List.mem_cons, List.not_mem_nil, or_false] at hp
    rcases hp with rfl; exact ⟨.head _, rfl⟩
  · intro j' j u g7 m h B' V' C G hV hj iu le kn S
    refine iu.intK fun t => ?_
    have hjm := List.mem_of_getElem? hj
    refine ev_assign_name S (.inl ⟨rfl, rfl⟩) fun h2 S => ev_test1 ?_
    have kn' : Kn (setM m "one" (.int j t)) [("steps", .ref a)] := kn.other
    have gle := le14.trans le
    refine ev_true_compare1 (ev_var S (setM_self _ _ _) (ev_callB S G.cx G.bi.len (fun _ => keepable_builtin _ _) (ev_args_cons (ev_var S kn'.g0 (ev_args_nil (ev_len (S.frz _ _ (gle _ _ ga)) fun t2 => ev_lt (ev_truthy_bool ?_)))))))
    have e : decide (j < (svs.length : Int)) = decide (okIn steps.length j) := by rw [hsl]; have := hpos k j hjm; unfold okIn; simp [this]
    rw [e]
    refine if_dec (fun p => ?_) (fun p => ?_)
    · refine ev_binop (ev_int fun t7 => ev_callD S G.cx G.longest (ev_args_cons (ev_var S kn'.g0 (ev_args_cons (ev_var S (setM_self _ _ _) (ev_args_nil ⟨S.hbk, ?_⟩))))))
      refine (ih _ G _ g7 h2 j t (hr'.less (by (first | lia | omega))) S.hp (i1.mono gle) p (lost_step hk hlost hjm) (by have := rch_less hk hlost hjm p; (first | lia | omega))).use S fun u8 g8 h8 le8 iu8 S8 => ?_
      refine iu8.intK fun t8 => ?_
      exact ev_add fun t9 => ⟨g8, _, _, le8, kn', S8, by simp [p], .int⟩
    · exact ⟨g7, _, GLe.refl _, kn', S, by simp [p]⟩
  intro D15 g15 ys c15 h15 g16 le15 hys le16 hg16 S16
  rw [iL_filter_map] at hys
  have hll : ((rowOf steps k).filter fun k => decide (okIn steps.length k)).length ≤ (rowOf steps k).length := List.length_filter_le _ _
  have hyl : ys.length ≤ 100 := by rw [hys.length, iL_length, List.length_map]; (first | lia | omega)
  refine ev_add_list (S16.frz _ _ ((le15.trans le16) _ _ hg14)) (S16.frz _ _ hg16) (le_line (by simp; (first | lia | omega))) ?_
  refine S16.push_frzK (lobj ([.int 0 t5] ++ ys) 0) rfl fun g17 le17 hg17 S17 => ?_
  refine ev_args_nil (ev_max S17 hr'.hh (S17.frz _ _ hg17) (intsAre_app (.cons 0 t5 .nil) hys.iL) (by simp) fun M t9 h18 hM1 hM2 S18 => ?_)
  have eM := mx_eq hM1 hM2
  refine hT _ _ (hP _ g17 _ S18.ext ?_)
  rw [eM]; exact .int
theorem c_longest (G : Gd K mg mb hb ad) {sv : Value} {steps : List (List Int)} (hn : steps.length ≤ 20) (hrow : ∀ k, (rowOf steps k).length ≤ 100) (hpos : ∀ k, ∀ j ∈ rowOf steps k, 0 ≤ j)
    (N : Nat) (A : Around) (g : Gm) (h : Heap) (k : Int) (t : Tok) : Room A (N + 3) → Hp hb g h → Is prog w g sv (stepsD steps) → okIn steps.length k → lostB steps k = false → (rch steps [k]).length ≤ N →
      Gives prog w A g h (.ref ad.longest) [sv, .int k t] fun g' u => Is prog w g' u (.int (lng steps N k)) := c_longest0 hn hrow hpos N hb G A g h k t
end
structure Ls where
  req : Int
  fts : List Int
noncomputable def lsD (ad : Ads) (l : Ls) : D := .obj ad.LangSys [("required", .int l.req), ("features", .list (iL l.fts))]
noncomputable def dfD (ad : Ads) (o : Option Ls) : D := match o with | none => .none | some l => lsD ad l
structure Lay where
  dflt : Option Ls
  l1 : Ls
  l2 : Ls
  feats : List (List Int)
  lks : List Lk
noncomputable def scriptD (ad : Ads) (y : Lay) : D := .obj ad.Script [("tag", .str "latn"), ("default", dfD ad y.dflt), ("languages", .dicts [("DEU ", lsD ad y.l1), ("TRK ", lsD ad y.l2)])]
noncomputable def featD (ad : Ads) (r : List Int) : D := .obj ad.Feature [("tag", .str "liga"), ("lookups", .list (iL r))]
noncomputable def layFs (ad : Ads) (y : Lay) : List D := [.dicts [("latn", scriptD ad y)], .list (y.feats.map (featD ad)), .list (y.lks.map (lkD ad))]
noncomputable def layD (ad : Ads) (y : Lay) : D := .obj ad.Layout (fLayout.zip (layFs ad y))
noncomputable def Lay.sys (y : Lay) : List Ls := y.dflt.toList ++ [y.l1, y.l2]
theorem len_two {α : Type} {l : List α} (h : l.length = 2) : ∃ x y, l = [x, y] := by
  rcases l with _ | ⟨x, _ | ⟨y, _ | ⟨z, r⟩⟩⟩
  · cases h
  · cases h
  · exact ⟨x, y, rfl⟩
  · simp only [List.length_cons] at h; (first | lia | omega)
theorem perm_two {α : Type} {a b : α} {zs : List α} (h : zs.Perm [a, b]) : zs = [a, b] ∨ zs = [b, a] := by
  obtain ⟨x, y, rfl⟩ := len_two h.length_eq
  · skip
    have hx : x ∈ [a, b] := h.mem_iff.mp (.head _)
    rcases List.mem_cons.mp hx with rfl | hx
    · exact .inl (by have := (List.perm_cons x).mp h; rw [List.perm_singleton.mp this])
    · rw [List.mem_singleton] at hx; subst hx
      have := (List.perm_cons x).mp (h.trans (List.Perm.swap x a []))
      exact .inr (by rw [List.perm_singleton.mp this])
theorem tags_sorted {zs : List Str} (h : zs.Perm [("DEU " : Str), ("TRK " : Str)]) (s : sortedS zs = true) : zs = [("DEU " : Str), ("TRK " : Str)] := by
  rcases perm_two h with e | e
  · exact e
  · rw [e] at s
    exact absurd s (by decide +kernel)
section
variable {prog : Program} {w : World} {A : Around} {B : Bs} {g g' : Gm} {V V' : List (Addr × Obj)} {env : Env} {m : Str → Option Value} {h h' hb : Heap} {K : Frag} {mg mb : Str → Option Value} {ad : Ads} {C fI : Addr}
inductive IfK (B : Bs) (env : Env) (g : Gm) (J : Gm → List (Addr × Obj) → (Str → Option Value) → Prop) (f : Flow) (h : Heap) : Prop
  | mk (g' : Gm) (V' : List (Addr × Obj)) (m' : Str → Option Value) : f = .next → GLe g g' → J g' V' m' → St B g' V' env m' h → IfK B env g J f h
/-- an if whose branches meet again -/
theorem ev_ifJ {test : Expr} {body orelse rest : List Stmt} {pos : Pos} {P : Flow → Heap → Prop} (S : St B g V env m h) (J : Gm → List (Addr × Obj) → (Str → Option Value) → Prop)
    (x : Ev prog w A (isTrue test env (eval test env)) h fun b h1 => if b = true then Ev prog w A (execs body env) h1 (IfK B env g J) else Ev prog w A (execs orelse env) h1 (IfK B env g J))
    (y : ∀ g' V' m' h2, GLe g g' → J g' V' m' → St B g' V' env m' h2 → Ev prog w A (execs rest env) h2 P) : Ev prog w A (execs (.If test body orelse pos :: rest) env) h P := by
  refine ev_cons (ev_if (x.mono fun b h1 z => ?_))
  cases b with
  | true =>
    simp only [if_true] at z ⊢
    exact z.mono fun f h2 q => by obtain ⟨g', V', m', e, le, j, S'⟩ := q; subst e; exact y g' V' m' h2 le j S'
  | false =>
    simp only [Bool.false_eq_true, if_false] at z ⊢
    exact z.mono fun f h2 q => by obtain ⟨g', V', m', e, le, j, S'⟩ := q; subst e; exact y g' V' m' h2 le j S'
theorem fld_lay {v : Value} {y : Lay} {name : Str} {d : D} (S : St B g V env m h) (G : Gd K mg mb B.hb ad) (i : Is prog w g v (layD ad y)) (j : Nat) (h1 : fLayout[j]? = some name) (h2 : (layFs ad y)[j]? = some d) (h3 : d ≠ .any) (h4 : name ∈ fLayout)
    {Q : Value → Heap → Prop} (hQ : ∀ u, Is prog w g u d → Q u h) : Ev prog w A (getAttr v name true) h Q :=
  ev_field (ns := fLayout) (ds := layFs ad y) S G.cx G.Layout.1.cls (G.Layout.1.fr h4) i rfl (by decide) h1 h2 h3 hQ
theorem fld_script {v : Value} {y : Lay} {name : Str} {d : D} (S : St B g V env m h) (G : Gd K mg mb B.hb ad) (i : Is prog w g v (scriptD ad y)) (j : Nat) (h1 : fScript[j]? = some name) (h2 : [D.str "latn", dfD ad y.dflt, .dicts [("DEU ", lsD ad y.l1), ("TRK ", lsD ad y.l2)]][j]? = some d) (h3 : d ≠ .any) (h4 : name ∈ fScript)
    {Q : Value → Heap → Prop} (hQ : ∀ u, Is prog w g u d → Q u h) : Ev prog w A (getAttr v name true) h Q :=
  ev_field (ns := fScript) (ds := [D.str "latn", dfD ad y.dflt, .dicts [("DEU ", lsD ad y.l1), ("TRK ", lsD ad y.l2)]]) S G.cx G.Script.1.cls (G.Script.1.fr h4) i rfl (by decide) h1 h2 h3 hQ
theorem is_obj_ne {u : Value} {C : Addr} {fs : List (Str × D)} (x : Is prog w g u (.obj C fs)) : (u == Value.none) = false := by cases x; rfl
theorem dfD_any (ad : Ads) (o : Option Ls) : dfD ad o ≠ .any := by cases o <;> (intro e; cases e)
/-- langsys_of -/
theorem c_langsys (G : Gd K mg mb hb ad) (hr : Room A 5) (H : Hp hb g h) {v : Value} {y : Lay} (i : Is prog w g v (layD ad y)) :
    Gives prog w A g h (.ref ad.langsys) [v] fun g' u => Is prog w g' u (.list (y.sys.map (lsD ad))) := fun P hP => by
  refine enter (V := []) G G.langsys.2 hr H (Wr.nil _ _) (binds := [("layout", v)]) (fun _ _ _ _ _ => rfl) (fun n x hx => ?_) (by rfl) (fun x A' T h₁ hr' hT S => ?_)
  · simp only [List.mem_cons, List.not_mem_nil, or_false] at hx
    rcases hx with rfl; exact .inl rfl
  refine ev_cons (ev_assign (ev_list (ev_args_nil ⟨le_line (le_dec rfl), ?_⟩)))
  have S1 := S.push_vol (lobj [] 0) rfl (lobj_nocell _ _)
  generalize h₁.objs.size = F at S1
  refine ev_store S1 (.inl ⟨rfl, rfl⟩) fun h2 S2 => ?_
  have kn0 : Kn (setM (bindA [("layout", v)] fun _ => none) "found" (.ref F)) [("found", .ref F), ("layout", v)] := .cons rfl (.cons rfl .nil)
  generalize setM (bindA [("layout", v)] fun _ => none) "found" (.ref F) = m2 at S2 kn0
  refine ev_cons (ev_forS S2 (fun i g V m => ∃ vs c, V = [(F, lobj vs c)] ∧ Iss prog w g vs (if i = 0 then [] else y.sys.map (lsD ad)) ∧ Kn m [("found", .ref F), ("layout", v)]) hr'.hh
    (ev_callB S2 G.cx G.bi.sorted (fun _ => keepable_builtin _ _) (ev_args_cons (ev_attr (ev_var S2 kn0.g1 (fld_lay S2 G i 0 rfl rfl (by intro e; cases e) (by decide) fun u iu => ev_args_nil ?_))))))
  obtain ⟨a, o, kvs, rfl, ga, hs, hi, hk, iss⟩ := iu.asDicts
  have hln : kvs.length = 1 := by have := congrArg List.length hk; simpa using this
  refine ev_sorted_dicts S2 hr'.hh hs (S2.frz _ _ ga) hi (by (first | lia | omega)) fun R g3 h3 zs le3 iz _ hp S3 => ?_
  rw [hk] at hp
  have hzs : zs = [("latn" : Str)] := List.perm_singleton.mp hp
  subst hzs
  refine ForK.overL (xs := [("latn" : Str)]) (dof := .str) S3 iz ⟨[], 0, rfl, .nil, kn0⟩ ?_ ?_
  · rintro j k u g4 V4 m4 h4 I oI T2 hT2 _ hj iu le4 ⟨vs, c, rfl, ivs, kn⟩ S4
    have hj0 : j = 0 := by have := (List.getElem?_eq_some_iff.mp hj).1; simpa using this
    subst hj0
    obtain rfl : ("latn" : Str) = k := by simpa using hj
    obtain ⟨t, rfl⟩ := iu.asStr
    cases ivs
    refine ev_assign_name S4 (.inl ⟨rfl, rfl⟩) fun h5 S5 => ?_
    have kn5 : Kn (setM m4 "tag" (.str "latn" t)) [("found", .ref F), ("layout", v)] := kn.other
    have gl := le3.trans le4
    refine ev_cons (ev_assign (ev_subscript (ev_attr (ev_var S5 kn5.g1 (fld_lay S5 G (i.mono gl) 0 rfl rfl (by intro e; cases e) (by decide) fun u iu => ev_var S5 (setM_self _ _ _) ?_)))))
    obtain ⟨a, o, kvs, rfl, ga, hs, hi, hk, iss⟩ := iu.asDicts
    have hln : kvs.length = 1 := by have := congrArg List.length hk; simpa using this
    obtain ⟨⟨k0, u0⟩, rfl⟩ := List.length_eq_one_iff.mp hln
    simp only [List.map_cons, List.map_nil, List.cons.injEq, and_true] at hk
    subst hk
    cases iss with
    | cons iu0 _ =>
    refine ev_item_dict (knd := PySem.strKind prog w) (k := ("latn" : Str)) (strKind_is _ _ _ _) (S5.frz _ _ ga) hi (v := u0) (by simp [valueAt]) ?_
    refine ev_store S5 (.inr ⟨rfl, _, rfl, .inr ⟨"script", rfl⟩⟩) fun h6 S6 => ?_
    have kn6 : Kn (setM (setM m4 "tag" (.str "latn" t)) "script" u0) [("found", .ref F), ("layout", v), ("script", u0)] := by
      have k := kn5.other (x := "script") (v := u0)
      exact .cons k.g0 (.cons k.g1 (.cons (setM_self _ _ _) .nil))
    generalize setM (setM m4 "tag" (.str "latn" t)) "script" u0 = m6 at S6 kn6
    -- the default
    refine ev_ifJ S6 (fun g' V' m' => ∃ vs7 c7, V' = [(I, oI), (F, lobj vs7 c7)] ∧ Iss prog w g' vs7 (y.dflt.toList.map (lsD ad)) ∧ m' = m6) (ev_true_compare1 (ev_attr (ev_var S6 kn6.g2 (fld_script S6 G iu0 1 rfl rfl (dfD_any _ _) (by decide) fun u iu => ev_none (ev_isnot_none (ev_truthy_bool ?_)))))) ?_
    · cases hdf : y.dflt with
      | none =>
        rw [hdf] at iu
        cases iu
        rw [show (!(Value.none == Value.none)) = false from rfl]
        simp only [Bool.false_eq_true, if_false]
        exact ev_nil ⟨g4, _, _, rfl, GLe.refl _, ⟨[], c, rfl, .nil, rfl⟩, S6⟩
      | some l =>
        rw [hdf] at iu
        have e : (!(u == Value.none)) = true := by rw [is_obj_ne iu]; rfl
        rw [e, if_pos rfl]
        refine ev_cons (ev_app S6 kn6.g0 (.tail _ (.head _)) (ev_attr (ev_var S6 kn6.g2 (fld_script S6 G iu0 1 rfl rfl (dfD_any _ _) (by decide) fun u iu => ⟨g4, _, _, [], c, _, S6, (fun _ => .tail .head), by simp, fun h7 S7 => ev_nil ⟨g4, _, _, rfl, GLe.refl _, ⟨_, _, rfl, ?_, rfl⟩, S7⟩⟩))))
        rw [hdf] at iu
        exact .cons iu .nil
    rintro g7 V7 m7 h7 le7 ⟨vs7, c7, rfl, iss7, rfl⟩ S7
    have gl7 := gl.trans le7
    refine ev_cons (ev_ext S7 kn6.g0 (.tail _ (.head _)) (ev_elc S7 hr'.hh rfl (ev_callB S7 G.cx G.bi.sorted (fun _ => keepable_builtin _ _) (ev_args_cons (ev_attr (ev_var S7 kn6.g2 (fld_script S7 G (iu0.mono le7) 2 rfl rfl (by intro e; cases e) (by decide) fun u iu => ev_args_nil ?_)))))))
    obtain ⟨a, o, kvs, rfl, ga, hs, hi, hk, iss⟩ := iu.asDicts
    have hln : kvs.length = 2 := by have := congrArg List.length hk; simpa using this
    refine ev_sorted_dicts S7 hr'.hh hs (S7.frz _ _ ga) hi (by (first | lia | omega)) fun R g8 h8 zs le8 iz hso hp S8 => ?_
    rw [hk] at hp
    have hzs := tags_sorted hp hso
    subst hzs
    refine LcK.overL (xs := [("DEU " : Str), ("TRK " : Str)]) (dof := .str) S8 G iz [("script", u0)] (fun nm => some (lsD ad (if nm = ("DEU " : Str) then y.l1 else y.l2))) ?_ (by decide) ?_ ?_
    · refine Kn.cmp (l := [("script", u0)]) (.cons kn6.g2 .nil) fun p hp => ⟨hp, ?_⟩
      simp only [List.mem_cons, List.not_mem_nil, or_false] at hp
      rcases hp with rfl; rfl
    · intro j nm u g9 m h B' V' C G hV hnm iu le kn S
      obtain ⟨t, rfl⟩ := iu.asStr
      refine ev_assign_name S (.inl ⟨rfl, rfl⟩) fun h2 S => ev_noTests ?_
      have kn' : Kn (setM m "name" (.str nm t)) [("script", u0)] := kn.other
      refine ev_subscript (ev_attr (ev_var S kn'.g0 (fld_script S G (((iu0.mono le7).mono le8).mono le) 2 rfl rfl (by intro e; cases e) (by decide) fun u iu => ev_var S (setM_self _ _ _) ?_)))
      obtain ⟨a, o, kvs, rfl, ga, hs, hi, hk, iss⟩ := iu.asDicts
      have hln : kvs.length = 2 := by have := congrArg List.length hk; simpa using this
      obtain ⟨⟨k1, u1⟩, ⟨k2, u2⟩, rfl⟩ := len_two hln
      simp only [List.map_cons, List.map_nil, List.cons.injEq, and_true] at hk
      obtain ⟨rfl, rfl⟩ := hk
      cases iss with
      | cons iu1 r =>
      cases r with
      | cons iu2 r =>
      have hne : ¬ ("DEU " : Str) = ("TRK " : Str) := by decide
      have hne2 : ¬ ("TRK " : Str) = ("DEU " : Str) := by decide
      have hcase : nm = ("DEU " : Str) ∨ nm = ("TRK " : Str) := by
        have := List.mem_of_getElem? hnm
        simpa using this
      rcases hcase with rfl | rfl
      · refine ev_item_dict (knd := PySem.strKind prog w) (k := ("DEU " : Str)) (strKind_is _ _ _ _) (S.frz _ _ ga) hi (v := u1) (by simp [valueAt]) ?_
        exact ⟨g9, _, _, GLe.refl _, kn', S, by rw [if_pos rfl], iu1⟩
      · refine ev_item_dict (knd := PySem.strKind prog w) (k := ("TRK " : Str)) (strKind_is _ _ _ _) (S.frz _ _ ga) hi (v := u2) (by simp [valueAt, hne]) ?_
        exact ⟨g9, _, _, GLe.refl _, kn', S, by rw [if_neg hne2], iu2⟩
    intro D5 g9 ys k5 h9 g10 le9 hys le10 hg10 S10
    have hne2 : ¬ ("TRK " : Str) = ("DEU " : Str) := by decide
    simp only [List.filterMap_cons, List.filterMap_nil, if_true, hne2, if_false] at hys
    have gl10 := (le8.trans le9).trans le10
    have hl7 : vs7.length ≤ 1 := by rw [iss7.length]; cases y.dflt <;> simp
    refine ⟨g10, _, _, vs7, c7, _, _, S10, (fun _ => .tail .head), .list hg10 (hys.mono le10), ?_, fun h11 ws e iws S11 => ev_nil (hT2 _ ⟨g10, _, _, le7.trans gl10, ⟨_, _, rfl, ?_, kn6.sub (by intro p hp; simp only [List.mem_cons, List.not_mem_nil, or_false] at hp ⊢; rcases hp with rfl | rfl <;> simp)⟩, S11⟩)⟩
    · simp; (first | lia | omega)
    · simp only [Nat.zero_add, Nat.one_ne_zero, if_false]
      unfold Lay.sys
      rw [List.map_append]
      exact (iss7.mono gl10).append iws
  · rintro g4 V4 m4 h4 le4 ⟨vs, c, rfl, ivs, kn⟩ S4
    simp only [List.length_cons, List.length_nil, Nat.zero_add, Nat.one_ne_zero, if_false] at ivs
    refine ev_cons (ev_return (ev_var S4 kn.g0 ?_))
    refine S4.freezeK .head (fun q => nomatch q) fun g5 le5 hg5 S5 => ?_
    exact hT _ _ (hP _ g5 _ S5.ext (.list hg5 (ivs.mono le5)))
end
theorem Kn.ix {m : Str → Option Value} {l : List (Str × Value)} (k : Kn m l) (i : Nat) {x : Str} {v : Value} (h : l[i]? = some (x, v)) : m x = some v := k _ (List.mem_of_getElem? h)
theorem Kn.add {m : Str → Option Value} {l : List (Str × Value)} {x : Str} {v : Value} (k : Kn m l) (hx : (l.map (·.1)).contains x = false := by rfl) : Kn (setM m x v) ((x, v) :: l) := .cons (setM_self _ _ _) (k.other hx)
noncomputable def fD (ad : Ads) (w : Str) (k : Int) : D := .obj ad.Finding [("tag", .str "GSUB"), ("what", .str w), ("at", .int k)]
theorem rowOf_all {p : List Int → Prop} {steps : List (List Int)} (h : ∀ r ∈ steps, p r) (h0 : p []) (k : Int) : p (rowOf steps k) := by
  unfold rowOf
  by_cases q : k.toNat < steps.length
  · have e : steps.getD k.toNat [] = steps[k.toNat] := by simp [List.getElem?_eq_getElem q]
    rw [e]; exact h _ (List.getElem_mem q)
  · have e : steps.getD k.toNat [] = [] := by simp [List.getElem?_eq_none (Nat.le_of_not_lt q)]
    rw [e]; exact h0
section
variable {prog : Program} {w : World} {A : Around} {B : Bs} {g g' : Gm} {V V' : List (Addr × Obj)} {env : Env} {m : Str → Option Value} {h h' hb : Heap} {K : Frag} {mg mb : Str → Option Value} {ad : Ads} {C fI : Addr}
theorem ev_truthy_int {k : Int} {t : Tok} {P : Bool → Heap → Prop} (x : P (k != 0) h) : Ev prog w A (truthy (.int k t)) h P := fun s E hs => PyProof.Rows.truthy_int ⟨Same.refl s, by rw [hs]; exact x⟩
/-- findings_of, its list still to be written -/
theorem c_findingsV (G : Gd K mg mb hb ad) (hr : Room A 4) (H : Hp hb g h) {a b v : Value} {d1 d2 : D} {xs : List Int} (i1 : Is prog w g a d1) (i2 : Is prog w g b d2) (i3 : Is prog w g v (.list (iL xs))) (few : Few xs) (hz : xs.length < 1000)
    {P : Value → Heap → Prop} (hP : ∀ R vs c g' h', Ext [] g h g' h' → h.get? R = none → h'.get? R = some (lobj vs c) → g' R = none → Iss prog w g' vs ((srt xs).map fun k => .obj ad.Finding [("tag", d1), ("what", d2), ("at", .int k)]) → P (.ref R) h') :
    Ev prog w A (call (.ref ad.findings_of) [a, b, v]) h P := by
  refine enter (V := []) G G.findings_of.2 hr H (Wr.nil _ _) (binds := [("tag", a), ("what", b), ("numbers", v)]) (fun _ _ _ _ _ => rfl) (fun n x hx => ?_) (by rfl) (fun x A' T h₁ hr' hT S => ?_)
  · simp only [List.mem_cons, List.not_mem_nil, or_false] at hx
    rcases hx with rfl | rfl | rfl
    · exact .inr ⟨rfl, rfl⟩
    · exact .inr ⟨rfl, rfl⟩
    · exact .inl rfl
  refine ev_cons (ev_return (ev_elc S hr'.hh rfl (ev_srt S G hr'.hh (ev_var S rfl ⟨g, _, _, xs, GLe.refl g, i3, few, hz, S, fun u g2 h2 le2 iu S2 => ?_⟩))))
  have hl := srt_len few
  refine LcK.overLV (xs := srt xs) S2 G iu [("tag", a), ("what", b)] (fun k => some (.obj ad.Finding [("tag", d1), ("what", d2), ("at", .int k)])) ?_ (by (first | lia | omega)) ?_ ?_
  · refine Kn.cmp (l := [("tag", a), ("what", b)]) (.cons rfl (.cons rfl .nil)) fun p hp => ⟨hp, ?_⟩
    simp only [List.mem_cons, List.not_mem_nil, or_false] at hp
    rcases hp with rfl | rfl <;> rfl
  · intro j k u g m h B' V' C G hV hk iu le kn S
    refine ev_assign_name S (.inl ⟨rfl, rfl⟩) fun h2 S => ev_noTests ?_
    have kn' : Kn (setM m "number" u) [("tag", a), ("what", b)] := kn.other
    refine ev_callC S G.cx G.Finding.1 (ev_args_cons (ev_var S kn'.g0 (ev_args_cons (ev_var S kn'.g1 (ev_args_cons (ev_var S (setM_self _ _ _) (ev_args_nil ⟨S.hbk, ?_⟩)))))))
    have le3 := (S2.le.trans le)
    refine mk_Finding S G (hr'.less (by decide)) (i1.mono le3) (i2.mono le3) (iu.mono le) fun v g' h' le' i S' => ⟨g', _, _, le', kn', S', rfl, i⟩
  · intro D5 g5 ys k5 h5 le5 hys hDW S5
    have : (srt xs).filterMap (fun k => some (D.obj ad.Finding [("tag", d1), ("what", d2), ("at", .int k)])) = (srt xs).map fun k => .obj ad.Finding [("tag", d1), ("what", d2), ("at", .int k)] := by
      rw [List.filterMap_eq_map']
    rw [this] at hys
    exact hT _ _ (hP _ ys k5 g5 _ S5.ext ((S5.vol0 _ (.head _)).resolve_right hDW) (S5.getV (.head _)) (S5.volg _ (.head _)) hys)
inductive FindK (prog : Program) (w : World) (B : Bs) (env : Env) (g : Gm) (F : Addr) (D : List Int → List D) (P : Flow → Heap → Prop) (v : Value) (h1 : Heap) : Prop
  | mk (g1 : Gm) (V1 : List (Addr × Obj)) (m1 : Str → Option Value) (vs : List Value) (c : Nat) (f : Obj → List (Addr × Obj)) (xs : List Int) : GLe g g1 → St B g1 V1 env m1 h1 → (∀ o', VU F (lobj vs c) o' V1 (f o')) → Is prog w g1 v (.list (iL xs)) → Few xs → xs.length < 1000 → vs.length < 90000 →
      (∀ g2 h2 ws e, GLe g1 g2 → Iss prog w g2 ws (D xs) → St B g2 (f (lobj (vs ++ ws) e)) env m1 h2 → P .next h2) → FindK prog w B env g F D P v h1
/-- found.extend(findings_of(tag, what, e)) -/
theorem ev_extFind {e : Expr} {wh : Str} {k0 : Nat} {p1 p2 p3 p4 p5 p6 p7 pos : Pos} {F : Addr} {us : List Value} {c0 : Nat} {tv : Value} {P : Flow → Heap → Prop} (S : St B g V env m h) (G : Gd K mg mb B.hb ad) (hr : Room A 5) (hv : m "found" = some (.ref F)) (hF : (F, lobj us c0) ∈ V) (ht : m "tag" = some tv) (it : Is prog w g tv (.str "GSUB"))
    (y : Ev prog w A (eval e env) h (FindK prog w B env g F (fun xs => (srt xs).map (fD ad wh)) P))
    (he : starEach [.Name "tag" p4, .Constant (.str wh) k0 p5, e] env = [(false, eval (.Name "tag" p4) env), (false, eval (.Constant (.str wh) k0 p5) env), (false, eval e env)] := by rfl)
    (he2 : starEach [.Call (.Name "findings_of" p3) [.Name "tag" p4, .Constant (.str wh) k0 p5, e] [] p6] env = [(false, eval (.Call (.Name "findings_of" p3) [.Name "tag" p4, .Constant (.str wh) k0 p5, e] [] p6) env)] := by rfl)
    (hk : isVar env "found" = true := by rfl) (hk2 : isVar env "tag" = true := by rfl) (hkf : env.kindOf "findings_of" = some .globalImplicit := by rfl) (hg : env.globals = mainGlobals := by rfl)
    (hln : (p2.endLine == p7.line) = true := by rfl) (hi : interactive env = false := by rfl) :
    Ev prog w A (exec (.Expr (.Call (.Attribute (.Name "found" p1) "extend" p2) [.Call (.Name "findings_of" p3) [.Name "tag" p4, .Constant (.str wh) k0 p5, e] [] p6] [] p7) pos) env) h P := by
  refine ev_ext S hv hF (ev_callD S G.cx G.findings_of ?_ hkf (by rfl) hg (by rw [he]; rfl)) he2 hk (by rfl) hln hi
  refine ev_args_cons (ev_var S ht (ev_args_cons (ev_str fun t => ev_args_cons (y.mono fun v h1 z => ?_) ?_) ?_) hk2 (by rfl)) ?_
  · obtain ⟨g1, V1, m1, vs, c, f, xs, le1, S1, u, iv, few, hz, hvz, fin⟩ := z
    refine ev_args_nil ⟨S1.hbk, ?_⟩
    refine (c_findings G (hr.less (by decide)) S1.hp (it.mono le1) (d2 := .str wh) .str iv few hz).use S1 fun u2 g2 h2 le2 iu2 S2 => ?_
    have hl := srt_len few
    exact ⟨g2, V1, m1, vs, c, f, _, S2, u, iu2, by rw [List.length_map]; (first | lia | omega), fun h3 ws e iws S3 => fin g2 h3 ws e le2 iws S3⟩
  · exact congrArg (List.drop 2) he
  · rw [show starEach [e] env = [(false, eval e env)] from congrArg (List.drop 2) he]; exact congrArg (List.drop 1) he
  · rw [show starEach [.Constant (.str wh) k0 p5, e] env = [(false, eval (.Constant (.str wh) k0 p5) env), (false, eval e env)] from congrArg (List.drop 1) he]; exact he
end
noncomputable def stepsL (lks : List Lk) : List (List Int) := lks.map fun k => srt (k.acts.map (·.2))
noncomputable def flatL (rs : List (List Int)) : List Int := rs.flatMap fun r => r
noncomputable def sysF (l : Ls) : List Int := l.fts ++ (if l.req ≥ 0 then [l.req] else [])
noncomputable def setsL (lks : List Lk) : List Int := (lks.filter fun k => decide (k.flag = 16)).map (·.mark)
noncomputable def lkBeh (k : Lk) : Bool := k.isCtx && k.rules.any behindR
noncomputable def placeB (lks : List Lk) (i : Int) : Bool := match lks[i.toNat]? with | some k => lkBeh k | none => false
noncomputable def placesL (lks : List Lk) : List Int := (rangeI lks.length).filter (placeB lks)
noncomputable def geF (n : Int) (xs : List Int) : List Int := xs.filter fun k => decide (k ≥ n)
noncomputable def numsL (y : Lay) (sc : Int) : List (Str × List Int) :=
  [("lookup", geF y.lks.length (flatL y.feats ++ flatL (stepsL y.lks))), ("feature", geF y.feats.length (y.sys.flatMap sysF)), ("set", geF sc (setsL y.lks)), ("place", placesL y.lks), ("ring", ringsL (stepsL y.lks)),
   ("deep", (rangeI y.lks.length).filter fun k => decide (6 < (depsL (stepsL y.lks)).getD k.toNat 0)), ("idle", (rangeI y.lks.length).filter fun k => !decide (k ∈ rch (stepsL y.lks) (flatL y.feats)))]
structure Lay.Ok (y : Lay) : Prop where
  n : y.lks.length ≤ 10
  lk : ∀ k ∈ y.lks, k.Ok ∧ k.width ≤ 10 ∧ (k.flag = 0 ∨ k.flag = 8 ∨ k.flag = 16) ∧ (-20 ≤ k.mark ∧ k.mark ≤ 20)
  fn : y.feats.length ≤ 10
  ft : ∀ r ∈ y.feats, r.length ≤ 10 ∧ Few r
  ls : ∀ l ∈ y.sys, l.fts.length ≤ 10 ∧ Few (sysF l)
theorem few_filter {xs : List Int} (h : Few xs) (p : Int → Bool) : Few (xs.filter p) := fun k hk => h k (List.mem_filter.mp hk).1
theorem few_app {xs ys : List Int} (h1 : Few xs) (h2 : Few ys) : Few (xs ++ ys) := fun k hk => (List.mem_append.mp hk).elim (h1 k) (h2 k)
theorem few_flat {rs : List (List Int)} (h : ∀ r ∈ rs, Few r) : Few (flatL rs) := fun k hk => by
  obtain ⟨r, hr, hk⟩ := List.mem_flatMap.mp hk
  exact h r hr k hk
theorem few_range {n : Nat} (hn : n ≤ 20) : Few (rangeI n) := few_in hn fun k hk => mem_rangeI.mp hk
theorem sys_len (y : Lay) : y.sys.length ≤ 3 := by unfold Lay.sys; cases y.dflt <;> simp
theorem depsL_len (steps : List (List Int)) : (depsL steps).length = steps.length := by
  have h1 : ∀ (l f : List Int), (l.foldl (upd steps) f).length = f.length := fun l => by
    induction l with
    | nil => intro f; rfl
    | cons x r ih => intro f; rw [List.foldl_cons, ih, upd_len]
  have h2 : ∀ (l f : List Int), (l.foldl (fun f _ => sweep steps f) f).length = f.length := fun l => by
    induction l with
    | nil => intro f; rfl
    | cons x r ih => intro f; rw [List.foldl_cons, ih]; exact h1 _ _
  unfold depsL
  rw [h2, baseL_len]
theorem filter_snoc {α : Type} (p : α → Bool) {l : List α} {i : Nat} {a : α} (h : l[i]? = some a) : (l.take (i + 1)).filter p = (l.take i).filter p ++ (if p a = true then [a] else []) := by
  rw [take_snoc _ _ _ h, List.filter_append]
  by_cases q : p a = true
  · simp [q]
  · simp [q]
theorem filter_len {α : Type} (p : α → Bool) (l : List α) : (l.filter p).length ≤ l.length := List.length_filter_le _ _
theorem stepsL_row {lks : List Lk} (h : ∀ k ∈ lks, k.Ok) (k : Int) : (rowOf (stepsL lks) k).length ≤ 64 ∧ Few (rowOf (stepsL lks) k) :=
  rowOf_all (p := fun r => r.length ≤ 64 ∧ Few r) (fun r hr => by
    unfold stepsL at hr
    obtain ⟨l, hl, rfl⟩ := List.mem_map.mp hr
    exact ⟨Nat.le_of_lt (srt_len (h l hl).few), few_srt (h l hl).few⟩) ⟨by simp, fun k hk => nomatch hk⟩ k
theorem stepsL_len (lks : List Lk) : (stepsL lks).length = lks.length := by unfold stepsL; simp
theorem iL_flat (rs : List (List Int)) : (rs.flatMap fun r => if true = true then r.filterMap (fun k => some (D.int k)) else []) = iL (flatL rs) := by
  unfold iL flatL
  rw [List.map_flatMap]
  refine congrArg (fun f => List.flatMap f rs) (funext fun r => ?_)
  rw [if_pos rfl, List.filterMap_eq_map']
theorem and16 {f : Int} (h : f = 0 ∨ f = 8 ∨ f = 16) : (Builtin.bitAnd f 16 != 0) = decide (f = 16) := by
  rcases h with rfl | rfl | rfl <;> decide
section
variable {prog : Program} {w : World} {A : Around} {B : Bs} {g g' : Gm} {V V' : List (Addr × Obj)} {env : Env} {m : Str → Option Value} {h h' hb : Heap} {K : Frag} {mg mb : Str → Option Value} {ad : Ads} {C fI : Addr}
theorem fld_feat {v : Value} {r : List Int} {name : Str} {d : D} (S : St B g V env m h) (G : Gd K mg mb B.hb ad) (i : Is prog w g v (featD ad r)) (j : Nat) (h1 : fFeature[j]? = some name) (h2 : [D.str "liga", .list (iL r)][j]? = some d) (h3 : d ≠ .any) (h4 : name ∈ fFeature)
    {Q : Value → Heap → Prop} (hQ : ∀ u, Is prog w g u d → Q u h) : Ev prog w A (getAttr v name true) h Q :=
  ev_field (ns := fFeature) (ds := [D.str "liga", .list (iL r)]) S G.cx G.Feature.1.cls (G.Feature.1.fr h4) i rfl (by decide) h1 h2 h3 hQ
theorem fld_ls {v : Value} {l : Ls} {name : Str} {d : D} (S : St B g V env m h) (G : Gd K mg mb B.hb ad) (i : Is prog w g v (lsD ad l)) (j : Nat) (h1 : fLangSys[j]? = some name) (h2 : [D.int l.req, .list (iL l.fts)][j]? = some d) (h3 : d ≠ .any) (h4 : name ∈ fLangSys)
    {Q : Value → Heap → Prop} (hQ : ∀ u, Is prog w g u d → Q u h) : Ev prog w A (getAttr v name true) h Q :=
  ev_field (ns := fLangSys) (ds := [D.int l.req, .list (iL l.fts)]) S G.cx G.LangSys.1.cls (G.LangSys.1.fr h4) i rfl (by decide) h1 h2 h3 hQ
inductive ChoK (B : Bs) (V : List (Addr × Obj)) (env : Env) (m : Str → Option Value) (g : Gm) (J : Gm → Value → Prop) (v : Value) (h : Heap) : Prop
  | mk (g' : Gm) : GLe g g' → J g' v → St B g' V env m h → ChoK B V env m g J v h
/-- a choice whose values meet again -/
theorem ev_ifexpJ {test body orelse : Expr} {pos : Pos} {P : Value → Heap → Prop} (S : St B g V env m h) (J : Gm → Value → Prop)
    (x : Ev prog w A (isTrue test env (eval test env)) h fun b h1 => if b = true then Ev prog w A (eval body env) h1 (ChoK B V env m g J) else Ev prog w A (eval orelse env) h1 (ChoK B V env m g J))
    (y : ∀ v g' h2, GLe g g' → J g' v → St B g' V env m h2 → P v h2) : Ev prog w A (eval (.IfExp test body orelse pos) env) h P := by
  refine ev_ifexp (x.mono fun b h1 z => ?_)
  cases b with
  | true =>
    simp only [if_true] at z ⊢
    exact z.mono fun v h2 q => by obtain ⟨g', le, j, S'⟩ := q; exact y v g' h2 le j S'
  | false =>
    simp only [Bool.false_eq_true, if_false] at z ⊢
    exact z.mono fun v h2 q => by obtain ⟨g', le, j, S'⟩ := q; exact y v g' h2 le j S'
/-- number_findings -/
theorem c_number (G : Gd K mg mb hb ad) (hr : Room A 12) (H : Hp hb g h) {tv yv : Value} {y : Lay} {sc : Int} {ts : Tok} (it : Is prog w g tv (.str "GSUB")) (iy : Is prog w g yv (layD ad y)) (ok : y.Ok) :
    Gives prog w A g h (.ref ad.number) [tv, yv, .int sc ts] fun g' u => Is prog w g' u (.list ((numsL y sc).flatMap fun p => (srt p.2).map (fD ad p.1))) := fun P hP => by
  have okn := ok.n
  have okf := ok.fn
  have rowS := stepsL_row (lks := y.lks) fun k hk => (ok.lk k hk).1
  have lenS := stepsL_len y.lks
  have hrowS : ∀ k, (rowOf (stepsL y.lks) k).length ≤ 100 := fun k => by have := (rowS k).1; (first | lia | omega)
  refine enter (V := []) G G.number.2 hr H (Wr.nil _ _) (binds := [("tag", tv), ("layout", yv), ("set_count", .int sc ts)]) (fun _ _ _ _ _ => rfl) (fun n x hx => ?_) (by rfl) (fun x A' T h₁ hr' hT S => ?_)
  · simp only [List.mem_cons, List.not_mem_nil, or_false] at hx
    rcases hx with rfl | rfl | rfl
    · exact .inl rfl
    · exact .inr ⟨rfl, rfl⟩
    · exact .inr ⟨rfl, rfl⟩
  have kn0 : Kn (bindA [("tag", tv), ("layout", yv), ("set_count", .int sc ts)] fun _ => none) [("tag", tv), ("layout", yv), ("set_count", .int sc ts)] := .cons rfl (.cons rfl (.cons rfl .nil))
  generalize (bindA [("tag", tv), ("layout", yv), ("set_count", .int sc ts)] fun _ => none) = m0 at S kn0
  -- lookups = layout.lookups
  refine ev_cons (ev_assign (ev_attr (ev_var S (kn0.ix 1 rfl) (fld_lay S G iy 2 rfl rfl (by intro e; cases e) (by decide) fun ul iul => ev_store S (.inr ⟨rfl, _, rfl, .inr ⟨"lookups", rfl⟩⟩) fun h1 S1 => ?_))))
  have kn1 := kn0.add (x := "lookups") (v := ul)
  generalize setM m0 "lookups" ul = m1 at S1 kn1
  -- steps
  refine ev_cons (ev_alc S1 hr'.hh (.inl ⟨rfl, rfl⟩) rfl (ev_var S1 (kn1.ix 0 rfl) (LcK.overL (xs := y.lks) S1 G iul [] (fun k => some (.list (iL (srt (k.acts.map (·.2)))))) Kn.nil (by (first | lia | omega)) ?_ ?_)))
  · intro j k u g2 m h B' V' C G hV hk iu le kn S
    obtain ⟨k1, k2, k3, k4⟩ := ok.lk k (List.mem_of_getElem? hk)
    refine ev_assign_name S (.inl ⟨rfl, rfl⟩) fun h2 S => ev_noTests ?_
    refine ev_callD S G.cx G.next (ev_args_cons (ev_var S (setM_self _ _ _) (ev_args_nil ⟨S.hbk, ?_⟩)))
    exact (c_next G (hr'.less (by decide)) S.hp k1 k2 (iu.mono le)).use S fun u g' h' le' iu S' => ⟨g', _, _, le', Kn.nil, S', rfl, iu⟩
  intro D2 g2 ys c2 h2 g3 le2 hys le3 hg3 S3
  have e0 : (y.lks.filterMap fun k => some (D.list (iL (srt (k.acts.map (·.2)))))) = (stepsL y.lks).map fun r => .list (iL r) := by
    rw [List.filterMap_eq_map']; unfold stepsL; rw [List.map_map]; rfl
  rw [e0] at hys
  have isteps : Is prog w g3 (.ref D2) (stepsD (stepsL y.lks)) := .list hg3 (hys.mono le3)
  have kn3 := kn1.add (x := "steps") (v := .ref D2)
  generalize setM m1 "steps" (.ref D2) = m3 at S3 kn3
  have gl3 := le2.trans le3
  -- told_lookups
  refine ev_cons (ev_alc S3 hr'.hh (.inl ⟨rfl, rfl⟩) rfl (ev_attr (ev_var S3 (kn3.ix 3 rfl) (fld_lay S3 G (iy.mono gl3) 1 rfl rfl (by intro e; cases e) (by decide) fun uf iuf => ?_))))
  refine LcK.overL2 (xs := y.feats) S3 G iuf [] (fun _ => true) (fun r => r) (fun _ k => some (.int k)) hr'.hh Kn.nil (by (first | lia | omega)) (fun r hr => by have := (ok.ft r hr).1; (first | lia | omega)) ?_ ?_
  · intro j r u g4 m h B' V' C G hV hrr iu le kn S
    refine ev_assign_name S (.inl ⟨rfl, rfl⟩) fun h2 S => ev_tests_nil ?_
    rw [if_pos rfl]
    refine ⟨rfl, ev_attr (ev_var S (setM_self _ _ _) (fld_feat S G (iu.mono le) 1 rfl rfl (by intro e; cases e) (by decide) fun u2 iu2 => ?_))⟩
    refine Cd2.overL iu2 (GLe.refl _) Kn.nil S ?_
    intro j3 k v3 g6 m h V3 hV3 hk iv le6 kn6 S6
    refine ev_assign_name S6 (.inl ⟨rfl, rfl⟩) fun h7 S7 => ev_noTests ?_
    exact ev_var S7 (setM_self _ _ _) ⟨g6, _, _, GLe.refl _, Kn.nil, S7, rfl, iv.mono le6⟩
  intro D4 g4 ys4 c4 h4 g5 le4 hys4 le5 hg5 S5
  rw [iL_flat] at hys4
  have kn5 := kn3.add (x := "told_lookups") (v := .ref D4)
  generalize setM m3 "told_lookups" (.ref D4) = m5 at S5 kn5
  have gl5 := (gl3.trans le4).trans le5
  have itold : Is prog w g5 (.ref D4) (.list (iL (flatL y.feats))) := .list hg5 (hys4.mono le5)
  have ftold : Few (flatL y.feats) := few_flat fun r hr => (ok.ft r hr).2
  have ltold : (flatL y.feats).length ≤ 100 := by
    have := flat_len (f := fun r : List Int => r) (c := 10) (l := y.feats) fun r hr => (ok.ft r hr).1
    have : (flatL y.feats).length ≤ y.feats.length * 10 := this
    (first | lia | omega)
  -- asked
  refine ev_cons (ev_assign (ev_binop (ev_var S5 (kn5.ix 0 rfl) (ev_elc S5 hr'.hh rfl (ev_var S5 (kn5.ix 1 rfl) ?_)))))
  refine LcK.overL2 (xs := (stepsL y.lks)) S5 G ((isteps.mono le4).mono le5) [] (fun _ => true) (fun r => r) (fun _ k => some (.int k)) hr'.hh Kn.nil (by (first | lia | omega)) (fun r hr => ?_) ?_ ?_
  · unfold stepsL at hr
    obtain ⟨l, hl, rfl⟩ := List.mem_map.mp hr
    have := srt_len (ok.lk l hl).1.few; (first | lia | omega)
  · intro j r u g6 m h B' V' C G hV hrr iu le kn S
    refine ev_assign_name S (.inl ⟨rfl, rfl⟩) fun h2 S => ev_tests_nil ?_
    rw [if_pos rfl]
    refine ⟨rfl, ev_var S (setM_self _ _ _) ?_⟩
    refine Cd2.overL (iu.mono le) (GLe.refl _) Kn.nil S ?_
    intro j3 k v3 g6 m h V3 hV3 hk iv le6 kn6 S6
    refine ev_assign_name S6 (.inl ⟨rfl, rfl⟩) fun h7 S7 => ev_noTests ?_
    exact ev_var S7 (setM_self _ _ _) ⟨g6, _, _, GLe.refl _, Kn.nil, S7, rfl, iv.mono le6⟩
  intro D6 g6 ys6 c6 h6 g7 le6 hys6 le7 hg7 S7
  rw [iL_flat] at hys6
  have fstep : Few (flatL (stepsL y.lks)) := few_flat fun r hr => by
    unfold stepsL at hr
    obtain ⟨l, hl, rfl⟩ := List.mem_map.mp hr
    exact few_srt (ok.lk l hl).1.few
  have lstep : (flatL (stepsL y.lks)).length ≤ 640 := by
    have := flat_len (f := fun r : List Int => r) (c := 64) (l := stepsL y.lks) fun r hr => by
      unfold stepsL at hr
      obtain ⟨l, hl, rfl⟩ := List.mem_map.mp hr
      exact Nat.le_of_lt (srt_len (ok.lk l hl).1.few)
    have : (flatL (stepsL y.lks)).length ≤ (stepsL y.lks).length * 64 := this
    (first | lia | omega)
  have l4 : ys4.length = (flatL y.feats).length := by rw [hys4.length, iL_length]
  have l6 : ys6.length = (flatL (stepsL y.lks)).length := by rw [hys6.length, iL_length]
  refine ev_add_list (S7.frz _ _ ((le6.trans le7) _ _ hg5)) (S7.frz _ _ hg7) (le_line (by (first | lia | omega))) ?_
  refine S7.push_frzK (lobj (ys4 ++ ys6) 0) rfl fun g8 le8 hg8 S8 => ?_
  generalize h6.objs.size = D8 at hg8 S8
  refine ev_store S8 (.inl ⟨rfl, rfl⟩) fun h9 S9 => ?_
  have kn9 := kn5.add (x := "asked") (v := .ref D8)
  generalize setM m5 "asked" (.ref D8) = m9 at S9 kn9
  have gl9 := ((gl5.trans le6).trans le7).trans le8
  have gl59 := (le6.trans le7).trans le8
  have iasked : Is prog w g8 (.ref D8) (.list (iL (flatL y.feats ++ flatL (stepsL y.lks)))) := .list hg8 (by
    rw [iL_append]; exact (hys4.mono (le5.trans gl59)).append ((hys6.mono le7).mono le8))
  have fasked := few_app ftold fstep
  -- features
  refine ev_cons (ev_assign (ev_list (ev_args_nil ⟨le_line (le_dec rfl), ?_⟩)))
  have S10 := S9.push_vol (lobj [] 0) rfl (lobj_nocell _ _)
  generalize h9.objs.size = F1 at S10
  refine ev_store S10 (.inl ⟨rfl, rfl⟩) fun h11 S11 => ?_
  have kn11 := kn9.add (x := "features") (v := .ref F1)
  generalize setM m9 "features" (.ref F1) = m11 at S11 kn11
  refine ev_cons (ev_forS S11 (fun i g V m => ∃ vs c, V = [(F1, lobj vs c)] ∧ Iss prog w g vs (iL ((y.sys.take i).flatMap sysF)) ∧ Kn m [("features", .ref F1), ("asked", .ref D8), ("told_lookups", .ref D4), ("steps", .ref D2), ("lookups", ul), ("tag", tv), ("layout", yv), ("set_count", .int sc ts)]) hr'.hh
    (ev_callD S11 G.cx G.langsys (ev_args_cons (ev_var S11 (kn11.ix 6 rfl) (ev_args_nil ⟨S11.hbk, ?_⟩)))))
  refine (c_langsys G (hr'.less (by decide)) S11.hp (iy.mono gl9)).use S11 fun us g12 h12 le12 ius S12 => ?_
  have hsl := sys_len y
  have fl : ∀ i, ((y.sys.take i).flatMap sysF).length ≤ 33 := fun i => by
    have := flat_len (f := sysF) (c := 11) (l := y.sys.take i) fun l hl => by
      have := (ok.ls l (List.mem_of_mem_take hl)).1
      unfold sysF; rw [List.length_append]; split <;> simp <;> (first | lia | omega)
    rw [List.length_take] at this; (first | lia | omega)
  refine ForK.overL S12 ius ⟨[], 0, rfl, .nil, kn11⟩ ?_ ?_
  · rintro j l u g13 V13 m13 h13 I oI T2 hT2 _ hl iu le13 ⟨vs, c, rfl, ivs, kn⟩ S13
    have iul' := iu.mono le13
    obtain ⟨ol1, ol2⟩ := ok.ls l (List.mem_of_getElem? hl)
    refine ev_assign_name S13 (.inl ⟨rfl, rfl⟩) fun h14 S14 => ?_
    have kn14 := kn.other (x := "langsys") (v := u)
    have hvl := fl j
    rw [← iL_length, ← ivs.length] at hvl
    refine ev_cons (ev_ext S14 (kn14.ix 0 rfl) (.tail _ (.head _)) (ev_binop (ev_attr (ev_var S14 (setM_self _ _ _) (fld_ls S14 G iul' 1 rfl rfl (by intro e; cases e) (by decide) fun u1 iu1 =>
      ev_ifexpJ S14 (fun g' v => ∃ xs2, Is prog w g' v (.list (iL xs2)) ∧ xs2.length ≤ 1 ∧ sysF l = l.fts ++ xs2) (ev_true_compare1 (ev_attr (ev_var S14 (setM_self _ _ _) (fld_ls S14 G iul' 0 rfl rfl (by intro e; cases e) (by decide) fun u2 iu2 => ?_)))) ?_)))))
    · obtain ⟨t2, rfl⟩ := iu2.asInt
      refine ev_int fun t3 => ev_ge (ev_truthy_bool (if_dec (fun p => ?_) (fun p => ?_)))
      · refine ev_list (ev_args_cons (ev_attr (ev_var S14 (setM_self _ _ _) (fld_ls S14 G iul' 0 rfl rfl (by intro e; cases e) (by decide) fun u2 iu2 => ev_args_nil ⟨le_line (le_dec rfl), ?_⟩))))
        refine S14.push_frzK (lobj [u2] 0) rfl fun g15 le15 hg15 S15 => ?_
        exact ⟨g15, le15, ⟨[l.req], .list hg15 (.cons (iu2.mono le15) .nil), by simp, by unfold sysF; rw [if_pos p]⟩, S15⟩
      · refine ev_list (ev_args_nil ⟨le_line (le_dec rfl), ?_⟩)
        refine S14.push_frzK (lobj [] 0) rfl fun g15 le15 hg15 S15 => ?_
        exact ⟨g15, le15, ⟨[], .list hg15 .nil, by simp, by unfold sysF; rw [if_neg p]⟩, S15⟩
    rintro v2 g15 h15 le15 ⟨xs2, iv2, hx2, hs⟩ S15
    obtain ⟨a1, vs1, c1, rfl, ga1, iss1⟩ := iu1.asList
    have hl1 : vs1.length ≤ 10 := by rw [iss1.length, iL_length]; exact ol1
    obtain ⟨a2, vs2, c2, rfl, ga2, iss2⟩ := iv2.asList
    have hl2 : vs2.length ≤ 1 := by rw [iss2.length, iL_length]; exact hx2
    refine ev_add_list (S15.frz _ _ (le15 _ _ ga1)) (S15.frz _ _ ga2) (le_line (by (first | lia | omega))) ?_
    refine S15.push_frzK (lobj (vs1 ++ vs2) 0) rfl fun g16 le16 hg16 S16 => ?_
    refine ⟨g16, _, _, vs, c, _, iL (sysF l), S16, (fun _ => .tail .head), .list hg16 ?_, ?_, fun h17 ws e iws S17 => ev_nil (hT2 _ ⟨g16, _, _, le15.trans le16, ⟨_, _, rfl, ?_, kn14⟩, S17⟩)⟩
    · rw [hs, iL_append]; exact (iss1.mono (le15.trans le16)).append (iss2.mono le16)
    · rw [hs, iL_length, List.length_append]; (first | lia | omega)
    · rw [take_snoc _ _ _ hl, List.flatMap_append, iL_append]
      simp only [List.flatMap_cons, List.flatMap_nil, List.append_nil]
      exact (ivs.mono (le15.trans le16)).append iws
  rintro g13 V13 m13 h13 le13 ⟨vsF, cF, rfl, ivsF, kn13⟩ S13
  have fl3 := fl y.sys.length
  rw [List.take_length] at ivsF fl3
  refine S13.freezeK .head (fun q => nomatch q) fun g14 le14 hg14 S14 => ?_
  have gl14 := ((gl9.trans le12).trans le13).trans le14
  have ifeat : Is prog w g14 (.ref F1) (.list (iL (y.sys.flatMap sysF))) := .list hg14 (ivsF.mono le14)
  have ffeat : Few (y.sys.flatMap sysF) := fun k hk => by
    obtain ⟨l, hl, hk⟩ := List.mem_flatMap.mp hk
    exact (ok.ls l hl).2 k hk
  -- sets
  refine ev_cons (ev_alc S14 hr'.hh (.inl ⟨rfl, rfl⟩) rfl (ev_var S14 (kn13.ix 4 rfl) ?_))
  refine LcK.overL (xs := y.lks) S14 G (iul.mono gl14) [] (fun k => if decide (k.flag = 16) = true then some (.int k.mark) else none) Kn.nil (by (first | lia | omega)) ?_ ?_
  · intro j k u g15 m h B' V' C G hV hk iu le kn S
    obtain ⟨k1, k2, k3, k4⟩ := ok.lk k (List.mem_of_getElem? hk)
    obtain ⟨tu, hus⟩ := G.use_set
    refine ev_assign_name S (.inl ⟨rfl, rfl⟩) fun h2 S => ev_test1 (ev_true_value (ev_binop (ev_attr (ev_var S (setM_self _ _ _) (fld_lookup S G (iu.mono le) 1 rfl rfl (by intro e; cases e) (by decide) fun u1 iu1 => ?_)))))
    obtain ⟨t1, rfl⟩ := iu1.asInt
    refine ev_glob S G.cx hus (ev_and fun t2 => ev_truthy_int ?_)
    rw [and16 k3]
    refine if_dec (fun p => ?_) (fun p => ?_)
    · exact ev_attr (ev_var S (setM_self _ _ _) (fld_lookup S G (iu.mono le) 2 rfl rfl (by intro e; cases e) (by decide) fun u1 iu1 => ⟨g15, _, _, GLe.refl _, Kn.nil, S, by simp [p], iu1⟩))
    · exact ⟨g15, _, GLe.refl _, Kn.nil, S, by simp [p]⟩
  intro D15 g15 ys15 c15 h15 g16 le15 hys15 le16 hg16 S16
  have e15 : (y.lks.filterMap fun k => if decide (k.flag = 16) = true then some (D.int k.mark) else none) = iL (setsL y.lks) := by
    unfold setsL iL
    induction y.lks with
    | nil => rfl
    | cons k r ih =>
      rw [List.filterMap_cons, List.filter_cons]
      by_cases q : k.flag = 16
      · simp only [q, decide_true, if_true, List.map_cons]; rw [ih]
      · simp only [q, decide_false, Bool.false_eq_true, if_false]; exact ih
  rw [e15] at hys15
  have kn16 := kn13.add (x := "sets") (v := .ref D15)
  generalize setM m13 "sets" (.ref D15) = m16 at S16 kn16
  have isets : Is prog w g16 (.ref D15) (.list (iL (setsL y.lks))) := .list hg16 (hys15.mono le16)
  have gl16 := (gl14.trans le15).trans le16
  have fsets : Few (setsL y.lks) := fun k hk => by
    unfold setsL at hk
    obtain ⟨l, hl, rfl⟩ := List.mem_map.mp hk
    exact (ok.lk l (List.mem_filter.mp hl).1).2.2.2
  have lsets : (setsL y.lks).length ≤ 10 := by
    unfold setsL; rw [List.length_map]
    have := filter_len (fun k : Lk => decide (k.flag = 16)) y.lks; (first | lia | omega)
  have gle9 : GLe g8 g16 := ((((le12.trans le13).trans le14).trans le15).trans le16)
  have gl1416 : GLe g14 g16 := le15.trans le16
  obtain ⟨al, vl, cl, eul, gal, issl⟩ := iul.asList
  have hvl : vl.length = y.lks.length := by rw [issl.length, List.length_map]
  subst eul
  -- found
  refine ev_cons (ev_assign (ev_callD S16 G.cx G.findings_of (ev_args_cons (ev_var S16 (kn16.ix 6 rfl) (ev_args_cons (ev_str fun t17 => ev_args_cons (ev_elc S16 hr'.hh rfl (ev_var S16 (kn16.ix 2 rfl) ?_))))))))
  have lasked : (flatL y.feats ++ flatL (stepsL y.lks)).length ≤ 740 := by rw [List.length_append]; (first | lia | omega)
  refine LcK.overL (xs := (flatL y.feats ++ flatL (stepsL y.lks))) S16 G (iasked.mono gle9) [("lookups", .ref al)] (fun k => if decide (k ≥ (y.lks.length : Int)) = true then some (.int k) else none) ?_ (by (first | lia | omega)) ?_ ?_
  · refine Kn.cmp kn16 fun p hp => ?_
    simp only [List.mem_cons, List.not_mem_nil, or_false] at hp
    rcases hp with rfl; exact ⟨List.mem_of_getElem? (i := 5) rfl, rfl⟩
  · intro j k u g17 m h B' V' C G hV hk iu le kn S
    refine iu.intK fun t => ?_
    refine ev_assign_name S (.inl ⟨rfl, rfl⟩) fun h2 S => ev_test1 ?_
    have kn' : Kn (setM m "number" (.int k t)) [("lookups", .ref al)] := kn.other
    refine ev_true_compare1 (ev_var S (setM_self _ _ _) (ev_callB S G.cx G.bi.len (fun _ => keepable_builtin _ _) (ev_args_cons (ev_var S kn'.g0 (ev_args_nil (ev_len (S.frz _ _ ((gl16.trans le) _ _ gal)) fun t2 => ev_ge (ev_truthy_bool ?_)))))))
    rw [hvl]
    refine if_dec (fun p => ?_) (fun p => ?_)
    · exact ev_var S (setM_self _ _ _) ⟨g17, _, _, GLe.refl _, kn', S, by simp [p], .int⟩
    · exact ⟨g17, _, GLe.refl _, kn', S, by simp [p]⟩
  intro D17 g17 ys17 c17 h17 g18 le17 hys17 le18 hg18 S18
  rw [iL_filter] at hys17
  have len17 := filter_len (fun k : Int => decide (k ≥ (y.lks.length : Int))) (flatL y.feats ++ flatL (stepsL y.lks))
  refine ev_args_nil ⟨S18.hbk, ?_⟩
  have gl18 := (gl16.trans le17).trans le18
  refine c_findingsV G (hr'.less (by decide)) S18.hp (it.mono gl18) (d2 := .str "lookup") .str (.list hg18 (hys17.mono le18)) (few_filter fasked _) (by (first | lia | omega)) fun R vsR cR g19 h19 E19 hRn hR hgR issR => ?_
  have S19 := S18.take E19 hRn hR hgR (lobj_nocell _ _)
  have le19 := E19.le
  refine ev_store S19 (.inl ⟨rfl, rfl⟩) fun h20 S20 => ?_
  have kn20 := kn16.add (x := "found") (v := .ref R)
  generalize setM m16 "found" (.ref R) = m20 at S20 kn20
  have gl19 := gl18.trans le19
  have lR : vsR.length < 64 := by rw [issR.length, List.length_map]; exact srt_len (few_filter fasked _)
  -- feature
  refine ev_cons (ev_extFind S20 G (hr'.less (by decide)) (kn20.ix 0 rfl) (.head _) (kn20.ix 7 rfl) (it.mono gl19) (ev_elc S20 hr'.hh rfl (ev_var S20 (kn20.ix 2 rfl) ?_)))
  have glA : GLe g14 g19 := ((gl1416.trans le17).trans le18).trans le19
  refine LcK.overL (xs := (y.sys.flatMap sysF)) S20 G (ifeat.mono glA) [("layout", yv)] (fun k => if decide (k ≥ (y.feats.length : Int)) = true then some (.int k) else none) ?_ (by (first | lia | omega)) ?_ ?_
  · refine Kn.cmp kn20 fun p hp => ?_
    simp only [List.mem_cons, List.not_mem_nil, or_false] at hp
    rcases hp with rfl; exact ⟨List.mem_of_getElem? (i := 8) rfl, rfl⟩
  · intro j k u g21 m h B' V' C G hV hk iu le kn S
    refine iu.intK fun t => ?_
    refine ev_assign_name S (.inl ⟨rfl, rfl⟩) fun h2 S => ev_test1 ?_
    have kn' : Kn (setM m "number" (.int k t)) [("layout", yv)] := kn.other
    refine ev_true_compare1 (ev_var S (setM_self _ _ _) (ev_callB S G.cx G.bi.len (fun _ => keepable_builtin _ _) (ev_args_cons (ev_attr (ev_var S kn'.g0 (fld_lay S G (iy.mono (gl19.trans le)) 1 rfl rfl (by intro e; cases e) (by decide) fun u1 iu1 => ev_args_nil ?_))))))
    obtain ⟨a1, v1, c1, rfl, ga1, iss1⟩ := iu1.asList
    have hl1 : v1.length = y.feats.length := by rw [iss1.length, List.length_map]
    refine ev_len (S.frz _ _ ga1) fun t2 => ev_ge (ev_truthy_bool ?_)
    rw [hl1]
    refine if_dec (fun p => ?_) (fun p => ?_)
    · exact ev_var S (setM_self _ _ _) ⟨g21, _, _, GLe.refl _, kn', S, by simp [p], .int⟩
    · exact ⟨g21, _, GLe.refl _, kn', S, by simp [p]⟩
  intro D21 g21 ys21 c21 h21 g22 le21 hys21 le22 hg22 S22
  rw [iL_filter] at hys21
  have len21 := filter_len (fun k : Int => decide (k ≥ (y.feats.length : Int))) (y.sys.flatMap sysF)
  refine ⟨g22, _, _, vsR, cR, _, _, le21.trans le22, S22, (fun _ => .head), .list hg22 (hys21.mono le22), few_filter ffeat _, by (first | lia | omega), by (first | lia | omega), fun g23 h23 ws23 e23 le23 iws23 S23 => ?_⟩
  have gl23 := ((gl19.trans le21).trans le22).trans le23
  have issR23 := (issR.mono ((le21.trans le22).trans le23)).append iws23
  have l23 : ws23.length < 64 := by rw [iws23.length, List.length_map]; exact srt_len (few_filter ffeat _)
  -- set
  refine ev_cons (ev_extFind S23 G (hr'.less (by decide)) (kn20.ix 0 rfl) (.head _) (kn20.ix 7 rfl) (it.mono gl23) (ev_elc S23 hr'.hh rfl (ev_var S23 (kn20.ix 1 rfl) ?_)))
  have glB : GLe g16 g23 := ((((le17.trans le18).trans le19).trans le21).trans le22).trans le23
  refine LcK.overL (xs := (setsL y.lks)) S23 G (isets.mono glB) [("set_count", .int sc ts)] (fun k => if decide (k ≥ sc) = true then some (.int k) else none) ?_ (by (first | lia | omega)) ?_ ?_
  · refine Kn.cmp kn20 fun p hp => ?_
    simp only [List.mem_cons, List.not_mem_nil, or_false] at hp
    rcases hp with rfl; exact ⟨List.mem_of_getElem? (i := 9) rfl, rfl⟩
  · intro j k u g24 m h B' V' C G hV hk iu le kn S
    refine iu.intK fun t => ?_
    refine ev_assign_name S (.inl ⟨rfl, rfl⟩) fun h2 S => ev_test1 ?_
    have kn' : Kn (setM m "number" (.int k t)) [("set_count", .int sc ts)] := kn.other
    refine ev_true_compare1 (ev_var S (setM_self _ _ _) (ev_var S kn'.g0 (ev_ge (ev_truthy_bool ?_))))
    refine if_dec (fun p => ?_) (fun p => ?_)
    · exact ev_var S (setM_self _ _ _) ⟨g24, _, _, GLe.refl _, kn', S, by simp [p], .int⟩
    · exact ⟨g24, _, GLe.refl _, kn', S, by simp [p]⟩
  intro D24 g24 ys24 c24 h24 g25 le24 hys24 le25 hg25 S25
  rw [iL_filter] at hys24
  have len24 := filter_len (fun k : Int => decide (k ≥ sc)) (setsL y.lks)
  refine ⟨g25, _, _, _, _, _, _, le24.trans le25, S25, (fun _ => .head), .list hg25 (hys24.mono le25), few_filter fsets _, by (first | lia | omega), by rw [List.length_append]; (first | lia | omega), fun g26 h26 ws26 e26 le26 iws26 S26 => ?_⟩
  have gl26 := ((gl23.trans le24).trans le25).trans le26
  have issR26 := (issR23.mono ((le24.trans le25).trans le26)).append iws26
  have l26 : ws26.length < 64 := by rw [iws26.length, List.length_map]; exact srt_len (few_filter fsets _)
  generalize hw26 : vsR ++ ws23 ++ ws26 = vs26 at S26 issR26
  have l26' : vs26.length < 200 := by rw [← hw26, List.length_append, List.length_append]; (first | lia | omega)
  clear hw26
  -- places
  refine ev_cons (ev_assign (ev_list (ev_args_nil ⟨le_line (le_dec rfl), ?_⟩)))
  have S27 := S26.push_vol (lobj [] 0) rfl (lobj_nocell _ _)
  generalize h26.objs.size = Pl at S27
  refine ev_store S27 (.inl ⟨rfl, rfl⟩) fun h28 S28 => ?_
  have kn28 := kn20.add (x := "places") (v := .ref Pl)
  generalize setM m20 "places" (.ref Pl) = m28 at S28 kn28
  refine ev_cons (ev_forS S28 (fun i g V m => ∃ ps c, V = [(Pl, lobj ps c), (R, lobj vs26 e26)] ∧ IntsAre ps (((rangeI y.lks.length).take i).filter (placeB y.lks)) ∧ Kn m [("places", .ref Pl), ("found", .ref R), ("told_lookups", .ref D4), ("steps", .ref D2), ("lookups", .ref al), ("tag", tv)]) hr'.hh
    (ev_rangelen S28 G (kn28.ix 7 rfl) (S28.frz _ _ (gl26 _ _ gal)) (by (first | lia | omega)) fun r29 g29 h29 le29 src29 S29 => ?_))
  rw [hvl] at src29
  refine ForK.overR S29 src29 ⟨[], 0, rfl, .nil, .cons (kn28.ix 0 rfl) (.cons (kn28.ix 1 rfl) (.cons (kn28.ix 5 rfl) (.cons (kn28.ix 6 rfl) (.cons (kn28.ix 7 rfl) (.cons (kn28.ix 8 rfl) .nil)))))⟩ ?_ ?_
  · rintro j t g30 V30 m30 h30 I oI T2 hT2 hj le30 ⟨ps, c, rfl, ips, kn⟩ S30
    refine ev_assign_name S30 (.inl ⟨rfl, rfl⟩) fun h31 S31 => ?_
    have kn31 := kn.other (x := "number") (v := .int j t)
    have gl30 := (gl26.trans le29).trans le30
    have hjk : y.lks[j]? = some y.lks[j] := List.getElem?_eq_getElem hj
    generalize y.lks[j] = k at hjk
    obtain ⟨k1, k2, k3, k4⟩ := ok.lk k (List.mem_of_getElem? hjk)
    obtain ⟨u, hu, iu0⟩ := issl.get' (i := j) (by rw [List.getElem?_map, hjk]; rfl)
    have iu := iu0.mono gl30
    have hp : placeB y.lks (j : Int) = (k.isCtx && k.rules.any behindR) := by
      unfold placeB
      rw [show ((j : Int).toNat) = j from by (first | lia | omega), hjk]; rfl
    have hln : ps.length ≤ 10 := by
      rw [ips.length]
      have h1 := filter_len (placeB y.lks) ((rangeI y.lks.length).take j)
      rw [List.length_take, rangeI_length] at h1; (first | lia | omega)
    have hfs := filter_snoc (placeB y.lks) (rangeI_at hj)
    rw [hp] at hfs
    have hkind : ∀ (A' : Around) (Q : Value → Heap → Prop), (∀ t, Q (.str k.kind t) h31) → Ev prog w A' (getAttr u "kind" true) h31 Q := fun A' Q hQ => fld_lookup S31 G iu 0 rfl rfl (by intro e; cases e) (by decide) fun u iu => by
      obtain ⟨t, rfl⟩ := iu.asStr; exact hQ t
    refine ev_cons (ev_if (ev_kinds (k := k) (fun Q hQ => ev_attr (ev_subscript (ev_var S31 (kn31.ix 4 rfl) (ev_var S31 (setM_self _ _ _) (ev_item_list (S31.frz _ _ (gl30 _ _ gal)) (okIn_nat hj).1 hu (hkind _ Q hQ))))))
      (fun Q hQ => ev_attr (ev_subscript (ev_var S31 (kn31.ix 4 rfl) (ev_var S31 (setM_self _ _ _) (ev_item_list (S31.frz _ _ (gl30 _ _ gal)) (okIn_nat hj).1 hu (hkind _ Q hQ)))))) ?_))
    cases hctx : k.isCtx with
    | false =>
      simp only [Bool.false_eq_true, if_false]
      refine ev_nil (ev_nil (hT2 _ ⟨g30, _, _, GLe.refl _, ⟨ps, c, rfl, ?_, kn31⟩, S31⟩))
      rw [hfs, hctx]; simpa using ips
    | true =>
      simp only [if_true]
      have et : k.tabs ad = [ctxD ad (decide (k.kind = ("chain" : Str))) k.rules] := by unfold Lk.tabs; rw [if_neg ((isCtx_iff k1).mp hctx)]
      refine ev_cons (ev_if (ev_true_value (ev_callB S31 G.cx G.bi.any (fun _ => keepable_builtin _ _) (ev_args_cons (ev_elc S31 hr'.hh rfl (ev_attr (ev_subscript (ev_var S31 (kn31.ix 4 rfl) (ev_var S31 (setM_self _ _ _) (ev_item_list (S31.frz _ _ (gl30 _ _ gal)) (okIn_nat hj).1 hu (fld_lookup S31 G iu 3 rfl rfl (by intro e; cases e) (by decide) fun ut iut => ?_)))))))))))
      rw [et] at iut
      refine LcK.overL (xs := [()]) (dof := fun _ => ctxD ad (decide (k.kind = ("chain" : Str))) k.rules) S31 G iut [] (fun _ => some (.bool (k.rules.any behindR))) Kn.nil (by decide) ?_ ?_
      · intro j' d u g32 m h B' V' C G hV hd iu le kn S
        refine ev_assign_name S (.inl ⟨rfl, rfl⟩) fun h2 S => ev_noTests ?_
        refine ev_callD S G.cx G.behind (ev_args_cons (ev_var S (setM_self _ _ _) (ev_args_nil ⟨S.hbk, ?_⟩)))
        have hkl := k1.len
        refine (c_behind G (hr'.less (by decide)) S.hp (iu.mono le) (by simp [Lk.rules]) (fun r hr2 => ?_)).use S fun u g' h' le' iu S' => ⟨g', _, _, le', Kn.nil, S', rfl, by rw [iu]; exact .bool⟩
        simp only [Lk.rules, List.mem_cons, List.not_mem_nil, or_false] at hr2
        rcases hr2 with rfl | rfl
        · simp; (first | lia | omega)
        · simp; (first | lia | omega)
      intro D32 g32 ys32 c32 h32 g33 le32 hys32 le33 hg33 S33
      simp only [List.filterMap_cons, List.filterMap_nil] at hys32
      have eys : ys32 = [k.rules.any behindR].map Value.bool := by
        cases hys32 with
        | cons a r => cases r; rw [a.asBool]; rfl
      refine ev_args_nil (ev_any S33 hr'.hh hg33 eys fun h34 S34 => ev_truthy_bool ?_)
      have e1 : [k.rules.any behindR].any id = k.rules.any behindR := by simp
      rw [e1]
      cases hb : k.rules.any behindR with
      | false =>
        simp only [Bool.false_eq_true, if_false]
        refine ev_nil (ev_nil (ev_nil (hT2 _ ⟨g33, _, _, le32.trans le33, ⟨ps, c, rfl, ?_, kn31⟩, S34⟩)))
        rw [hfs, hctx, hb]; simpa using ips
      | true =>
        simp only [if_true]
        refine ev_cons (ev_app S34 (kn31.ix 0 rfl) (.tail _ (.head _)) (ev_var S34 (setM_self _ _ _) ⟨g33, _, _, ps, c, _, S34, (fun _ => .tail .head), by (first | lia | omega), fun h35 S35 => ev_nil (ev_nil (ev_nil (hT2 _ ⟨g33, _, _, le32.trans le33, ⟨_, _, rfl, ?_, kn31⟩, S35⟩)))⟩))
        rw [hfs, hctx, hb]; exact intsAre_app ips (.cons _ _ .nil)
  rintro g30 V30 m30 h30 le30 ⟨ps, cP, rfl, ips, kn30⟩ S30
  rw [List.take_of_length_le (by rw [rangeI_length]; (first | lia | omega))] at ips
  have eP : (rangeI y.lks.length).filter (placeB y.lks) = placesL y.lks := rfl
  rw [eP] at ips
  have lP : (placesL y.lks).length ≤ y.lks.length := by
    have := filter_len (placeB y.lks) (rangeI y.lks.length)
    rw [rangeI_length] at this; exact this
  have fP : Few (placesL y.lks) := few_filter (few_range (by (first | lia | omega))) _
  refine S30.freezeK .head (fun q => nomatch q) fun g31 le31 hg31 S31 => ?_
  have gl31 := ((gl26.trans le29).trans le30).trans le31
  -- place
  refine ev_cons (ev_extFind S31 G (hr'.less (by decide)) (kn30.ix 1 rfl) (.head _) (kn30.ix 5 rfl) (it.mono gl31) (ev_var S31 (kn30.ix 0 rfl) ⟨g31, _, _, vs26, e26, _, placesL y.lks, GLe.refl _, S31, (fun _ => .head), .list hg31 (iss_of_ints (ips)), fP, by (first | lia | omega), by (first | lia | omega), fun g32 h32 ws32 e32 le32 iws32 S32 => ?_⟩))
  have gl32 := gl31.trans le32
  have issR32 := (issR26.mono (((le29.trans le30).trans le31).trans le32)).append iws32
  have l32 : ws32.length < 64 := by rw [iws32.length, List.length_map]; exact srt_len fP
  have isteps32 := isteps.mono (GLe.trans (GLe.trans (((le4.trans le5).trans gl59).trans gle9) glB) (GLe.trans (GLe.trans (GLe.trans le24 le25) le26) (((le29.trans le30).trans le31).trans le32)))
  have itold32 := itold.mono (GLe.trans (GLe.trans (gl59.trans gle9) glB) (GLe.trans (GLe.trans (GLe.trans le24 le25) le26) (((le29.trans le30).trans le31).trans le32)))
  generalize hw32 : vs26 ++ ws32 = vs32 at S32 issR32
  have l32' : vs32.length < 300 := by rw [← hw32, List.length_append]; (first | lia | omega)
  clear hw32
  -- ring
  refine ev_cons (ev_extFind S32 G (hr'.less (by decide)) (kn30.ix 1 rfl) (.head _) (kn30.ix 5 rfl) (it.mono gl32) (ev_callD S32 G.cx G.rings (ev_args_cons (ev_var S32 (kn30.ix 3 rfl) (ev_args_nil ⟨S32.hbk, ?_⟩)))))
  have frg : Few (ringsL (stepsL y.lks)) := few_in (n := (stepsL y.lks).length) (by (first | lia | omega)) fun k hk => (mem_rings.mp hk).1
  have lrg := ringsL_len (stepsL y.lks)
  refine (c_rings G (hr'.less (by decide)) S32.hp isteps32 (by (first | lia | omega)) hrowS).use S32 fun u33 g33 h33 le33 iu33 S33 => ?_
  refine ⟨g33, _, _, vs32, _, _, ringsL (stepsL y.lks), le33, S33, (fun _ => .head), iu33, frg, by (first | lia | omega), by (first | lia | omega), fun g34 h34 ws34 e34 le34 iws34 S34 => ?_⟩
  have issR34 := (issR32.mono (le33.trans le34)).append iws34
  have l34 : ws34.length < 64 := by rw [iws34.length, List.length_map]; exact srt_len frg
  have gl34 := (gl32.trans le33).trans le34
  have isteps34 := (isteps32.mono le33).mono le34
  have itold34 := (itold32.mono le33).mono le34
  generalize hw34 : vs32 ++ ws34 = vs34 at S34 issR34
  have l34' : vs34.length < 400 := by rw [← hw34, List.length_append]; (first | lia | omega)
  clear hw34
  -- deep
  refine ev_cons (ev_assign (ev_callD S34 G.cx G.depths (ev_args_cons (ev_var S34 (kn30.ix 3 rfl) (ev_args_nil ⟨S34.hbk, ?_⟩)))))
  refine (c_depths G (hr'.less (by decide)) S34.hp isteps34 (by (first | lia | omega)) hrowS).use S34 fun dv g35 h35 le35 idv S35 => ?_
  refine ev_store S35 (.inr ⟨rfl, _, rfl, .inr ⟨"deep", rfl⟩⟩) fun h36 S36 => ?_
  have kn36 := kn30.add (x := "deep") (v := dv)
  generalize setM m30 "deep" dv = m36 at S36 kn36
  have gl36 := gl34.trans le35
  have ldp := depsL_len (stepsL y.lks)
  obtain ⟨aS, vS, cS, eS, gaS, hvS, _⟩ := steps_list (isteps34.mono le35)
  cases eS
  refine ev_cons (ev_extFind S36 G (hr'.less (by decide)) (kn36.ix 2 rfl) (.head _) (kn36.ix 6 rfl) (it.mono gl36) (ev_elc S36 hr'.hh rfl (ev_rangelen S36 G (kn36.ix 4 rfl) (S36.frz _ _ gaS) (by (first | lia | omega)) fun r37 g37 h37 le37 src37 S37 => ?_)))
  rw [hvS, lenS] at src37
  refine LcK.overR S37 G src37 [("deep", dv)] (fun k => if decide (6 < (depsL (stepsL y.lks)).getD k.toNat 0) = true then some (.int k) else none) ?_ (by (first | lia | omega)) ?_ ?_
  · refine Kn.cmp kn36 fun p hp => ?_
    simp only [List.mem_cons, List.not_mem_nil, or_false] at hp
    rcases hp with rfl; exact ⟨List.mem_of_getElem? (i := 0) rfl, rfl⟩
  · intro j t g38 m h B' V' C G hV hj le kn S
    refine ev_assign_name S (.inl ⟨rfl, rfl⟩) fun h2 S => ev_test1 ?_
    have kn' : Kn (setM m "number" (.int j t)) [("deep", dv)] := kn.other
    obtain ⟨a1, v1, c1, rfl, ga1, iss1⟩ := ((idv.mono le37).mono le).asList
    have i1 := iss1.iL
    have hl1 := i1.length
    obtain ⟨u1, hu1⟩ := i1.get j _ (getD_at (by (first | lia | omega)))
    obtain ⟨tm, htm⟩ := G.most
    refine ev_true_compare1 (ev_subscript (ev_var S kn'.g0 (ev_var S (setM_self _ _ _) (ev_item_list (S.frz _ _ ga1) (okIn_nat hj).1 hu1 (ev_glob S G.cx htm (ev_gt (ev_truthy_bool ?_)))))))
    refine if_dec (fun p => ?_) (fun p => ?_)
    · exact ev_var S (setM_self _ _ _) ⟨g38, _, _, GLe.refl _, kn', S, if_pos (decide_eq_true p), .int⟩
    · exact ⟨g38, _, GLe.refl _, kn', S, if_neg (by simpa using p)⟩
  intro D38 g38 ys38 c38 h38 g39 le38 hys38 le39 hg39 S39
  rw [iL_filter] at hys38
  have len38 := filter_len (fun k : Int => decide (6 < (depsL (stepsL y.lks)).getD k.toNat 0)) (rangeI y.lks.length)
  rw [rangeI_length] at len38
  have f38 : Few ((rangeI y.lks.length).filter fun k : Int => decide (6 < (depsL (stepsL y.lks)).getD k.toNat 0)) := few_filter (few_range (by (first | lia | omega))) _
  refine ⟨g39, _, _, vs34, _, _, _, (le37.trans le38).trans le39, S39, (fun _ => .head), .list hg39 (hys38.mono le39), f38, by (first | lia | omega), by (first | lia | omega), fun g40 h40 ws40 e40 le40 iws40 S40 => ?_⟩
  have le3640 := (((le37.trans le38).trans le39).trans le40)
  have issR40 := (issR34.mono (le35.trans le3640)).append iws40
  have l40 : ws40.length < 64 := by rw [iws40.length, List.length_map]; exact srt_len f38
  have gl40 := gl36.trans le3640
  have isteps40 := (isteps34.mono le35).mono le3640
  have itold40 := (itold34.mono le35).mono le3640
  generalize hw40 : vs34 ++ ws40 = vs40 at S40 issR40
  have l40' : vs40.length < 500 := by rw [← hw40, List.length_append]; (first | lia | omega)
  clear hw40
  -- live
  refine ev_cons (ev_assign (ev_callD S40 G.cx G.reached (ev_args_cons (ev_var S40 (kn36.ix 4 rfl) (ev_args_cons (ev_var S40 (kn36.ix 3 rfl) (ev_args_nil ⟨S40.hbk, ?_⟩)))))))
  refine (c_reached G (hr'.less (by decide)) S40.hp isteps40 itold40 (by (first | lia | omega)) hrowS (by (first | lia | omega))).use S40 fun lv g41 h41 le41 ilv S41 => ?_
  refine ev_store S41 (.inr ⟨rfl, _, rfl, .inr ⟨"live", rfl⟩⟩) fun h42 S42 => ?_
  have kn42 := kn36.add (x := "live") (v := lv)
  generalize setM m36 "live" lv = m42 at S42 kn42
  have gl42 := gl40.trans le41
  refine ev_cons (ev_return (ev_binop (ev_var S42 (kn42.ix 3 rfl) (ev_callD S42 G.cx G.findings_of (ev_args_cons (ev_var S42 (kn42.ix 7 rfl) (ev_args_cons (ev_str fun t43 => ev_args_cons (ev_elc S42 hr'.hh rfl (ev_rangelen S42 G (kn42.ix 6 rfl) (S42.frz _ _ (gl42 _ _ gal)) (by (first | lia | omega)) fun r43 g43 h43 le43 src43 S43 => ?_))))))))))
  rw [hvl] at src43
  refine LcK.overR S43 G src43 [("live", lv)] (fun k => if (!decide (k ∈ rch (stepsL y.lks) (flatL y.feats))) = true then some (.int k) else none) ?_ (by (first | lia | omega)) ?_ ?_
  · refine Kn.cmp kn42 fun p hp => ?_
    simp only [List.mem_cons, List.not_mem_nil, or_false] at hp
    rcases hp with rfl; exact ⟨List.mem_of_getElem? (i := 0) rfl, rfl⟩
  · intro j t g44 m h B' V' C G hV hj le kn S
    refine ev_assign_name S (.inl ⟨rfl, rfl⟩) fun h2 S => ev_test1 ?_
    have kn' : Kn (setM m "number" (.int j t)) [("live", lv)] := kn.other
    obtain ⟨a1, v1, c1, rfl, ga1, iss1⟩ := ((ilv.mono le43).mono le).asList
    refine ev_true_compare1 (ev_var S (setM_self _ _ _) (ev_var S kn'.g0 (ev_notin (S.frz _ _ ga1) iss1.iL (ev_truthy_bool ?_))))
    refine if_ndec (fun p => ?_) (fun p => ?_)
    · exact ev_var S (setM_self _ _ _) ⟨g44, _, _, GLe.refl _, kn', S, by simp [p], .int⟩
    · exact ⟨g44, _, GLe.refl _, kn', S, by simp [p]⟩
  intro D44 g44 ys44 c44 h44 g45 le44 hys44 le45 hg45 S45
  rw [iL_filter] at hys44
  have len44 := filter_len (fun k : Int => !decide (k ∈ rch (stepsL y.lks) (flatL y.feats))) (rangeI y.lks.length)
  rw [rangeI_length] at len44
  have f44 : Few ((rangeI y.lks.length).filter fun k : Int => !decide (k ∈ rch (stepsL y.lks) (flatL y.feats))) := few_filter (few_range (by (first | lia | omega))) _
  refine ev_args_nil ⟨S45.hbk, ?_⟩
  have gl45 := ((gl42.trans le43).trans le44).trans le45
  refine (c_findings G (hr'.less (by decide)) S45.hp (it.mono gl45) (d2 := .str "idle") .str (.list hg45 (hys44.mono le45)) f44 (by (first | lia | omega))).use S45 fun u46 g46 h46 le46 iu46 S46 => ?_
  obtain ⟨a46, v46, c46, rfl, ga46, iss46⟩ := iu46.asList
  have l46 : v46.length < 64 := by rw [iss46.length, List.length_map]; exact srt_len f44
  refine ev_add_list (S46.getV (.head _)) (S46.frz _ _ ga46) (le_line (by (first | lia | omega))) ?_
  refine S46.push_frzK (lobj (vs40 ++ v46) 0) rfl fun g47 le47 hg47 S47 => ?_
  refine hT _ _ (hP _ g47 _ S47.ext (.list hg47 ?_))
  have issR47 := ((issR40.mono ((((le41.trans le43).trans le44).trans le45).trans le46)).append iss46).mono le47
  unfold numsL
  simp only [List.flatMap_cons, List.flatMap_nil, List.append_nil]
  simp only [List.append_assoc] at issR47 ⊢
  exact issR47
end
/-! ## plain laws: the ways -/
section
variable {steps : List (List Int)}
noncomputable def Rn (steps : List (List Int)) : Nat → Int → Int → Prop
  | 0, _, _ => False
  | t + 1, k, j => (j ∈ rowOf steps k ∧ okIn steps.length j) ∨ ∃ a, Rn steps t k a ∧ j ∈ rowOf steps a ∧ okIn steps.length j
theorem Rn.ok : ∀ {t : Nat} {k j : Int}, Rn steps t k j → okIn steps.length j
  | 0, _, _, h => h.elim
  | t + 1, _, _, .inl h => h.2
  | t + 1, _, _, .inr ⟨_, _, _, h⟩ => h
theorem Rn.up : ∀ {t : Nat} {k j : Int}, Rn steps t k j → Rn steps (t + 1) k j
  | 0, _, _, h => h.elim
  | t + 1, _, _, .inl h => .inl h
  | t + 1, _, _, .inr ⟨a, h1, h2⟩ => .inr ⟨a, h1.up, h2⟩
theorem rn_of_reach {k j : Int} (r : Reach steps (rowOf steps k) j) : ∃ s, Rn steps s k j := by
  induction r with
  | seed h1 h2 => exact ⟨1, .inl ⟨h1, h2⟩⟩
  | step _ h2 h3 ih => obtain ⟨s, hs⟩ := ih; exact ⟨s + 1, .inr ⟨_, hs, h2, h3⟩⟩
theorem rn_stable {t : Nat} {k : Int} (h : ∀ j, Rn steps (t + 1) k j → Rn steps t k j) : ∀ (s : Nat) (j : Int), Rn steps s k j → Rn steps t k j
  | 0, _, q => q.elim
  | s + 1, j, .inl q => h j (.inl q)
  | s + 1, j, .inr ⟨a, q1, q2⟩ => h j (.inr ⟨a, rn_stable h s a q1, q2⟩)
noncomputable def lvl (steps : List (List Int)) (t : Nat) (k : Int) : List Int := (rangeI steps.length).filter fun j => @decide (Rn steps t k j) (Classical.propDecidable _)
theorem mem_lvl {t : Nat} {k j : Int} : j ∈ lvl steps t k ↔ Rn steps t k j := by
  unfold lvl
  rw [List.mem_filter, mem_rangeI]
  exact ⟨fun h => @of_decide_eq_true _ (Classical.propDecidable _) h.2, fun h => ⟨h.ok, @decide_eq_true _ (Classical.propDecidable _) h⟩⟩
theorem lvl_nodup (t : Nat) (k : Int) : (lvl steps t k).Nodup := nodup_of_lt ((pw_rangeI _).sublist List.filter_sublist)
theorem rn_grow (k : Int) : ∀ t : Nat, (∀ s j, Rn steps s k j → Rn steps t k j) ∨ t ≤ (lvl steps t k).length
  | 0 => .inr (Nat.zero_le _)
  | t + 1 => by
    rcases rn_grow k t with h | h
    · exact .inl fun s j q => (h s j q).up
    · by_cases q : ∀ j, Rn steps (t + 1) k j → Rn steps t k j
      · exact .inl fun s j r => (rn_stable q s j r).up
      · obtain ⟨j, hj⟩ := Classical.not_forall.mp q
        have h1 : Rn steps (t + 1) k j := Classical.byContradiction fun c => hj fun r => absurd r c
        have h2 : ¬ Rn steps t k j := fun c => hj fun _ => c
        refine .inr ?_
        have := nodup_le (j :: lvl steps t k) (lvl steps (t + 1) k) (List.nodup_cons.mpr ⟨fun c => h2 (mem_lvl.mp c), lvl_nodup _ _⟩) fun x hx => by
          rcases List.mem_cons.mp hx with rfl | hx
          · exact mem_lvl.mpr h1
          · exact mem_lvl.mpr (mem_lvl.mp hx).up
        rw [List.length_cons] at this; (first | lia | omega)
theorem rn_full {k j : Int} (r : Reach steps (rowOf steps k) j) : Rn steps steps.length k j := by
  obtain ⟨s, hs⟩ := rn_of_reach r
  rcases rn_grow (steps := steps) k steps.length with h | h
  · exact h s j hs
  · refine Classical.byContradiction fun c => ?_
    have := nodup_le (j :: lvl steps steps.length k) (rangeI steps.length) (List.nodup_cons.mpr ⟨fun q => c (mem_lvl.mp q), lvl_nodup _ _⟩) fun x hx => by
      rcases List.mem_cons.mp hx with rfl | hx
      · exact mem_rangeI.mpr r.ok
      · exact mem_rangeI.mpr (mem_lvl.mp hx).ok
    rw [List.length_cons, rangeI_length] at this; (first | lia | omega)
theorem reach_trans {seeds : List Int} {a j : Int} (h : Reach steps seeds a) (r : Reach steps (rowOf steps a) j) : Reach steps seeds j := by
  induction r with
  | seed h1 h2 => exact .step h h1 h2
  | step _ h2 h3 ih => exact .step ih h2 h3
theorem wupd_row {n : Nat} {W : List (List Int)} (h : WOk n W) {x k : Int} (hx : okIn n x) (hk : okIn n k) {j : Int} : j ∈ rowOf (wupd W x) k ↔ j ∈ rowOf W k ∨ (k = x ∧ j ∈ furL W x) := by
  unfold wupd
  rw [rowOf_set (by rw [h.len]; exact hx) (by rw [h.len]; exact hk)]
  by_cases q : k = x
  · subst q; rw [if_pos rfl, mem_srt, List.mem_append]; simp
  · rw [if_neg q]; simp [q]
theorem mem_furL' {W : List (List Int)} {k a j : Int} (ha : a ∈ rowOf W k) (hj : j ∈ rowOf W a) : j ∈ rowOf W k ∨ j ∈ furL W k := by
  by_cases q : j ∈ rowOf W k
  · exact .inl q
  · exact .inr (List.mem_flatMap.mpr ⟨a, ha, List.mem_filter.mpr ⟨hj, by simp [q]⟩⟩)
noncomputable def WSound (steps W : List (List Int)) : Prop := ∀ k, okIn steps.length k → ∀ j ∈ rowOf W k, Reach steps (rowOf steps k) j
theorem WSound.upd {W : List (List Int)} (o : WOk steps.length W) (h : WSound steps W) {x : Int} (hx : okIn steps.length x) : WSound steps (wupd W x) := fun k hk j hj => by
  rcases (wupd_row o hx hk).mp hj with q | ⟨rfl, q⟩
  · exact h k hk j q
  · obtain ⟨a, ha, hj⟩ := List.mem_flatMap.mp q
    have hja := (List.mem_filter.mp hj).1
    exact reach_trans (h k hk a ha) (h a ((o.row k hk).2 a ha) j hja)
theorem WSound.fold : ∀ (l : List Int) {W : List (List Int)}, (∀ k ∈ l, okIn steps.length k) → WOk steps.length W → WSound steps W → WSound steps (l.foldl wupd W)
  | [], _, _, _, h => h
  | x :: r, _, hl, o, h => WSound.fold r (fun k hk => hl k (.tail _ hk)) (o.upd (hl x (.head _))) (h.upd o (hl x (.head _)))
theorem WSound.fold2 : ∀ (l : List Int) {W : List (List Int)}, WOk steps.length W → WSound steps W → WSound steps (l.foldl (fun W _ => (rangeI steps.length).foldl wupd W) W)
  | [], _, _, h => h
  | x :: r, _, o, h => WSound.fold2 r (o.fold _ fun k hk => mem_rangeI.mp hk) (h.fold _ (fun k hk => mem_rangeI.mp hk) o)
theorem fold_grow {n : Nat} : ∀ (l : List Int) {W : List (List Int)}, (∀ k ∈ l, okIn n k) → WOk n W → ∀ {k j : Int}, okIn n k → j ∈ rowOf W k → j ∈ rowOf (l.foldl wupd W) k
  | [], _, _, _, _, _, _, h => h
  | x :: r, _, hl, o, _, _, hk, h => fold_grow r (fun k hk => hl k (.tail _ hk)) (o.upd (hl x (.head _))) hk ((wupd_row o (hl x (.head _)) hk).mpr (.inl h))
theorem fold_two {n : Nat} : ∀ (l : List Int) {W : List (List Int)}, (∀ k ∈ l, okIn n k) → WOk n W → ∀ {k a j : Int}, k ∈ l → a ∈ rowOf W k → j ∈ rowOf W a → j ∈ rowOf (l.foldl wupd W) k
  | x :: r, W, hl, o, k, a, j, hk, ha, hj => by
    have hx := hl x (.head _)
    have hk0 := hl k hk
    have hr : ∀ k ∈ r, okIn n k := fun k hk => hl k (.tail _ hk)
    have ha0 := (o.row k hk0).2 a ha
    rw [List.foldl_cons]
    by_cases q : k = x
    · refine fold_grow r hr (o.upd hx) hk0 ((wupd_row o hx hk0).mpr ?_)
      rcases mem_furL' ha hj with h | h
      · exact .inl h
      · exact .inr ⟨q, by rwa [q] at h⟩
    · have hkr : k ∈ r := by rcases List.mem_cons.mp hk with h | h; exact absurd h q; exact h
      exact fold_two r hr (o.upd hx) hkr ((wupd_row o hx hk0).mpr (.inl ha)) ((wupd_row o hx ha0).mpr (.inl hj))
noncomputable def WComp (steps : List (List Int)) (t : Nat) (W : List (List Int)) : Prop := ∀ k, okIn steps.length k → ∀ j, Rn steps t k j → j ∈ rowOf W k
theorem rn_one {t : Nat} {k j : Int} (h : Rn steps 1 k j) : Rn steps (t + 1) k j := by
  rcases h with h | ⟨_, h, _⟩
  · exact .inl h
  · exact h.elim
theorem WComp.sweep {t : Nat} {W : List (List Int)} (o : WOk steps.length W) (h : WComp steps (t + 1) W) : WComp steps (t + 2) ((rangeI steps.length).foldl wupd W) := fun k hk j hj => by
  rcases hj with q | ⟨a, q1, q2, q3⟩
  · exact fold_grow _ (fun k hk => mem_rangeI.mp hk) o hk (h k hk j (.inl q))
  · exact fold_two _ (fun k hk => mem_rangeI.mp hk) o (mem_rangeI.mpr hk) (h k hk a q1) (h a q1.ok j (.inl ⟨q2, q3⟩))
theorem WComp.fold2 : ∀ (l : List Int) {W : List (List Int)} {t : Nat}, WOk steps.length W → WComp steps (t + 1) W → WComp steps (t + 1 + l.length) (l.foldl (fun W _ => (rangeI steps.length).foldl wupd W) W)
  | [], _, _, _, h => h
  | x :: r, _, t, o, h => by
    have := WComp.fold2 r (t := t + 1) (o.fold _ fun k hk => mem_rangeI.mp hk) (h.sweep o)
    rw [List.foldl_cons, List.length_cons]
    rwa [show t + 1 + (r.length + 1) = t + 1 + 1 + r.length from by (first | lia | omega)]
theorem rn_le {k j : Int} : ∀ {t s : Nat}, t ≤ s → Rn steps t k j → Rn steps s k j := fun {t s} h r => by
  induction h with
  | refl => exact r
  | step _ ih => exact ih.up
theorem ways_row {k : Int} (hk : okIn steps.length k) : rowOf (waysL steps) k = rch steps (rowOf steps k) := by
  refine eq_rch ((waysL_ok steps).row k hk).1 fun j => ⟨fun hj => ?_, fun r => ?_⟩
  · have s0 : WSound steps (ways0 steps) := fun k hk j hj => by
      unfold ways0 at hj
      rw [rowOf_map hk, List.mem_filter, mem_rangeI, decide_eq_true_iff] at hj
      exact .seed hj.2 hj.1
    exact s0.fold2 (rangeI steps.length) (ways0_ok steps) k hk j hj
  · have c0 : WComp steps (0 + 1) (ways0 steps) := fun k hk j hj => by
      unfold ways0
      rw [rowOf_map hk, List.mem_filter, mem_rangeI, decide_eq_true_iff]
      rcases hj with q | ⟨_, q, _⟩
      · exact ⟨q.2, q.1⟩
      · exact q.elim
    have := c0.fold2 (rangeI steps.length) (ways0_ok steps)
    rw [rangeI_length] at this
    exact this k hk j (rn_le (by (first | lia | omega)) (rn_full r))
/-! ## the depths -/
theorem map_congr' {α β : Type} {f g : α → β} : ∀ {l : List α}, (∀ a ∈ l, f a = g a) → l.map f = l.map g := fun h => List.map_congr_left h
theorem lng_stable : ∀ (N : Nat) {k : Int}, okIn steps.length k → lostB steps k = false → (rch steps [k]).length ≤ N → lng steps (N + 1) k = lng steps N k
  | 0, k, hk, _, h => by have := rch_pos hk; (first | lia | omega)
  | N + 1, k, hk, hl, h => by
    show mx _ = mx _
    refine congrArg mx (map_congr' fun j hj => ?_)
    obtain ⟨h1, h2⟩ := mem_fitR.mp hj
    have := rch_less hk hl h1 h2
    rw [lng_stable N h2 (lost_step hk hl h1) (by (first | lia | omega))]
theorem lng_fix {k : Int} (hk : okIn steps.length k) (hl : lostB steps k = false) : lng steps steps.length k = mx ((fitR steps.length (rowOf steps k)).map fun j => lng steps steps.length j + 1) := by
  have h1 := rch_len steps [k]
  have h2 := rch_pos hk
  obtain ⟨N, hN⟩ : ∃ N, steps.length = N + 1 := ⟨steps.length - 1, by (first | lia | omega)⟩
  have e : lng steps steps.length k = mx ((fitR steps.length (rowOf steps k)).map fun j => 1 + lng steps N j) := by
    have : lng steps (N + 1) k = mx ((fitR steps.length (rowOf steps k)).map fun j => 1 + lng steps N j) := rfl
    rw [← this, ← hN]
  rw [e]
  refine congrArg mx (map_congr' fun j hj => ?_)
  obtain ⟨q1, q2⟩ := mem_fitR.mp hj
  have := rch_less hk hl q1 q2
  have := lng_stable N q2 (lost_step hk hl q1) (by (first | lia | omega))
  rw [← hN] at this
  rw [this]; (first | lia | omega)
structure DInv (steps : List (List Int)) (t i : Nat) (f : List Int) : Prop where
  len : f.length = steps.length
  lost : ∀ k, okIn steps.length k → lostB steps k = true → f.getD k.toNat 0 = -1
  pos : ∀ k, okIn steps.length k → lostB steps k = false → 0 ≤ f.getD k.toNat 0
  old : ∀ k, okIn steps.length k → lostB steps k = false → (rch steps [k]).length ≤ t → f.getD k.toNat 0 = lng steps steps.length k
  new : ∀ k, okIn steps.length k → lostB steps k = false → k < (i : Int) → (rch steps [k]).length ≤ t + 1 → f.getD k.toNat 0 = lng steps steps.length k
theorem getD_set {f : List Int} {a b : Int} {v : Int} (ha : okIn f.length a) (hb : okIn f.length b) : (f.set a.toNat v).getD b.toNat 0 = if b = a then v else f.getD b.toNat 0 := by
  unfold okIn at ha hb
  have hb' : b.toNat < f.length := by (first | lia | omega)
  by_cases q : b = a
  · subst q; simp [List.getD, List.getElem?_set, hb']
  · have : a.toNat ≠ b.toNat := by (first | lia | omega)
    simp [List.getD, List.getElem?_set, this, q]
theorem dinv_upd {t i : Nat} {f : List Int} (h : DInv steps t i f) (hi : i < steps.length) : DInv steps t (i + 1) (upd steps f i) := by
  have hik := okIn_nat hi
  cases hl : lostB steps i with
  | true =>
    have e : upd steps f i = f := by unfold upd; rw [if_neg]; rw [h.lost _ hik hl]; (first | lia | omega)
    rw [e]
    refine ⟨h.len, h.lost, h.pos, h.old, fun k hk hlk hki hm => ?_⟩
    by_cases q : k = (i : Int)
    · subst q; rw [hl] at hlk; cases hlk
    · exact h.new k hk hlk (by (first | lia | omega)) hm
  | false =>
    have hv : (rch steps [(i : Int)]).length ≤ t + 1 → mx ((fitR steps.length (rowOf steps i)).map fun j => f.getD j.toNat 0 + 1) = lng steps steps.length i := fun hm => by
      rw [lng_fix hik hl]
      refine congrArg mx (map_congr' fun j hj => ?_)
      obtain ⟨q1, q2⟩ := mem_fitR.mp hj
      have := rch_less hik hl q1 q2
      rw [h.old j q2 (lost_step hik hl q1) (by (first | lia | omega))]
    have e : upd steps f i = f.set (i : Int).toNat (mx ((fitR steps.length (rowOf steps i)).map fun j => f.getD j.toNat 0 + 1)) := by unfold upd; rw [if_pos]; exact h.pos _ hik hl
    have hset : ∀ k, okIn steps.length k → (upd steps f i).getD k.toNat 0 = if k = (i : Int) then mx ((fitR steps.length (rowOf steps i)).map fun j => f.getD j.toNat 0 + 1) else f.getD k.toNat 0 := fun k hk => by
      rw [e]; exact getD_set (by rw [h.len]; exact hik) (by rw [h.len]; exact hk)
    refine ⟨by rw [upd_len]; exact h.len, fun k hk hlk => ?_, fun k hk hlk => ?_, fun k hk hlk hm => ?_, fun k hk hlk hki hm => ?_⟩
    · rw [hset k hk, if_neg (by rintro rfl; rw [hl] at hlk; cases hlk)]; exact h.lost k hk hlk
    · rw [hset k hk]; split
      · exact mx_nonneg _
      · exact h.pos k hk hlk
    · rw [hset k hk]; split
      · rename_i q; subst q; exact hv (by (first | lia | omega))
      · exact h.old k hk hlk hm
    · rw [hset k hk]; split
      · rename_i q; subst q; exact hv hm
      · exact h.new k hk hlk (by (first | lia | omega)) hm
theorem DInv.sweepTo {t : Nat} {f : List Int} (h : DInv steps t 0 f) : ∀ i, i ≤ steps.length → DInv steps t i (((rangeI steps.length).take i).foldl (upd steps) f)
  | 0, _ => h
  | i + 1, hi => by
    rw [foldl_snoc _ _ (rangeI_at (Nat.lt_of_succ_le hi))]
    exact dinv_upd (h.sweepTo i (by (first | lia | omega))) (Nat.lt_of_succ_le hi)
theorem dinv_sweep {t : Nat} {f : List Int} (h : DInv steps t 0 f) : DInv steps (t + 1) 0 (sweep steps f) := by
  have q := h.sweepTo steps.length (Nat.le_refl _)
  rw [List.take_of_length_le (by rw [rangeI_length]; (first | lia | omega))] at q
  exact ⟨q.len, q.lost, q.pos, fun k hk hl hm => q.new k hk hl hk.2 hm, fun k hk hl hki _ => by have := hk.1; (first | lia | omega)⟩
theorem DInv.sweeps : ∀ (l : List Int) {t : Nat} {f : List Int}, DInv steps t 0 f → DInv steps (t + l.length) 0 (l.foldl (fun f _ => sweep steps f) f)
  | [], _, _, h => h
  | x :: r, t, _, h => by
    have := DInv.sweeps r (dinv_sweep h)
    rw [List.foldl_cons, List.length_cons, show t + (r.length + 1) = t + 1 + r.length from by (first | lia | omega)]; exact this
theorem baseL_at {k : Int} (hk : okIn steps.length k) : (baseL steps).getD k.toNat 0 = if lostB steps k = true then -1 else 0 := by
  have h := hk
  unfold okIn at h
  have e : ((k.toNat : Nat) : Int) = k := by (first | lia | omega)
  have : (baseL steps)[k.toNat]? = some (if lostB steps k = true then -1 else 0) := by
    unfold baseL
    rw [List.getElem?_map, rangeI_at (by (first | lia | omega)), e]; rfl
  rw [List.getD_eq_getElem?_getD, this]; rfl
theorem deps_at {k : Int} (hk : okIn steps.length k) : (depsL steps).getD k.toNat 0 = if lostB steps k = true then -1 else lng steps steps.length k := by
  have b : DInv steps 0 0 (baseL steps) := ⟨baseL_len steps, fun k hk hl => by rw [baseL_at hk, if_pos hl], fun k hk hl => by rw [baseL_at hk, hl]; simp, fun k hk hl hm => by have := rch_pos hk; (first | lia | omega), fun k hk hl hki _ => by have := hk.1; (first | lia | omega)⟩
  have q := b.sweeps (rangeI steps.length)
  cases hl : lostB steps k with
  | true => rw [if_pos rfl]; exact q.lost k hk hl
  | false =>
    rw [if_neg (by simp)]
    refine q.old k hk hl ?_
    rw [rangeI_length]; have := rch_len steps [k]; (first | lia | omega)
theorem deps_eq : depsL steps = (rangeI steps.length).map fun k => if lostB steps k = true then -1 else lng steps steps.length k := by
  refine List.ext_getElem? fun i => ?_
  by_cases q : i < steps.length
  · rw [List.getElem?_map, rangeI_at q, getD_at (by rw [depsL_len]; exact q)]
    have := deps_at (okIn_nat q)
    rw [show ((i : Int).toNat) = i from by (first | lia | omega)] at this
    rw [this]; rfl
  · rw [List.getElem?_eq_none (by rw [depsL_len]; (first | lia | omega)), List.getElem?_eq_none (by rw [List.length_map, rangeI_length]; (first | lia | omega))]
/-! ## rings, lost, live -/
theorem rings_law : (rangeI steps.length).filter (fun k => decide (k ∈ rowOf (waysL steps) k)) = ringsL steps := by
  unfold ringsL
  refine List.filter_congr fun k hk => ?_
  rw [ways_row (mem_rangeI.mp hk)]
theorem lost_law {k : Int} (hk : okIn steps.length k) : ((k :: rowOf (waysL steps) k).any fun j => decide (j ∈ ringsL steps)) = lostB steps k := by
  unfold lostB
  rw [Bool.eq_iff_iff, any_iff, any_iff, ways_row hk]
  constructor
  · rintro ⟨j, h1, h2⟩
    refine ⟨j, mem_rch.mpr ((reach_one hk).mpr ?_), h2⟩
    rcases List.mem_cons.mp h1 with rfl | h1
    · exact .inl rfl
    · exact .inr (mem_rch.mp h1)
  · rintro ⟨j, h1, h2⟩
    refine ⟨j, ?_, h2⟩
    rcases (reach_one hk).mp (mem_rch.mp h1) with rfl | h1
    · exact .head _
    · exact .tail _ (mem_rch.mpr h1)
/-- what the law calls live -/
noncomputable def liveL (steps : List (List Int)) (told : List Int) : List Int := told.flatMap fun k => if decide (k < (steps.length : Int)) = true then k :: rowOf (waysL steps) k else []
theorem mem_live {told : List Int} (hpos : ∀ k ∈ told, 0 ≤ k) {j : Int} : j ∈ liveL steps told ↔ Reach steps told j := by
  unfold liveL
  rw [List.mem_flatMap]
  constructor
  · rintro ⟨k, hk, hj⟩
    split at hj
    · rename_i q
      have hok : okIn steps.length k := ⟨hpos k hk, of_decide_eq_true q⟩
      rw [ways_row hok] at hj
      refine reach_row hk ((reach_one hok).mpr ?_)
      rcases List.mem_cons.mp hj with rfl | hj
      · exact .inl rfl
      · exact .inr (mem_rch.mp hj)
    · cases hj
  · intro r
    have : ∃ k, k ∈ told ∧ okIn steps.length k ∧ Reach steps [k] j := by
      induction r with
      | @seed k h1 h2 => exact ⟨k, h1, h2, reach_self h2⟩
      | step _ h2 h3 ih => obtain ⟨k, a, b, c⟩ := ih; exact ⟨k, a, b, .step c h2 h3⟩
    obtain ⟨k, h1, h2, h3⟩ := this
    refine ⟨k, h1, ?_⟩
    rw [if_pos (decide_eq_true h2.2), ways_row h2]
    rcases (reach_one h2).mp h3 with rfl | h
    · exact .head _
    · exact .tail _ (mem_rch.mpr h)
theorem live_srt {told : List Int} (hpos : ∀ k ∈ told, 0 ≤ k) : srt (liveL steps told) = rch steps told := eq_rch (pw_srt _) fun k => by rw [mem_srt, mem_live hpos]
end
noncomputable def lawSt (i : Nat) : Stmt := d_law.body.getD i (.Pass default)
noncomputable def forBody : Stmt → List Stmt | .For _ _ b _ _ => b | _ => []
noncomputable abbrev lawEnv (cx : CallX) : Env := cEnv d_law "law" "law" cx
section
variable {prog : Program} {w : World} {A : Around} {B : Bs} {g g' : Gm} {V V' : List (Addr × Obj)} {env : Env} {m : Str → Option Value} {h h' hb : Heap} {K : Frag} {mg mb : Str → Option Value} {ad : Ads} {C fI : Addr}
noncomputable def SrcAt (g : Gm) (o : Obj) : Prop := ∃ c at_ t n ws k ms, o = srcO c at_ t n ∧ 0 ≤ at_ ∧ g c = some (lobj ws k) ∧ IntsAre ws ms ∧ 0 < ws.length ∧ ws.length < 1000
theorem SrcAt.mono {o : Obj} (x : SrcAt g o) (le : GLe g g') : SrcAt g' o := by
  obtain ⟨c, a, t, n, ws, k, ms, e, h1, h2, h3⟩ := x
  exact ⟨c, a, t, n, ws, k, ms, e, h1, le _ _ h2, h3⟩
/-- _law_draw(source, e) -/
theorem ev_draw {e : Expr} {p1 p2 p3 : Pos} {SR : Addr} {o : Obj} {lim : Int} {P : Value → Heap → Prop} (f : Obj → List (Addr × Obj)) (u : ∀ o o', VU SR o o' (f o) (f o')) (S : St B g (f o) env m h) (G : Gd K mg mb B.hb ad) (hr : Room A 1) (so : SrcAt g o) (hv : m "source" = some (.ref SR))
    (y : ∀ Q : Value → Heap → Prop, (∀ t, Q (.int lim t) h) → Ev prog w A (eval e env) h Q) (hlim : 0 < lim)
    (hP : ∀ r t h' o', 0 ≤ r → r < lim → SrcAt g o' → St B g (f o') env m h' → P (.int r t) h')
    (he : starEach [.Name "source" p2, e] env = [(false, eval (.Name "source" p2) env), (false, eval e env)] := by rfl)
    (hk : isVar env "source" = true := by rfl) (hkf : env.kindOf "_law_draw" = some .globalImplicit := by rfl) (hg : env.globals = mainGlobals := by rfl) :
    Ev prog w A (eval (.Call (.Name "_law_draw" p1) [.Name "source" p2, e] [] p3) env) h P := by
  obtain ⟨c, at_, t, n, ws, k, ms, rfl, h0, hc, hi, hpos, hz⟩ := so
  have hs := S.getV (u (srcO c at_ t n) (srcO c at_ t n)).mem
  have hsg := S.volg _ (u (srcO c at_ t n) (srcO c at_ t n)).mem
  refine ev_callD S G.cx G.draw (ev_args_cons (ev_var S hv (ev_args_cons (y _ fun tl => ev_args_nil ⟨S.hbk, ?_⟩) ?_) hk (by rfl)) ?_) hkf (by rfl) hg (by rw [he]; rfl)
  · refine c_draw G hr.depth S.hp hs hsg hc hi h0 hpos hz hlim fun r t' t'' h' hr0 hr1 E ho => ?_
    exact hP r t' h' _ hr0 hr1 ⟨c, at_ + 1, t'', n, ws, k, ms, rfl, by (first | lia | omega), hc, hi, hpos, hz⟩ (S.step1 E (u _ _) ho (lobj_nocell _ _))
  · exact congrArg (List.drop 1) he
  · rw [show starEach [e] env = [(false, eval e env)] from congrArg (List.drop 1) he]; exact he
theorem ev_intQ {k : Int} {n : Nat} {pos : Pos} : ∀ Q : Value → Heap → Prop, (∀ t, Q (.int k t) h) → Ev prog w A (eval (.Constant (.int k) n pos) env) h Q := fun Q q => ev_int q
/-- x + k -/
theorem ev_varPlusQ {x : Str} {j k : Int} {tj : Tok} {n : Nat} {p1 p2 pos : Pos} (S : St B g V env m h) (hx : m x = some (.int j tj)) (hk : isVar env x = true := by rfl) (hd : (x == ("__debug__" : Str)) = false := by rfl) :
    ∀ Q : Value → Heap → Prop, (∀ t, Q (.int (j + k) t) h) → Ev prog w A (eval (.BinOp (.Name x p1) .Add (.Constant (.int k) n p2) pos) env) h Q := fun Q q => ev_binop (ev_var S hx (ev_int fun t => ev_add q) hk hd)
theorem ev_ne_str {a b : Str} {t u : Tok} {P : Value → Heap → Prop} (x : P (.bool (!decide (a = b))) h) : Ev prog w A (compareOp .NotEq (.str a t) (.str b u)) h P := fun s E hs => PySem.P.ne_str ⟨Same.refl s, by
  rw [hs]
  have : (a.cps.toList != b.cps.toList) = !decide (a = b) := by
    by_cases e : a = b
    · subst e; simp
    · have : a.cps.toList ≠ b.cps.toList := fun q => e (by obtain ⟨x⟩ := a; obtain ⟨y⟩ := b; exact congrArg Str.mk (Array.toList_inj.mp q))
      rw [decide_eq_false e]; simpa using this
  rw [this]; exact x⟩
end
section
variable {prog : Program} {w : World} {A : Around} {B : Bs} {g g' : Gm} {V V' : List (Addr × Obj)} {env : Env} {m : Str → Option Value} {h h' hb : Heap} {K : Frag} {mg mb : Str → Option Value} {ad : Ads} {C fI : Addr}
inductive ChwK (B : Bs) (env : Env) (m : Str → Option Value) (g : Gm) (J : Gm → List (Addr × Obj) → Value → Prop) (v : Value) (h : Heap) : Prop
  | mk (g' : Gm) (V' : List (Addr × Obj)) : GLe g g' → J g' V' v → St B g' V' env m h → ChwK B env m g J v h
/-- a choice whose values meet again, draws within -/
theorem ev_ifexpW {test body orelse : Expr} {pos : Pos} {P : Value → Heap → Prop} (S : St B g V env m h) (J : Gm → List (Addr × Obj) → Value → Prop)
    (x : Ev prog w A (isTrue test env (eval test env)) h fun b h1 => if b = true then Ev prog w A (eval body env) h1 (ChwK B env m g J) else Ev prog w A (eval orelse env) h1 (ChwK B env m g J))
    (y : ∀ v g' V' h2, GLe g g' → J g' V' v → St B g' V' env m h2 → P v h2) : Ev prog w A (eval (.IfExp test body orelse pos) env) h P := by
  refine ev_ifexp (x.mono fun b h1 z => ?_)
  cases b with
  | true =>
    simp only [if_true] at z ⊢
    exact z.mono fun v h2 q => by obtain ⟨g', V', le, j, S'⟩ := q; exact y v g' V' h2 le j S'
  | false =>
    simp only [Bool.false_eq_true, if_false] at z ⊢
    exact z.mono fun v h2 q => by obtain ⟨g', V', le, j, S'⟩ := q; exact y v g' V' h2 le j S'
noncomputable def actOk (cnt : Nat) (a : Int × Int) : Prop := 0 ≤ a.1 ∧ a.1 < 3 ∧ 0 ≤ a.2 ∧ a.2 < (cnt : Int) + 2
inductive ActJ (prog : Program) (w : World) (cnt : Nat) (AC : Addr) (f : Obj → List (Addr × Obj)) (l : List (Str × Value)) (j : Nat) (g : Gm) (V : List (Addr × Obj)) (m : Str → Option Value) : Prop
  | mk (acts : List (Int × Int)) (vs : List Value) (c : Nat) (o' : Obj) : V = (AC, lobj vs c) :: f o' → Kn m l → SrcAt g o' → Iss prog w g vs (acts.map actD) → acts.length = j → (∀ x ∈ acts, actOk cnt x) → ActJ prog w cnt AC f l j g V m
inductive ActI (prog : Program) (w : World) (cnt : Nat) (AC : Addr) (f : Obj → List (Addr × Obj)) (l : List (Str × Value)) (kd : Str) (g : Gm) (V : List (Addr × Obj)) (m : Str → Option Value) : Prop
  | mk (acts : List (Int × Int)) (vs : List Value) (c : Nat) (o' : Obj) : V = (AC, lobj vs c) :: f o' → Kn m l → SrcAt g o' → Iss prog w g vs (acts.map actD) → acts.length ≤ 2 → (kd = ("single" : Str) → acts = []) → (∀ x ∈ acts, actOk cnt x) → ActI prog w cnt AC f l kd g V m
theorem law_acts {cx : CallX} {SR AC : Addr} {o : Obj} {f : Obj → List (Addr × Obj)} {l : List (Str × Value)} {kd : Str} {tk ti tc : Tok} {i cnt : Nat} {P : Flow → Heap → Prop}
    (S : St B g ((AC, lobj [] 0) :: f o) (lawEnv cx) m h) (G : Gd K mg mb B.hb ad) (hr : Room A 2) (u : ∀ o o', VU SR o o' (f o) (f o')) (so : SrcAt g o) (kn : Kn m l)
    (h1 : (("source" : Str), Value.ref SR) ∈ l) (hac : (("actions" : Str), Value.ref AC) ∈ l) (h3 : (("kind" : Str), Value.str kd tk) ∈ l) (h4 : (("number" : Str), Value.int i ti) ∈ l) (h5 : (("count" : Str), Value.int cnt tc) ∈ l) (hi : i < cnt)
    (n1 : (l.map (·.1)).contains ("turn" : Str) = false) (n2 : (l.map (·.1)).contains ("spot" : Str) = false) (n3 : (l.map (·.1)).contains ("goal" : Str) = false)
    (fin : ∀ acts g' m' vs c o' h', GLe g g' → Kn m' l → SrcAt g' o' → Iss prog w g' vs (acts.map actD) → acts.length ≤ 2 → (kd = ("single" : Str) → acts = []) → (∀ x ∈ acts, actOk cnt x) →
      St B g' ((AC, lobj vs c) :: f o') (lawEnv cx) m' h' → Ev prog w A (execs ((forBody (lawSt 6)).drop 7) (lawEnv cx)) h' P) :
    Ev prog w A (execs ((forBody (lawSt 6)).drop 6) (lawEnv cx)) h P := by
  refine ev_ifJ S (ActI prog w cnt AC f l kd)
    (ev_true_compare1 (ev_var S (kn.get h3) (ev_str fun t => ev_ne_str (ev_truthy_bool ?_)))) ?_
  · refine if_ndec (fun p => ?_) (fun p => ?_)
    · refine ev_cons (ev_forS S (ActJ prog w cnt AC f l) hr.hh
        (ev_callB S G.cx G.bi.range (fun _ => keepable_type _ _) (ev_args_cons (ev_draw (fun o => (AC, lobj [] 0) :: f o) (fun o o' => .tail (u o o')) S G (hr.less (by decide)) so (kn.get h1) ev_intQ (by decide) fun r t h2 o2 hr0 hr1 so2 S2 => ev_args_nil ?_))))
      obtain ⟨n, rfl⟩ := Int.eq_ofNat_of_zero_le hr0
      refine ev_range S2 (by (first | lia | omega)) fun rr g3 h3' le3 src3 S3 => ?_
      refine ForK.overR S3 src3 ⟨[], [], 0, o2, rfl, kn, so2.mono le3, .nil, rfl, fun x hx => nomatch hx⟩ ?_ ?_
      · rintro j tj g4 V4 m4 h4' I oI T2 hT2 hj le4 ⟨acts, vs, c, o4, rfl, kn4, so4, iss4, hl4, ho4⟩ S4
        refine ev_assign_name S4 (.inl ⟨rfl, rfl⟩) fun h5' S5 => ?_
        have kn5 := kn4.other (x := "turn") (v := .int j tj) n1
        -- spot
        refine ev_cons (ev_assign (ev_ifexpW S5 (fun g' V' v => ∃ r t o', v = .int r t ∧ 0 ≤ r ∧ r < 3 ∧ V' = (I, oI) :: (AC, lobj vs c) :: f o' ∧ SrcAt g' o')
          (ev_true_compare1 (ev_draw (fun o => (I, oI) :: (AC, lobj vs c) :: f o) (fun o o' => .tail (.tail (u o o'))) S5 G (hr.less (by decide)) so4 (kn5.get h1) ev_intQ (by decide) fun r t h6 o6 _ _ so6 S6 => ev_int fun t2 => ev_eq (ev_truthy_bool ?_))) ?_))
        · cases r == 0 with
          | true =>
            simp only [if_true]
            exact ev_draw (fun o => (I, oI) :: (AC, lobj vs c) :: f o) (fun o o' => .tail (.tail (u o o'))) S6 G (hr.less (by decide)) so6 (kn5.get h1) ev_intQ (by decide) fun r t h7 o7 a1 a2 so7 S7 => ⟨g4, _, GLe.refl _, ⟨r, t, o7, rfl, a1, a2, rfl, so7⟩, S7⟩
          | false =>
            simp only [Bool.false_eq_true, if_false]
            exact ev_int fun t => ⟨g4, _, GLe.refl _, ⟨0, t, o6, rfl, by decide, by decide, rfl, so6⟩, S6⟩
        rintro v7 g7 V7 h7 le7 ⟨r7, t7, o7, rfl, a71, a72, rfl, so7⟩ S7
        refine ev_store S7 (.inl ⟨rfl, rfl⟩) fun h8 S8 => ?_
        have kn8 := kn5.other (x := "spot") (v := .int r7 t7) n2
        -- goal
        refine ev_cons (ev_assign (ev_ifexpW S8 (fun g' V' v => ∃ r t o', v = .int r t ∧ 0 ≤ r ∧ r < (cnt : Int) + 2 ∧ V' = (I, oI) :: (AC, lobj vs c) :: f o' ∧ SrcAt g' o')
          (ev_true_compare1 (ev_draw (fun o => (I, oI) :: (AC, lobj vs c) :: f o) (fun o o' => .tail (.tail (u o o'))) S8 G (hr.less (by decide)) so7 (kn8.get h1) ev_intQ (by decide) fun r t h9 o9 _ _ so9 S9 => ev_int fun t2 => ev_gt (ev_truthy_bool ?_))) ?_))
        · cases decide (0 < r) with
          | true =>
            simp only [if_true]
            exact (ev_varPlusQ S9 (kn8.get h4)) _ fun t => ⟨g7, _, GLe.refl _, ⟨(i : Int) + 1, t, o9, rfl, by (first | lia | omega), by (first | lia | omega), rfl, so9⟩, S9⟩
          | false =>
            simp only [Bool.false_eq_true, if_false]
            exact ev_draw (fun o => (I, oI) :: (AC, lobj vs c) :: f o) (fun o o' => .tail (.tail (u o o'))) S9 G (hr.less (by decide)) so9 (kn8.get h1) (ev_varPlusQ S9 (kn8.get h5)) (by (first | lia | omega)) fun r t h10 o10 a1 a2 so10 S10 => ⟨g7, _, GLe.refl _, ⟨r, t, o10, rfl, a1, a2, rfl, so10⟩, S10⟩
        rintro v10 g10 V10 h10 le10 ⟨r10, t10, o10, rfl, a101, a102, rfl, so10⟩ S10
        refine ev_store S10 (.inl ⟨rfl, rfl⟩) fun h11 S11 => ?_
        have kn11 := kn8.other (x := "goal") (v := .int r10 t10) n3
        have hvl : vs.length ≤ 3 := by rw [iss4.length, List.length_map]; (first | lia | omega)
        refine ev_cons (ev_app S11 (kn11.get hac) (.tail _ (.head _)) (ev_tuple (ev_args_cons (ev_var S11 ((setM_ne (by decide)).trans (setM_self _ _ _)) (ev_args_cons (ev_var S11 (setM_self _ _ _) (ev_args_nil ⟨le_line (le_dec rfl), ?_⟩)))))))
        refine S11.push_frzK (tobj [.int r7 t7, .int r10 t10] 0) rfl fun g12 le12 hg12 S12 => ?_
        refine ⟨g12, _, _, vs, c, _, S12, (fun _ => .tail .head), by (first | lia | omega), fun h13 S13 => ev_nil (hT2 _ ⟨g12, _, _, (le7.trans le10).trans le12, ⟨acts ++ [(r7, r10)], _, _, o10, rfl, kn11, so10.mono le12, ?_, ?_, ?_⟩, S13⟩)⟩
        · rw [List.map_append]
          exact (iss4.mono ((le7.trans le10).trans le12)).append (.cons (.tup hg12 (.cons .int (.cons .int .nil))) .nil)
        · rw [List.length_append, hl4]; rfl
        · intro x hx
          rcases List.mem_append.mp hx with q | q
          · exact ho4 x q
          · rw [List.mem_singleton.mp q]; exact ⟨a71, a72, a101, a102⟩
      · rintro g4 V4 m4 h4' le4 ⟨acts, vs, c, o4, rfl, kn4, so4, iss4, hl4, ho4⟩ S4
        exact ev_nil ⟨g4, _, _, rfl, le3.trans le4, ⟨acts, vs, c, o4, rfl, kn4, so4, iss4, by (first | lia | omega), fun q => absurd q p, ho4⟩, S4⟩
    · exact ev_nil ⟨g, _, _, rfl, GLe.refl _, ⟨[], [], 0, o, rfl, kn, so, .nil, by simp, fun _ => rfl, fun x hx => nomatch hx⟩, S⟩
  · rintro g' V' m' h' le ⟨acts, vs, c, o', rfl, kn', so', iss, hl, hs, ho⟩ S'
    exact fin acts g' m' vs c o' h' le kn' so' iss hl hs ho S'
end
section
variable {prog : Program} {w : World} {A : Around} {B : Bs} {g g' : Gm} {V V' : List (Addr × Obj)} {env : Env} {m : Str → Option Value} {h h' hb : Heap} {K : Frag} {mg mb : Str → Option Value} {ad : Ads} {C fI : Addr}
theorem iss_rep {v : Value} {d : D} (i : Is prog w g v d) : ∀ n : Nat, Iss prog w g (List.replicate n v) (List.replicate n d)
  | 0 => .nil
  | n + 1 => .cons i (iss_rep i n)
/-- Rule((), (3,) * width, (), tuple(actions[..])) -/
theorem ev_mkRule {sl : Expr} {k1 k2 k3 k4 : Nat} {p1 p2 p3 p4 p5 p6 p7 p8 p9 p10 p11 : Pos} {wd : Nat} {tw : Tok} {vs' : List Value} {acts' : List (Int × Int)} {P : Value → Heap → Prop}
    (S : St B g V env m h) (G : Gd K mg mb B.hb ad) (hr : Room A 2) (hw : m "width" = some (.int wd tw)) (hwd : wd = 1 ∨ wd = 2)
    (y : ∀ g' h', GLe g g' → St B g' V env m h' → ∀ Q : Value → Heap → Prop, (∀ D h2, (∀ b o, h'.get? b = some o → h2.get? b = some o) → h'.get? D = none → h2.get? D = some (lobj vs' 0) → Q (.ref D) h2) → Ev prog w A (eval (.Subscript (.Name "actions" p8) sl p9) env) h' Q)
    (iss : Iss prog w g vs' (acts'.map actD)) (hz : vs'.length ≤ 100)
    (hP : ∀ v g' h', GLe g g' → Is prog w g' v (ruleD ad ⟨wd, acts'⟩) → St B g' V env m h' → P v h')
    (hk1 : isVar env "width" = true := by rfl) (hkr : env.kindOf "Rule" = some .globalImplicit := by rfl) (hkt : env.kindOf "tuple" = some .globalImplicit := by rfl) (hg : env.globals = mainGlobals := by rfl) (hbn : env.builtins = builtinsNs := by rfl) :
    Ev prog w A (eval (.Call (.Name "Rule" p1) [.Tuple [] k1 p2, .BinOp (.Tuple [.Constant (.int 3) k2 p3] k3 p4) .Mult (.Name "width" p5) p6, .Tuple [] k4 p7, .Call (.Name "tuple" p10) [.Subscript (.Name "actions" p8) sl p9] [] p11] [] pos) env) h P := by
  refine ev_callC S G.cx G.Rule.1 (ev_args_cons (ev_tuple (ev_args_nil ⟨le_line (le_dec rfl), ?_⟩))) hkr (by rfl) hg (by rfl)
  refine S.push_frzK (tobj [] 0) rfl fun g1 le1 hg1 S1 => ?_
  generalize h.objs.size = T1 at hg1 S1
  refine ev_args_cons (ev_binop (ev_tuple (ev_args_cons (ev_int fun t3 => ev_args_nil ⟨le_line (le_dec rfl), ?_⟩))))
  refine S1.push_frzK (tobj [.int 3 t3] 0) rfl fun g2 le2 hg2 S2 => ?_
  refine ev_var S2 hw (ev_mul_tup S2 hg2 (by (first | lia | omega)) fun T2 c2 g3 h3 le3 hg3 S3 => ?_) hk1 (by rfl)
  refine ev_args_cons (ev_tuple (ev_args_nil ⟨le_line (le_dec rfl), ?_⟩))
  refine S3.push_frzK (tobj [] 0) rfl fun g4 le4 hg4 S4 => ?_
  generalize h3.objs.size = T3 at hg4 S4
  have gl4 := ((le1.trans le2).trans le3).trans le4
  refine ev_args_cons (ev_callB S4 G.cx G.bi.tuple (fun _ => keepable_type _ _) (ev_args_cons (y _ _ gl4 S4 _ fun D h5 kp hD ho => ev_args_nil (ev_tuple_of ho (le_line (by (first | lia | omega))) fun T4 h6 kp2 hT hoT => ev_args_nil ?_))) hkt (by rfl) hg hbn (by rfl))
  have S5 := S4.keeps kp
  obtain ⟨g6, le6, hg6, S6⟩ := S5.grow1 kp2 hT hoT
  refine ⟨S6.hbk, ?_⟩
  refine mk_Rule (d0 := .tup []) (d1 := .tup (List.replicate wd (.int 3))) (d2 := .tup []) (d3 := .tup (acts'.map actD)) S6 G hr (.tup ((((le2.trans le3).trans le4).trans le6) _ _ hg1) .nil) (.tup ((le4.trans le6) _ _ hg3) ?_) (.tup (le6 _ _ hg4) .nil) (.tup hg6 (iss.mono (gl4.trans le6))) fun v g7 h7 le7 iv S7 => hP v g7 h7 ((gl4.trans le6).trans le7) iv S7
  have : (wd : Int).toNat = wd := by (first | lia | omega)
  rw [this]
  exact iss_rep .int wd
end
section
variable {prog : Program} {w : World} {A : Around} {B : Bs} {g g' : Gm} {V V' : List (Addr × Obj)} {env : Env} {m : Str → Option Value} {h h' hb : Heap} {K : Frag} {mg mb : Str → Option Value} {ad : Ads} {C fI : Addr}
inductive DiK (prog : Program) (w : World) (B : Bs) (g : Gm) (V : List (Addr × Obj)) (env : Env) (m : Str → Option Value) (T : Gm → D → Heap → Prop) (v : Value) (h : Heap) : Prop
  | mk (g' : Gm) (d : D) : GLe g g' → Is prog w g' v d → St B g' V env m h → T g' d h → DiK prog w B g V env m T v h
/-- {k: e} -/
theorem ev_dicti1 {k : Int} {n : Nat} {e : Expr} {p1 pos : Pos} {P : Value → Heap → Prop} (S : St B g V env m h) (G : Gd K mg mb B.hb ad)
    (y : ∀ D h1, St B g ((D, dictOf [] 0) :: V) env m h1 → Ev prog w A (eval e env) h1 (DiK prog w B g ((D, dictOf [] 0) :: V) env m fun g' d _ => ∀ u g'' h3, GLe g' g'' → Is prog w g'' u (.dicti [(k, d)]) → St B g'' V env m h3 → P u h3)) : Ev prog w A (eval (.Dict [some (.Constant (.int k) n p1)] [e] pos) env) h P := by
  refine ev_dict (intKind prog w) (pairs := [(eval (.Constant (.int k) n p1) env, do let x ← eval e env; standAt pos; Pure.pure x)]) S G.sm rfl (by simp) (by simp) fun D h1 hDW S1 => ev_pairs_cons (ev_int fun t => ev_then_stand ((y D h1 S1).mono fun v h2 ⟨g', d, le, iv, S2, fin⟩ => ev_pairs_nil ?_))
  refine ⟨[(k, v)], g', m, V, ⟨intKind_is _ _ _ _, rfl, trivial⟩, le, S2, fun g'' h3 o le2 hg hs hi S3 => fin _ g'' h3 le2 ?_ S3⟩
  exact Is.dicti (ns := [k]) (ds := [d]) hg hs hi rfl rfl (.cons (iv.mono le2) .nil)
/-- {'k': e} -/
theorem ev_dicts1 {k : Str} {n : Nat} {e : Expr} {p1 pos : Pos} {P : Value → Heap → Prop} (S : St B g V env m h) (G : Gd K mg mb B.hb ad)
    (y : ∀ D h1, St B g ((D, dictOf [] 0) :: V) env m h1 → Ev prog w A (eval e env) h1 (DiK prog w B g ((D, dictOf [] 0) :: V) env m fun g' d _ => ∀ u g'' h3, GLe g' g'' → Is prog w g'' u (.dicts [(k, d)]) → St B g'' V env m h3 → P u h3)) : Ev prog w A (eval (.Dict [some (.Constant (.str k) n p1)] [e] pos) env) h P := by
  refine ev_dict (PySem.strKind prog w) (pairs := [(eval (.Constant (.str k) n p1) env, do let x ← eval e env; standAt pos; Pure.pure x)]) S G.sm rfl (by simp) (by simp) fun D h1 hDW S1 => ev_pairs_cons (ev_str fun t => ev_then_stand ((y D h1 S1).mono fun v h2 ⟨g', d, le, iv, S2, fin⟩ => ev_pairs_nil ?_))
  refine ⟨[(k, v)], g', m, V, ⟨strKind_is _ _ _ _, rfl, trivial⟩, le, S2, fun g'' h3 o le2 hg hs hi S3 => fin _ g'' h3 le2 ?_ S3⟩
  exact Is.dicts (ns := [k]) (ds := [d]) hg hs hi rfl rfl (.cons (iv.mono le2) .nil)
/-- {'k': e, 'j': f} -/
theorem ev_dicts2 {k j : Str} {n1 n2 : Nat} {e f : Expr} {p1 p2 pos : Pos} {P : Value → Heap → Prop} (hne : k ≠ j) (S : St B g V env m h) (G : Gd K mg mb B.hb ad)
    (y : ∀ D h1, St B g ((D, dictOf [] 0) :: V) env m h1 → Ev prog w A (eval e env) h1 (DiK prog w B g ((D, dictOf [] 0) :: V) env m fun g' d h2 => Ev prog w A (eval f env) h2 (DiK prog w B g' ((D, dictOf [] 0) :: V) env m fun g2 d2 _ => ∀ u g'' h4, GLe g2 g'' → Is prog w g'' u (.dicts [(k, d), (j, d2)]) → St B g'' V env m h4 → P u h4))) : Ev prog w A (eval (.Dict [some (.Constant (.str k) n1 p1), some (.Constant (.str j) n2 p2)] [e, f] pos) env) h P := by
  refine ev_dict (PySem.strKind prog w) (pairs := [(eval (.Constant (.str k) n1 p1) env, do let x ← eval e env; standAt pos; Pure.pure x), (eval (.Constant (.str j) n2 p2) env, do let x ← eval f env; standAt pos; Pure.pure x)]) S G.sm rfl (by simp) (by simp) fun D h1 hDW S1 => ev_pairs_cons (ev_str fun t => ev_then_stand ((y D h1 S1).mono fun v h2 ⟨g', d, le, iv, S2, z⟩ => ev_pairs_cons (ev_str fun t2 => ev_then_stand (z.mono fun v2 h3 ⟨g2, d2, le2, iv2, S3, fin⟩ => ev_pairs_nil ?_))))
  refine ⟨[(k, v), (j, v2)], g2, m, V, ⟨strKind_is _ _ _ _, rfl, strKind_is _ _ _ _, rfl, trivial⟩, le.trans le2, S3, fun g'' h4 o le3 hg hs hi S4 => fin _ g'' h4 le3 ?_ S4⟩
  have e : merged ([] : List (Str × Value)) [(k, v), (j, v2)] = [(k, v), (j, v2)] := by
    unfold merged; simp [stored, hne]
  rw [e] at hi
  exact Is.dicts (ns := [k, j]) (ds := [d, d2]) hg hs hi rfl rfl (.cons ((iv.mono le2).mono le3) (.cons (iv2.mono le3) .nil))
/-- the tables of a lookup -/
theorem law_tables {cx : CallX} {AC : Addr} {l : List (Str × Value)} {k : Lk} {tk tw : Tok} {vs : List Value} {c : Nat} {P : Flow → Heap → Prop}
    (S : St B g V (lawEnv cx) m h) (G : Gd K mg mb B.hb ad) (hr : Room A 3) (kn : Kn m l)
    (h1 : (("kind" : Str), Value.str k.kind tk) ∈ l) (h2 : (("width" : Str), Value.int k.width tw) ∈ l) (h3 : (("actions" : Str), Value.ref AC) ∈ l)
    (hAC : g AC = some (lobj vs c)) (iss : Iss prog w g vs (k.acts.map actD)) (hz : k.acts.length ≤ 5) (hwd : k.width = 1 ∨ k.width = 2)
    (n1 : (l.map (·.1)).contains ("tables" : Str) = false) (n2 : (l.map (·.1)).contains ("rules" : Str) = false)
    (fin : ∀ tv g' m' h', GLe g g' → Kn m' (("tables", tv) :: l) → Is prog w g' tv (.list (k.tabs ad)) → St B g' V (lawEnv cx) m' h' → Ev prog w A (execs ((forBody (lawSt 6)).drop 10) (lawEnv cx)) h' P) :
    Ev prog w A (execs ((forBody (lawSt 6)).drop 9) (lawEnv cx)) h P := by
  have hvl : vs.length ≤ 5 := by rw [iss.length, List.length_map]; exact hz
  refine ev_ifJ S (fun g' V' m' => ∃ tv, V' = V ∧ Kn m' (("tables", tv) :: l) ∧ Is prog w g' tv (.list (k.tabs ad)))
    (ev_true_compare1 (ev_var S (kn.get h1) (ev_str fun t => ev_eq_str (ev_truthy_bool ?_)))) ?_
  · refine if_dec (fun p => ?_) (fun p => ?_)
    · refine ev_cons (ev_assign (ev_list (ev_args_cons (ev_callC S G.cx G.Single.1 (ev_args_cons (ev_dicti1 S G fun D h4 S4 => ev_int fun t4 => ⟨g, .int 4, GLe.refl _, .int, S4, fun u g5 h5 le5 iu S5 => ev_args_nil ⟨S5.hbk, ?_⟩⟩))))))
      refine mk_Single (d0 := .any) S5 G (hr.less (by decide)) .any fun v g6 h6 le6 iv S6 => ev_args_nil ⟨le_line (le_dec rfl), ?_⟩
      refine S6.push_frzK (lobj [v] 0) rfl fun g7 le7 hg7 S7 => ?_
      refine ev_store S7 (.inl ⟨rfl, rfl⟩) fun h8 S8 => ev_nil ⟨g7, _, _, rfl, (le5.trans le6).trans le7, ⟨_, rfl, kn.add n1, .list hg7 ?_⟩, S8⟩
      unfold Lk.tabs; rw [if_pos p]
      exact .cons (iv.mono le7) .nil
    · have etake : (slicePick vs.toArray none (some 1) none).toList = vs.take 1 := by
        exact (congrArg Array.toList (slicePick_upto' vs.toArray 1)).trans (by simp)
      have edrop : (slicePick vs.toArray (some 1) none none).toList = vs.drop 1 := by
        exact (congrArg Array.toList (slicePick_from' vs.toArray 1)).trans (by simp)
      refine ev_cons (ev_assign (ev_list (ev_args_cons (ev_mkRule (vs' := vs.take 1) (acts' := k.acts.take 1) S G (hr.less (by decide)) (kn.get h2) hwd (fun g' h' le' S' Q hQ => ev_subscript (ev_var S' (kn.get h3) (ev_slice_upto (ev_int fun t => ev_sliced (S'.frz _ _ (le' _ _ hAC)) .none (.int _ _) (by rw [sizeLine_eq]; (first | lia | omega)) fun D h2 kp hD ho => hQ D h2 kp hD (by rw [etake] at ho; exact ho))))) ?_ ?_ fun r1 g5 h5 le5 ir1 S5 => ?_))))
      · rw [List.map_take]; exact iss.take 1
      · simp; (first | lia | omega)
      refine ev_args_cons (ev_mkRule (vs' := vs.drop 1) (acts' := k.acts.drop 1) S5 G (hr.less (by decide)) (kn.get h2) hwd (fun g' h' le' S' Q hQ => ev_subscript (ev_var S' (kn.get h3) (ev_slice_from (ev_int fun t => ev_sliced (S'.frz _ _ ((le5.trans le') _ _ hAC)) (.int _ _) .none (by rw [sizeLine_eq]; (first | lia | omega)) fun D h2 kp hD ho => hQ D h2 kp hD (by rw [edrop] at ho; exact ho))))) ?_ ?_ fun r2 g6 h6 le6 ir2 S6 => ?_)
      · rw [List.map_drop]; exact (iss.mono le5).drop 1
      · simp; (first | lia | omega)
      refine ev_args_nil ⟨le_line (le_dec rfl), ?_⟩
      refine S6.push_frzK (lobj [r1, r2] 0) rfl fun g7 le7 hg7 S7 => ?_
      generalize h6.objs.size = RL at hg7 S7
      refine ev_store S7 (.inl ⟨rfl, rfl⟩) fun h8 S8 => ?_
      have kn8 := kn.add (x := "rules") (v := .ref RL) n2
      refine ev_cons (ev_assign (ev_list (ev_args_cons (ev_callC S8 G.cx G.Contexts.1 (ev_args_cons (ev_int fun t9 => ev_args_cons (ev_compare1 (ev_var S8 (kn8.get (.tail _ h1)) (ev_str fun t => ev_eq_str (ev_args_cons (ev_dicti1 S8 G fun D h10 S10 => ev_var S10 kn8.g0 ⟨g7, .list [ruleD ad ⟨k.width, k.acts.take 1⟩, ruleD ad ⟨k.width, k.acts.drop 1⟩], GLe.refl _, .list hg7 (.cons ((ir1.mono le6).mono le7) (.cons (ir2.mono le7) .nil)), S10, fun u g11 h11 le11 iu S11 => ev_args_nil ⟨S11.hbk, ?_⟩⟩)))))))))))
      refine mk_Contexts (d1 := .int 1) (d2 := .bool (decide (k.kind = ("chain" : Str)))) S11 G (hr.less (by decide)) .int .bool iu fun v g12 h12 le12 iv S12 => ev_args_nil ⟨le_line (le_dec rfl), ?_⟩
      refine S12.push_frzK (lobj [v] 0) rfl fun g13 le13 hg13 S13 => ?_
      generalize h12.objs.size = TL at hg13 S13
      have kn13 : Kn (setM (setM m "rules" (.ref RL)) "tables" (.ref TL)) (("tables", .ref TL) :: l) := .cons (setM_self _ _ _) ((kn8.tl).other n1)
      refine ev_store S13 (.inl ⟨rfl, rfl⟩) fun h14 S14 => ev_nil ⟨g13, _, _, rfl, ((((le5.trans le6).trans le7).trans le11).trans le12).trans le13, ⟨_, rfl, kn13, .list hg13 ?_⟩, S14⟩
      unfold Lk.tabs; rw [if_neg p]
      exact .cons (iv.mono le13) .nil
  · rintro g' V' m' h' le ⟨tv, rfl, kn', itv⟩ S'
    exact fin tv g' m' h' le kn' itv S'
end
noncomputable def lkOk (cnt : Nat) (k : Lk) : Prop := k.Ok ∧ (k.width = 1 ∨ k.width = 2) ∧ (k.flag = 0 ∨ k.flag = 8 ∨ k.flag = 16) ∧ (0 ≤ k.mark ∧ k.mark < 3) ∧ ∀ x ∈ k.acts, actOk cnt x
structure LkInv (prog : Program) (w : World) (ad : Ads) (g : Gm) (cnt i : Nat) (lks : List Lk) (vse vpl vst vll : List Value) : Prop where
  len : lks.length = i
  ok : ∀ k ∈ lks, lkOk cnt k
  ill : Iss prog w g vll (lks.map (lkD ad))
  ist : Iss prog w g vst ((stepsL lks).map fun r => .list (iL r))
  ipl : IntsAre vpl (placesL lks)
  ise : IntsAre vse (setsL lks)
theorem stepsL_snoc (lks : List Lk) (k : Lk) : stepsL (lks ++ [k]) = stepsL lks ++ [srt (k.acts.map (·.2))] := by unfold stepsL; simp
theorem setsL_snoc (lks : List Lk) (k : Lk) : setsL (lks ++ [k]) = setsL lks ++ (if k.flag = 16 then [k.mark] else []) := by
  unfold setsL
  rw [List.filter_append, List.map_append]
  by_cases q : k.flag = 16
  · simp [q]
  · simp [q]
theorem placesL_snoc (lks : List Lk) (k : Lk) : placesL (lks ++ [k]) = placesL lks ++ (if lkBeh k = true then [(lks.length : Int)] else []) := by
  unfold placesL
  have e : rangeI (lks ++ [k]).length = rangeI lks.length ++ [(lks.length : Int)] := by
    unfold rangeI; rw [List.length_append, List.length_singleton, List.range_succ, List.map_append]; rfl
  rw [e, List.filter_append]
  have e1 : (rangeI lks.length).filter (placeB (lks ++ [k])) = (rangeI lks.length).filter (placeB lks) := List.filter_congr fun i hi => by
    have := mem_rangeI.mp hi
    unfold okIn at this
    unfold placeB
    rw [List.getElem?_append_left (by (first | lia | omega))]
  have e2 : placeB (lks ++ [k]) (lks.length : Int) = lkBeh k := by
    unfold placeB
    rw [show ((lks.length : Int).toNat) = lks.length from by (first | lia | omega), List.getElem?_append_right (Nat.le_refl _)]
    simp
  rw [e1]
  by_cases q : lkBeh k = true
  · simp [e2, q]
  · simp [e2, q]
theorem behActs {k : Lk} (ok : k.Ok) : lkBeh k = k.acts.any fun a => decide (a.1 ≥ (k.width : Int)) := by
  unfold lkBeh
  rw [any_behind]
  by_cases q : k.kind = ("single" : Str)
  · rw [ok.one q]; simp
  · rw [(isCtx_iff ok).mpr q, Bool.true_and]
theorem behF_empty {acts : List (Int × Int)} {wd : Int} : ((acts.filterMap fun a => if decide (a.1 ≥ wd) = true then some (D.int a.1) else none) = []) ↔ acts.any (fun a => decide (a.1 ≥ wd)) = false := by
  induction acts with
  | nil => simp
  | cons x r ih =>
    rw [List.filterMap_cons, List.any_cons]
    by_cases q : x.1 ≥ wd
    · simp [q]
    · simp only [q, decide_false, Bool.false_eq_true, if_false, Bool.false_or]; exact ih
section
variable {prog : Program} {w : World} {A : Around} {B : Bs} {g g' : Gm} {V V' : List (Addr × Obj)} {env : Env} {m : Str → Option Value} {h h' hb : Heap} {K : Frag} {mg mb : Str → Option Value} {ad : Ads} {C fI : Addr}
noncomputable abbrev lkV (SE PL ST LL SR : Addr) (vse vpl vst vll : List Value) (c1 c2 c3 c4 : Nat) (o : Obj) : List (Addr × Obj) := [(SE, lobj vse c1), (PL, lobj vpl c2), (ST, lobj vst c3), (LL, lobj vll c4), (SR, o)]
inductive LkJ (prog : Program) (w : World) (ad : Ads) (SE PL ST LL SR : Addr) (cnt : Nat) (tc : Tok) (i : Nat) (g : Gm) (V : List (Addr × Obj)) (m : Str → Option Value) : Prop
  | mk (lks : List Lk) (vse vpl vst vll : List Value) (c1 c2 c3 c4 : Nat) (o' : Obj) : V = lkV SE PL ST LL SR vse vpl vst vll c1 c2 c3 c4 o' → Kn m [("sets", .ref SE), ("places", .ref PL), ("steps", .ref ST), ("lookups", .ref LL), ("count", .int cnt tc), ("source", .ref SR)] → SrcAt g o' → LkInv prog w ad g cnt i lks vse vpl vst vll → LkJ prog w ad SE PL ST LL SR cnt tc i g V m
theorem law_lookups {cx : CallX} {SE PL ST LL SR : Addr} {o : Obj} {cnt : Nat} {tc : Tok} {P : Flow → Heap → Prop}
    (S : St B g (lkV SE PL ST LL SR [] [] [] [] 0 0 0 0 o) (lawEnv cx) m h) (G : Gd K mg mb B.hb ad) (hr : Room A 4) (hW : B.W = []) (hown : B.own = fnOwn cx.L (cellsFrom (cx.L + 1) d_law.scope.names [])) (so : SrcAt g o) (hcnt : cnt ≤ 10)
    (kn : Kn m [("sets", .ref SE), ("places", .ref PL), ("steps", .ref ST), ("lookups", .ref LL), ("count", .int cnt tc), ("source", .ref SR)])
    (fin : ∀ lks g' m' vse vpl vst vll c1 c2 c3 c4 o' h', GLe g g' → Kn m' [("sets", .ref SE), ("places", .ref PL), ("steps", .ref ST), ("lookups", .ref LL), ("count", .int cnt tc), ("source", .ref SR)] → SrcAt g' o' → LkInv prog w ad g' cnt cnt lks vse vpl vst vll →
      St B g' (lkV SE PL ST LL SR vse vpl vst vll c1 c2 c3 c4 o') (lawEnv cx) m' h' → P .next h') :
    Ev prog w A (exec (lawSt 6) (lawEnv cx)) h P := by
  refine ev_forS S (LkJ prog w ad SE PL ST LL SR cnt tc) hr.hh
    (ev_callB S G.cx G.bi.range (fun _ => keepable_type _ _) (ev_args_cons (ev_var S (kn.ix 4 rfl) (ev_args_nil (ev_range S (by (first | lia | omega)) fun rr g1 h1 le1 src1 S1 => ?_)))))
  refine ForK.overR S1 src1 ⟨[], [], [], [], [], 0, 0, 0, 0, o, rfl, kn, so.mono le1, ⟨rfl, (fun k hk => nomatch hk), .nil, .nil, .nil, .nil⟩⟩ ?_ ?_
  case _ => 
    rintro i ti g2 V2 m2 h2 I oI T2 hT2 hi le2 ⟨lks, vse, vpl, vst, vll, c1, c2, c3, c4, o2, rfl, kn2, so2, inv⟩ S2
    have hW' : ∀ {x : Addr}, x ∉ B.W := fun {x} => by rw [hW]; exact List.not_mem_nil
    refine ev_assign_name S2 (.inl ⟨rfl, rfl⟩) fun h3 S3 => ?_
    have kn3 := kn2.add (x := "number") (v := .int i ti)
    -- kind
    refine ev_cons (ev_assign (ev_subscript (ev_tuple (ev_args_cons (ev_str fun t1 => ev_args_cons (ev_str fun t2 => ev_args_cons (ev_str fun t3 => ev_args_cons (ev_str fun t4 => ev_args_nil ⟨le_line (le_dec rfl), ?_⟩))))))))
    refine S3.push_frzK (tobj [.str "context" t1, .str "single" t2, .str "chain" t3, .str "context" t4] 0) rfl fun g4 le4 hg4 S4 => ?_
    refine ev_draw (fun o => (I, oI) :: lkV SE PL ST LL SR vse vpl vst vll c1 c2 c3 c4 o) (fun o o' => .tail (.tail (.tail (.tail (.tail .head))))) S4 G (hr.less (by decide)) (so2.mono le4) (kn3.ix 6 rfl) ev_intQ (by decide) fun r t5 h5 o5 hr0 hr1 so5 S5 => ?_
    obtain ⟨kd, tk, hx, hkd⟩ : ∃ kd tk, [Value.str "context" t1, .str "single" t2, .str "chain" t3, .str "context" t4][r.toNat]? = some (.str kd tk) ∧ (kd = ("context" : Str) ∨ kd = ("single" : Str) ∨ kd = ("chain" : Str)) := by
      have : r = 0 ∨ r = 1 ∨ r = 2 ∨ r = 3 := by (first | lia | omega)
      rcases this with rfl | rfl | rfl | rfl
      · exact ⟨_, _, rfl, .inl rfl⟩
      · exact ⟨_, _, rfl, .inr (.inl rfl)⟩
      · exact ⟨_, _, rfl, .inr (.inr rfl)⟩
      · exact ⟨_, _, rfl, .inl rfl⟩
    refine ev_item_tup (S5.frz _ _ hg4) hr0 hx (ev_store S5 (.inl ⟨rfl, rfl⟩) fun h6 S6 => ?_)
    have kn6 := kn3.add (x := "kind") (v := .str kd tk)
    -- flag
    refine ev_cons (ev_assign (ev_subscript (ev_tuple (ev_args_cons (ev_int fun t1 => ev_args_cons (ev_int fun t2 => ev_args_cons (ev_int fun t3 => ev_args_cons (ev_int fun t4 => ev_args_nil ⟨le_line (le_dec rfl), ?_⟩))))))))
    refine S6.push_frzK (tobj [.int 0 t1, .int 16 t2, .int 0 t3, .int 8 t4] 0) rfl fun g7 le7 hg7 S7 => ?_
    refine ev_draw (fun o => (I, oI) :: lkV SE PL ST LL SR vse vpl vst vll c1 c2 c3 c4 o) (fun o o' => .tail (.tail (.tail (.tail (.tail .head))))) S7 G (hr.less (by decide)) (so5.mono le7) (kn6.ix 7 rfl) ev_intQ (by decide) fun r8 t8 h8 o8 hr80 hr81 so8 S8 => ?_
    obtain ⟨fl, tf, hxf, hfl⟩ : ∃ fl tf, [Value.int 0 t1, .int 16 t2, .int 0 t3, .int 8 t4][r8.toNat]? = some (.int fl tf) ∧ (fl = 0 ∨ fl = 8 ∨ fl = 16) := by
      have : r8 = 0 ∨ r8 = 1 ∨ r8 = 2 ∨ r8 = 3 := by (first | lia | omega)
      rcases this with rfl | rfl | rfl | rfl
      · exact ⟨_, _, rfl, .inl rfl⟩
      · exact ⟨_, _, rfl, .inr (.inr rfl)⟩
      · exact ⟨_, _, rfl, .inl rfl⟩
      · exact ⟨_, _, rfl, .inr (.inl rfl)⟩
    refine ev_item_tup (S8.frz _ _ hg7) hr80 hxf (ev_store S8 (.inl ⟨rfl, rfl⟩) fun h9 S9 => ?_)
    have kn9 := kn6.add (x := "flag") (v := .int fl tf)
    -- mark_set
    refine ev_cons (ev_assign (ev_draw (fun o => (I, oI) :: lkV SE PL ST LL SR vse vpl vst vll c1 c2 c3 c4 o) (fun o o' => .tail (.tail (.tail (.tail (.tail .head))))) S9 G (hr.less (by decide)) so8 (kn9.ix 8 rfl) ev_intQ (by decide) fun mk tm h10 o10 hm0 hm1 so10 S10 => ev_store S10 (.inl ⟨rfl, rfl⟩) fun h11 S11 => ?_))
    have kn11 := kn9.add (x := "mark_set") (v := .int mk tm)
    have gl11 := le4.trans le7
    have hvse : vse.length ≤ 100 := by
      rw [inv.ise.length]; unfold setsL; rw [List.length_map]
      have := filter_len (fun k : Lk => decide (k.flag = 16)) lks; have := inv.len; (first | lia | omega)
    generalize setM (setM (setM (setM m2 "number" (.int i ti)) "kind" (.str kd tk)) "flag" (.int fl tf)) "mark_set" (.int mk tm) = m11 at S11 kn11
    refine ev_ifJ S11 (fun g' V' m' => ∃ vse' c', V' = (I, oI) :: lkV SE PL ST LL SR vse' vpl vst vll c' c2 c3 c4 o10 ∧ m' = m11 ∧ IntsAre vse' (setsL lks ++ (if fl = 16 then [mk] else [])))
      (ev_true_compare1 (ev_var S11 (kn11.ix 1 rfl) (ev_int fun t => ev_eq (ev_truthy_bool ?_)))) ?_
    · by_cases q : fl = 16
      · have e : (fl == 16) = true := by simpa using q
        rw [e, if_pos rfl]
        refine ev_cons (ev_app S11 (kn11.ix 4 rfl) (.tail _ (.head _)) (ev_var S11 (kn11.ix 0 rfl) ⟨g7, _, _, vse, c1, _, S11, (fun _ => .tail .head), by (first | lia | omega), fun h12 S12 => ev_nil ⟨g7, _, _, rfl, GLe.refl _, ⟨_, _, rfl, rfl, ?_⟩, S12⟩⟩))
        rw [if_pos q]; exact intsAre_app inv.ise (.cons _ _ .nil)
      · have e : (fl == 16) = false := by simpa using q
        rw [e, if_neg (by decide)]
        exact ev_nil ⟨g7, _, _, rfl, GLe.refl _, ⟨vse, c1, rfl, rfl, by rw [if_neg q, List.append_nil]; exact inv.ise⟩, S11⟩
    rintro g12 V12 m12 h12 le12 ⟨vse', c1', rfl, rfl, ise'⟩ S12
    -- actions
    refine ev_cons (ev_assign (ev_list (ev_args_nil ⟨le_line (le_dec rfl), ?_⟩)))
    have S13 := S12.push_vol (lobj [] 0) rfl (lobj_nocell _ _)
    generalize h12.objs.size = AC at S13
    refine ev_store S13 (.inl ⟨rfl, rfl⟩) fun h14 S14 => ?_
    have kn14 := kn11.add (x := "actions") (v := .ref AC)
    generalize setM m12 "actions" (.ref AC) = m14 at S14 kn14
    -- width
    refine ev_cons (ev_assign (ev_binop (ev_int fun t15 => ev_draw (fun o => (AC, lobj [] 0) :: (I, oI) :: lkV SE PL ST LL SR vse' vpl vst vll c1' c2 c3 c4 o) (fun o o' => .tail (.tail (.tail (.tail (.tail (.tail .head)))))) S14 G (hr.less (by decide)) (so10.mono le12) (kn14.ix 10 rfl) ev_intQ (by decide) fun r15 t16 h15 o15 hr150 hr151 so15 S15 => ev_add fun tw => ?_)))
    refine ev_store S15 (.inr ⟨rfl, _, rfl, by rw [hown]; exact .inr ⟨"width", rfl⟩⟩) fun h16 S16 => ?_
    obtain ⟨wd, hwd, hwd2⟩ : ∃ wd : Nat, 1 + r15 = (wd : Int) ∧ (wd = 1 ∨ wd = 2) := ⟨(1 + r15).toNat, by (first | lia | omega), by (first | lia | omega)⟩
    rw [hwd] at S16
    have kn16 := kn14.add (x := "width") (v := .int wd tw)
    generalize setM m14 "width" (.int wd tw) = m16 at S16 kn16
    refine law_acts (f := fun o => (I, oI) :: lkV SE PL ST LL SR vse' vpl vst vll c1' c2 c3 c4 o) S16 G (hr.less (by decide)) (fun o o' => .tail (.tail (.tail (.tail (.tail .head))))) so15 kn16
      (List.mem_of_getElem? (i := 11) rfl) (List.mem_of_getElem? (i := 1) rfl) (List.mem_of_getElem? (i := 4) rfl) (List.mem_of_getElem? (i := 5) rfl) (List.mem_of_getElem? (i := 10) rfl) hi rfl rfl rfl
      fun acts g17 m17 va ca o17 h17 le17 kn17 so17 iva hal hsing hact S17 => ?_
    refine S17.freezeK .head hW' fun g18 le18 hg18 S18 => ?_
    have gl18 := ((gl11.trans le12).trans le17).trans le18
    have iac : Is prog w g18 (.ref AC) (.list (acts.map actD)) := .list hg18 (iva.mono le18)
    obtain ⟨k, ek⟩ : ∃ k : Lk, k = ⟨kd, fl, mk, wd, acts⟩ := ⟨_, rfl⟩
    have few : Few (acts.map (·.2)) := fun x hx => by
      obtain ⟨y, hy, rfl⟩ := List.mem_map.mp hx
      have := hact y hy; unfold actOk at this; (first | lia | omega)
    have okk : k.Ok := by
      subst ek; exact ⟨hkd, (by show acts.length ≤ 5; (first | lia | omega)), hsing, few⟩
    -- steps
    have hvst : vst.length ≤ 100 := by rw [inv.ist.length, List.length_map, stepsL_len]; have := inv.len; (first | lia | omega)
    refine ev_cons (ev_app S18 (kn17.ix 8 rfl) (.tail _ (.tail _ (.tail _ (.head _)))) (ev_srt S18 G hr.hh (ev_elc S18 hr.hh rfl (ev_var S18 (kn17.ix 1 rfl) ?_))))
    refine LcK.overL (xs := acts) S18 G iac [] (fun x => some (.int x.2)) Kn.nil (by (first | lia | omega)) ?_ ?_
    · intro j x u g19 m h B' V' C G hV hx iu le kn S
      refine (iu.mono le).twoK fun t u4 u5 c' ht i4 i5 => ?_
      refine ev_assign_tup2 S hr.hh ht fun h7 S7 => ev_assign_name S7 (.inl ⟨rfl, rfl⟩) fun h8 S8 => ev_assign_name S8 (.inl ⟨rfl, rfl⟩) fun h9 S9 => ev_noTests ?_
      exact ev_var S9 (setM_self _ _ _) ⟨g19, _, _, GLe.refl _, Kn.nil, S9, rfl, i5⟩
    intro D19 g19 ys19 c19 h19 g20 le19 hys19 le20 hg20 S20
    have e19 : (acts.filterMap fun x => some (D.int x.2)) = iL (acts.map (·.2)) := by
      rw [List.filterMap_eq_map']; unfold iL; rw [List.map_map]; rfl
    rw [e19] at hys19
    refine ⟨g20, _, _, acts.map (·.2), le19.trans le20, .list hg20 (hys19.mono le20), few, by rw [List.length_map]; (first | lia | omega), S20, fun u21 g21 h21 le21 iu21 S21 => ?_⟩
    refine ⟨g21, _, _, vst, c3, _, S21, (fun _ => .tail (.tail (.tail .head))), by (first | lia | omega), fun h22 S22 => ?_⟩
    have gl21 := (le19.trans le20).trans le21
    -- places
    refine ev_ifJ S22 (fun g' V' m' => ∃ vpl' c', V' = (I, oI) :: lkV SE PL ST LL SR vse' vpl' (vst ++ [u21]) vll c1' c' (c3 + 1) c4 o17 ∧ m' = m17 ∧ IntsAre vpl' (placesL lks ++ (if lkBeh k = true then [(i : Int)] else []))) (ev_true_value (ev_elc S22 hr.hh rfl (ev_var S22 (kn17.ix 1 rfl) ?_))) ?_
    · skip
      refine LcK.overL (xs := acts) S22 G (iac.mono gl21) [("width", .int wd tw)] (fun x => if decide (x.1 ≥ (wd : Int)) = true then some (.int x.1) else none) ?_ (by (first | lia | omega)) ?_ ?_
      · refine Kn.cmp kn17 fun p hp => ?_
        simp only [List.mem_cons, List.not_mem_nil, or_false] at hp
        rcases hp with rfl; exact ⟨.head _, rfl⟩
      · intro j x u g23 m h B' V' C G hV hx iu le kn S
        refine (iu.mono le).twoK fun t u4 u5 c' ht i4 i5 => ?_
        obtain ⟨t4, rfl⟩ := i4.asInt
        refine ev_assign_tup2 S hr.hh ht fun h7 S7 => ev_assign_name S7 (.inl ⟨rfl, rfl⟩) fun h8 S8 => ev_assign_name S8 (.inl ⟨rfl, rfl⟩) fun h9 S9 => ev_test1 ?_
        have kn9 : Kn (setM (setM m "spot" (.int x.1 t4)) "goal" u5) [("width", .int wd tw)] := (kn.other).other
        have es : (setM (setM m "spot" (.int x.1 t4)) "goal" u5) "spot" = some (.int x.1 t4) := (setM_ne (by decide)).trans (setM_self _ _ _)
        refine ev_true_compare1 (ev_var S9 es (ev_var S9 kn9.g0 (ev_ge (ev_truthy_bool ?_))))
        refine if_dec (fun p => ?_) (fun p => ?_)
        · exact ev_var S9 es ⟨g23, _, _, GLe.refl _, kn9, S9, by simp [p], .int⟩
        · exact ⟨g23, _, GLe.refl _, kn9, S9, by simp [p]⟩
      intro D23 g23 ys23 c23 h23 g24 le23 hys23 le24 hg24 S24
      have hyl : ys23.length ≤ 5 := by rw [hys23.length]; exact Nat.le_trans (filterMap_length_le _ _) (by (first | lia | omega))
      have hem : ys23.isEmpty = !lkBeh k := by
        rw [behActs okk]
        have e2 : k.acts = acts ∧ k.width = wd := by subst ek; exact ⟨rfl, rfl⟩
        rw [e2.1, e2.2]
        cases hb : acts.any (fun a => decide (a.1 ≥ (wd : Int))) with
        | false =>
          rw [behF_empty.mpr hb] at hys23
          cases hys23; rfl
        | true =>
          cases ys23 with
          | nil =>
            have : (acts.filterMap fun a => if decide (a.1 ≥ (wd : Int)) = true then some (D.int a.1) else none) = [] := List.length_eq_zero_iff.mp (by rw [← hys23.length]; rfl)
            rw [behF_empty] at this; rw [this] at hb; cases hb
          | cons y r => rfl
      refine ev_truthy_list (S24.frz _ _ hg24) (by (first | lia | omega)) ?_
      rw [hem, Bool.not_not]
      have hvpl : vpl.length ≤ 100 := by
        rw [inv.ipl.length]; unfold placesL
        have := filter_len (placeB lks) (rangeI lks.length); rw [rangeI_length] at this; have := inv.len; (first | lia | omega)
      cases hb : lkBeh k with
      | true =>
        rw [if_pos rfl]
        refine ev_cons (ev_app S24 (kn17.ix 7 rfl) (.tail _ (.tail _ (.head _))) (ev_var S24 (kn17.ix 5 rfl) ⟨g24, _, _, vpl, c2, _, S24, (fun _ => .tail (.tail .head)), by (first | lia | omega), fun h25 S25 => ev_nil ⟨g24, _, _, rfl, le23.trans le24, ⟨_, _, rfl, rfl, ?_⟩, S25⟩⟩))
        rw [if_pos rfl]; exact intsAre_app inv.ipl (.cons _ _ .nil)
      | false =>
        rw [if_neg (by decide)]
        exact ev_nil ⟨g24, _, _, rfl, le23.trans le24, ⟨vpl, c2, rfl, rfl, by rw [if_neg (by decide), List.append_nil]; exact inv.ipl⟩, S24⟩
    rintro g25 V25 m25 h25 le25 ⟨vpl', c2', rfl, rfl, ipl'⟩ S25
    -- tables
    have gl25 := gl21.trans le25
    refine law_tables (k := k) S25 G (hr.less (by decide)) kn17 (tk := tk) (tw := tw) (by subst ek; exact List.mem_of_getElem? (i := 4) rfl) (by subst ek; exact .head _) (List.mem_of_getElem? (i := 1) rfl) (gl25 _ _ hg18) (by subst ek; exact (iva.mono le18).mono gl25) (by subst ek; show acts.length ≤ 5; (first | lia | omega)) (by subst ek; exact hwd2) rfl rfl fun tv g26 m26 h26 le26 kn26 itv S26 => ?_
    have hvll : vll.length ≤ 100 := by rw [inv.ill.length, List.length_map]; have := inv.len; (first | lia | omega)
    refine ev_cons (ev_app S26 (kn26.ix 10 rfl) (.tail _ (.tail _ (.tail _ (.tail _ (.head _))))) (ev_callC S26 G.cx G.Lookup.1 (ev_args_cons (ev_var S26 (kn26.ix 5 rfl) (ev_args_cons (ev_var S26 (kn26.ix 4 rfl) (ev_args_cons (ev_var S26 (kn26.ix 3 rfl) (ev_args_cons (ev_var S26 (kn26.ix 0 rfl) (ev_args_nil ⟨S26.hbk, ?_⟩)))))))))))
    refine mk_Lookup (d0 := .str k.kind) (d1 := .int k.flag) (d2 := .int k.mark) (d3 := .list (k.tabs ad)) S26 G (hr.less (by decide)) (by subst ek; exact .str) (by subst ek; exact .int) (by subst ek; exact .int) itv fun v27 g27 h27 le27 iv27 S27 => ?_
    refine ⟨g27, _, _, vll, c4, _, S27, (fun _ => .tail (.tail (.tail (.tail .head)))), by (first | lia | omega), fun h28 S28 => ev_nil (hT2 _ ?_)⟩
    have glX : GLe g18 g27 := (gl25.trans le26).trans le27
    have glY : GLe g2 g27 := gl18.trans glX
    refine ⟨g27, _, _, glY, ⟨lks ++ [k], vse', vpl', vst ++ [u21], vll ++ [v27], _, _, _, _, o17, rfl, ?_, ((so17.mono le18).mono glX), ⟨by rw [List.length_append, inv.len]; rfl, fun x hx => ?_, ?_, ?_, ?_, ?_⟩⟩, S28⟩
    · exact kn26.sub fun p hp => by
        simp only [List.mem_cons, List.not_mem_nil, or_false] at hp ⊢
        rcases hp with rfl | rfl | rfl | rfl | rfl | rfl <;> simp
    · rcases List.mem_append.mp hx with q | q
      · exact inv.ok x q
      · rw [List.mem_singleton] at q; subst q
        refine ⟨okk, ?_⟩
        subst ek
        exact ⟨hwd2, hfl, ⟨hm0, hm1⟩, hact⟩
    · rw [List.map_append]; exact (inv.ill.mono glY).append (.cons iv27 .nil)
    · rw [stepsL_snoc, List.map_append]
      refine (inv.ist.mono glY).append (.cons ?_ .nil)
      have : k.acts = acts := by subst ek; rfl
      rw [this]; exact iu21.mono ((le25.trans le26).trans le27)
    · rw [placesL_snoc, inv.len]; exact ipl'
    · rw [setsL_snoc]
      have : k.flag = fl ∧ k.mark = mk := by subst ek; exact ⟨rfl, rfl⟩
      rw [this.1, this.2]; exact ise'
  case _ =>
    rintro g2 V2 m2 h2 le2 ⟨lks, vse, vpl, vst, vll, c1, c2, c3, c4, o2, rfl, kn2, so2, inv⟩ S2
    exact fin lks g2 m2 vse vpl vst vll c1 c2 c3 c4 o2 h2 (le1.trans le2) kn2 so2 inv S2
end
section
variable {prog : Program} {w : World} {A : Around} {B : Bs} {g g' : Gm} {V V' : List (Addr × Obj)} {env : Env} {m : Str → Option Value} {h h' hb : Heap} {K : Frag} {mg mb : Str → Option Value} {ad : Ads} {C fI : Addr}
noncomputable def rowOk (lim : Int) (r : List Int) : Prop := r.length ≤ 2 ∧ ∀ k ∈ r, 0 ≤ k ∧ k < lim
theorem flatL_snoc (rs : List (List Int)) (r : List Int) : flatL (rs ++ [r]) = flatL rs ++ r := by unfold flatL; simp
inductive RowJ (I X SR : Addr) (oI oX : Obj) (lim : Int) (i : Nat) (g : Gm) (V : List (Addr × Obj)) (ys : List Value) : Prop
  | mk (o : Obj) (xs : List Int) : V = [(I, oI), (X, oX), (SR, o)] → SrcAt g o → IntsAre ys xs → xs.length = i → (∀ k ∈ xs, 0 ≤ k ∧ k < lim) → RowJ I X SR oI oX lim i g V ys
inductive FeJ (prog : Program) (w : World) (ad : Ads) (FE SR : Addr) (cnt : Nat) (l : List (Str × Value)) (i : Nat) (g : Gm) (V : List (Addr × Obj)) (m : Str → Option Value) : Prop
  | mk (feats : List (List Int)) (tv' : Value) (vf : List Value) (cf : Nat) (o' : Obj) : V = [(FE, lobj vf cf), (SR, o')] → Kn m (("told", tv') :: l) → SrcAt g o' → Is prog w g tv' (.list (iL (flatL feats))) → Iss prog w g vf (feats.map (featD ad)) → feats.length = i → (∀ r ∈ feats, rowOk ((cnt : Int) + 2) r) → FeJ prog w ad FE SR cnt l i g V m
theorem law_feats {cx : CallX} {SR FE : Addr} {o : Obj} {cnt : Nat} {tv : Value} {l : List (Str × Value)} {tc : Tok} {P : Flow → Heap → Prop}
    (S : St B g [(FE, lobj [] 0), (SR, o)] (lawEnv cx) m h) (G : Gd K mg mb B.hb ad) (hr : Room A 4) (hW : B.W = []) (so : SrcAt g o) (hcnt : cnt ≤ 10)
    (kn : Kn m (("told", tv) :: l)) (h1 : (("source" : Str), Value.ref SR) ∈ l) (hct : (("count" : Str), Value.int cnt tc) ∈ l) (h3 : (("features" : Str), Value.ref FE) ∈ l)
    (n1 : (l.map (·.1)).contains ("number" : Str) = false) (n2 : (l.map (·.1)).contains ("row" : Str) = false) (n3 : (l.map (·.1)).contains ("told" : Str) = false) (itv : Is prog w g tv (.list []))
    (fin : ∀ feats tv' g' m' vf cf o' h', GLe g g' → Kn m' (("told", tv') :: l) → SrcAt g' o' → Is prog w g' tv' (.list (iL (flatL feats))) → Iss prog w g' vf (feats.map (featD ad)) → feats.length ≤ 3 → (∀ r ∈ feats, rowOk ((cnt : Int) + 2) r) →
      St B g' [(FE, lobj vf cf), (SR, o')] (lawEnv cx) m' h' → P .next h') :
    Ev prog w A (exec (lawSt 9) (lawEnv cx)) h P := by
  have hW' : ∀ {x : Addr}, x ∉ B.W := fun {x} => by rw [hW]; exact List.not_mem_nil
  refine ev_forS S (FeJ prog w ad FE SR cnt l) hr.hh
    (ev_callB S G.cx G.bi.range (fun _ => keepable_type _ _) (ev_args_cons (ev_draw (fun o => [(FE, lobj [] 0), (SR, o)]) (fun o o' => .tail .head) S G (hr.less (by decide)) so (kn.get (.tail _ h1)) ev_intQ (by decide) fun r t h2 o2 hr0 hr1 so2 S2 => ev_args_nil ?_)))
  obtain ⟨n, rfl⟩ := Int.eq_ofNat_of_zero_le hr0
  refine ev_range S2 (by (first | lia | omega)) fun rr g3 h3' le3 src3 S3 => ?_
  refine ForK.overR S3 src3 ⟨[], tv, [], 0, o2, rfl, kn, so2.mono le3, itv.mono le3, .nil, rfl, fun r hr => nomatch hr⟩ ?_ ?_
  · rintro j tj g4 V4 m4 h4 I oI T2 hT2 hj le4 ⟨feats, tv4, vf, cf, o4, rfl, kn4, so4, itv4, iss4, hl4, ho4⟩ S4
    refine ev_assign_name S4 (.inl ⟨rfl, rfl⟩) fun h5 S5 => ?_
    have kn5 : Kn (setM m4 "number" (.int j tj)) (("told", tv4) :: l) := kn4.other (by show (("told" : Str) :: l.map (·.1)).contains ("number" : Str) = false; rw [List.contains_cons, n1]; rfl)
    -- row
    refine ev_cons (ev_alc S5 hr.hh (.inl ⟨rfl, rfl⟩) rfl (ev_callB S5 G.cx G.bi.range (fun _ => keepable_type _ _) (ev_args_cons (ev_draw (fun o => [(I, oI), (FE, lobj vf cf), (SR, o)]) (fun o o' => .tail (.tail .head)) S5 G (hr.less (by decide)) so4 (kn5.get (.tail _ h1)) ev_intQ (by decide) fun r6 t6 h6 o6 hr60 hr61 so6 S6 => ev_args_nil ?_))))
    obtain ⟨n6, rfl⟩ := Int.eq_ofNat_of_zero_le hr60
    refine ev_range S6 (by (first | lia | omega)) fun rr7 g7 h7 le7 src7 S7 => ?_
    refine ⟨g7, _, _, n6, _, _, src7, S7, comp1 [("source", .ref SR), ("count", .int cnt tc)] (RowJ I FE SR oI (lobj vf cf) ((cnt : Int) + 2)) ?_ rfl (by (first | lia | omega)) ⟨o6, [], rfl, so6.mono le7, .nil, rfl, fun k hk => nomatch hk⟩ ?_ ?_, ?_⟩
    · refine Kn.cmp (l := [("source", .ref SR), ("count", .int cnt tc)]) (.cons (kn5.get (.tail _ h1)) (.cons (kn5.get (.tail _ hct)) .nil)) fun p hp => ⟨hp, ?_⟩
      simp only [List.mem_cons, List.not_mem_nil, or_false] at hp
      rcases hp with rfl | rfl <;> rfl
    · rintro i g V ys hi ⟨o, xs, rfl, _, hys, hxl, _⟩
      rw [hys.length, hxl]; (first | lia | omega)
    · rintro i v g8 V8 ys k8 m8 h8 D I8 oI8 C hi8 ⟨t8, rfl⟩ le8 hV8 ⟨o8, xs, rfl, so8, hys, hxl, hxs⟩ kn8 S8
      refine ev_assign_name S8 (.inl ⟨rfl, rfl⟩) fun h9 S9 => ev_noTests ?_
      have kn9 : Kn (setM m8 "turn" (.int i t8)) [("source", .ref SR), ("count", .int cnt tc)] := kn8.other
      refine ev_draw (fun o => (I8, oI8) :: (D, lobj ys k8) :: [(I, oI), (FE, lobj vf cf), (SR, o)]) (fun o o' => .tail (.tail (.tail (.tail .head)))) S9 G (hr.less (by decide)) so8 kn9.g0 (ev_varPlusQ S9 kn9.g1) (by (first | lia | omega)) fun r t h10 o10 a1 a2 so10 S10 => ?_
      refine ⟨g8, [(I, oI), (FE, lobj vf cf), (SR, o10)], _, GLe.refl _, kn9, rfl, S10, o10, xs ++ [r], rfl, so10, intsAre_app hys (.cons _ _ .nil), by rw [List.length_append, hxl]; rfl, fun k hk => ?_⟩
      rcases List.mem_append.mp hk with q | q
      · exact hxs k q
      · rw [List.mem_singleton.mp q]; exact ⟨a1, a2⟩
    rintro D g11 V11 ys k11 h11 le11 hV11 ⟨o11, xs, rfl, so11, hys, hxl, hxs⟩ hDW S11
    refine S11.freezeK .head hDW fun g12 le12 hg12 S12 => ?_
    have kn12 : Kn (setM (setM m4 "number" (.int j tj)) "row" (.ref D)) (("row", .ref D) :: ("told", tv4) :: l) := kn5.add (by show (("told" : Str) :: l.map (·.1)).contains ("row" : Str) = false; rw [List.contains_cons, n2]; rfl)
    generalize setM (setM m4 "number" (.int j tj)) "row" (.ref D) = m12 at S12 kn12
    have gl12 := (le7.trans le11).trans le12
    have irow : Is prog w g12 (.ref D) (.list (iL xs)) := .list hg12 (iss_of_ints hys)
    have hxl2 : xs.length ≤ 2 := by (first | lia | omega)
    -- told
    obtain ⟨a4, v4, c4, rfl, ga4, iss4'⟩ := itv4.asList
    have hfl : (flatL feats).length ≤ 100 := by
      have := flat_len (f := fun r : List Int => r) (c := 2) (l := feats) fun r hr => (ho4 r hr).1
      have : (flatL feats).length ≤ feats.length * 2 := this
      (first | lia | omega)
    have hv4 : v4.length ≤ 100 := by rw [iss4'.length, iL_length]; exact hfl
    have hyl : ys.length ≤ 2 := by rw [hys.length]; exact hxl2
    refine ev_cons (ev_assign (ev_binop (ev_var S12 kn12.g1 (ev_var S12 kn12.g0 (ev_add_list (S12.frz _ _ (gl12 _ _ ga4)) (S12.frz _ _ hg12) (le_line (by (first | lia | omega))) ?_)))))
    refine S12.push_frzK (lobj (v4 ++ ys) 0) rfl fun g13 le13 hg13 S13 => ?_
    generalize h11.objs.size = T at hg13 S13
    refine ev_store S13 (.inl ⟨rfl, rfl⟩) fun h14 S14 => ?_
    have kn14 : Kn (setM m12 "told" (.ref T)) (("told", .ref T) :: l) := .cons (setM_self _ _ _) (kn12.tl.tl.other n3)
    have er : (setM m12 "told" (.ref T)) "row" = some (.ref D) := (setM_ne (by decide)).trans kn12.g0
    generalize setM m12 "told" (.ref T) = m14 at S14 kn14 er
    have hvf : vf.length ≤ 10 := by rw [iss4.length, List.length_map]; (first | lia | omega)
    refine ev_cons (ev_app S14 (kn14.get (.tail _ h3)) (.tail _ (.head _)) (ev_callC S14 G.cx G.Feature.1 (ev_args_cons (ev_str fun t15 => ev_args_cons (ev_var S14 er (ev_args_nil ⟨S14.hbk, ?_⟩))))))
    refine mk_Feature (d1 := .str "liga") S14 G (hr.less (by decide)) .str (irow.mono le13) (by rw [iL_length]; (first | lia | omega)) fun v16 g16 h16 le16 iv16 S16 => ?_
    have glX := (gl12.trans le13).trans le16
    refine ⟨g16, _, _, vf, cf, _, S16, (fun _ => .tail .head), by (first | lia | omega), fun h17 S17 => ev_nil (hT2 _ ⟨g16, _, _, glX, ⟨feats ++ [xs], .ref T, _, _, o11, rfl, kn14, so11.mono ((le12.trans le13).trans le16), .list (le16 _ _ hg13) ?_, ?_, by rw [List.length_append, hl4]; rfl, fun r hr => ?_⟩, S17⟩)⟩
    · rw [flatL_snoc, iL_append]; exact (iss4'.mono glX).append ((iss_of_ints hys))
    · rw [List.map_append]; exact (iss4.mono glX).append (.cons iv16 .nil)
    · rcases List.mem_append.mp hr with q | q
      · exact ho4 r q
      · rw [List.mem_singleton.mp q]; exact ⟨hxl2, hxs⟩
  · rintro g4 V4 m4 h4 le4 ⟨feats, tv4, vf, cf, o4, rfl, kn4, so4, itv4, iss4, hl4, ho4⟩ S4
    exact fin feats tv4 g4 m4 vf cf o4 h4 (le3.trans le4) kn4 so4 itv4 iss4 (by (first | lia | omega)) ho4 S4
end
noncomputable def ifBody : Stmt → List Stmt | .If _ b _ _ => b | _ => []
noncomputable def wantF (sys : List (Option Ls)) : List Int := (sys.filterMap id).flatMap sysF
theorem wantF_snoc (sys : List (Option Ls)) (o : Option Ls) : wantF (sys ++ [o]) = wantF sys ++ (match o with | some l => sysF l | none => []) := by
  unfold wantF
  rw [List.filterMap_append, List.flatMap_append]
  cases o <;> simp
structure SyInv (prog : Program) (w : World) (ad : Ads) (g : Gm) (nf i : Nat) (sys : List (Option Ls)) (vsy : List Value) (wv : Value) : Prop where
  len : sys.length = i
  some : ∀ j, 0 < j → j < i → ∃ l, sys[j]? = Option.some (Option.some l)
  ok : ∀ l, Option.some l ∈ sys → l.fts.length ≤ 1 ∧ ∀ k ∈ sysF l, -1 ≤ k ∧ k < (nf : Int) + 2
  isy : Iss prog w g vsy (sys.map (dfD ad))
  iw : Is prog w g wv (.list (iL (wantF sys)))
section
variable {prog : Program} {w : World} {A : Around} {B : Bs} {g g' : Gm} {V V' : List (Addr × Obj)} {env : Env} {m : Str → Option Value} {h h' hb : Heap} {K : Frag} {mg mb : Str → Option Value} {ad : Ads} {C fI : Addr}
theorem ev_lenPlusQ {x : Str} {k : Int} {n : Nat} {p1 p2 p3 p4 pos : Pos} {a : Addr} {vs : List Value} {c : Nat} (S : St B g V env m h) (G : Gd K mg mb B.hb ad) (hx : m x = some (.ref a)) (ha : h.get? a = some (lobj vs c)) (hz : vs.length < 100000)
    (hk1 : isVar env x = true := by rfl) (hd1 : (x == ("__debug__" : Str)) = false := by rfl) (hkl : env.kindOf "len" = some .globalImplicit := by rfl) (hg : env.globals = mainGlobals := by rfl) (hbn : env.builtins = builtinsNs := by rfl) :
    ∀ Q : Value → Heap → Prop, (∀ t, Q (.int ((vs.length : Int) + k) t) h) → Ev prog w A (eval (.BinOp (.Call (.Name "len" p1) [.Name x p2] [] p3) .Add (.Constant (.int k) n p4) pos) env) h Q := fun Q q =>
  ev_binop (ev_callB S G.cx G.bi.len (fun _ => keepable_builtin _ _) (ev_args_cons (ev_var S hx (ev_args_nil (ev_len ha fun t => ev_int fun t2 => ev_add q)) hk1 hd1)) hkl (by rfl) hg hbn (by rfl))
inductive SyJ (prog : Program) (w : World) (ad : Ads) (SY SR : Addr) (nf : Nat) (l : List (Str × Value)) (i : Nat) (g : Gm) (V : List (Addr × Obj)) (m : Str → Option Value) : Prop
  | mk (sys : List (Option Ls)) (wv' : Value) (vsy : List Value) (cy : Nat) (o' : Obj) : V = [(SY, lobj vsy cy), (SR, o')] → Kn m (("wanted", wv') :: l) → SrcAt g o' → SyInv prog w ad g nf i sys vsy wv' → SyJ prog w ad SY SR nf l i g V m
inductive SyI (prog : Program) (w : World) (ad : Ads) (I SY SR : Addr) (oI : Obj) (nf : Nat) (l : List (Str × Value)) (i : Nat) (g : Gm) (V : List (Addr × Obj)) (m : Str → Option Value) : Prop
  | mk (sys : List (Option Ls)) (wv' : Value) (vsy : List Value) (cy : Nat) (o' : Obj) : V = [(I, oI), (SY, lobj vsy cy), (SR, o')] → Kn m (("wanted", wv') :: l) → SrcAt g o' → SyInv prog w ad g nf i sys vsy wv' → SyI prog w ad I SY SR oI nf l i g V m
theorem law_systems {cx : CallX} {SR SY FE : Addr} {o : Obj} {vf : List Value} {cf : Nat} {wv : Value} {l : List (Str × Value)} {P : Flow → Heap → Prop}
    (S : St B g [(SY, lobj [] 0), (SR, o)] (lawEnv cx) m h) (G : Gd K mg mb B.hb ad) (hr : Room A 4) (hW : B.W = []) (so : SrcAt g o) (hFE : g FE = some (lobj vf cf)) (hvf : vf.length ≤ 10)
    (kn : Kn m (("wanted", wv) :: l)) (h1 : (("source" : Str), Value.ref SR) ∈ l) (hsy : (("systems" : Str), Value.ref SY) ∈ l) (hfe : (("features" : Str), Value.ref FE) ∈ l)
    (n1 : (l.map (·.1)).contains ("number" : Str) = false) (n2 : (l.map (·.1)).contains ("row" : Str) = false) (n3 : (l.map (·.1)).contains ("required" : Str) = false) (n4 : (l.map (·.1)).contains ("wanted" : Str) = false) (iwv : Is prog w g wv (.list []))
    (fin : ∀ d l1 l2 wv' g' m' vsy cy o' h', GLe g g' → Kn m' (("wanted", wv') :: l) → SrcAt g' o' → SyInv prog w ad g' vf.length 3 [d, some l1, some l2] vsy wv' →
      St B g' [(SY, lobj vsy cy), (SR, o')] (lawEnv cx) m' h' → P .next h') :
    Ev prog w A (exec (lawSt 12) (lawEnv cx)) h P := by
  have hW' : ∀ {x : Addr}, x ∉ B.W := fun {x} => by rw [hW]; exact List.not_mem_nil
  refine ev_forS S (SyJ prog w ad SY SR vf.length l) hr.hh
    (ev_callB S G.cx G.bi.range (fun _ => keepable_type _ _) (ev_args_cons (ev_int fun t => ev_args_nil ?_)))
  refine ev_range (n := 3) S (by (first | lia | omega)) fun rr g3 h3' le3 src3 S3 => ?_
  refine ForK.overR S3 src3 ⟨[], wv, [], 0, o, rfl, kn, so.mono le3, ⟨rfl, fun j _ h => by (first | lia | omega), (fun l h => nomatch h), .nil, iwv.mono le3⟩⟩ ?_ ?_
  · rintro j tj g4 V4 m4 h4 I oI T2 hT2 hj le4 ⟨sys, wv4, vsy, cy, o4, rfl, kn4, so4, inv⟩ S4
    have gl4 := le3.trans le4
    refine ev_assign_name S4 (.inl ⟨rfl, rfl⟩) fun h5 S5 => ?_
    have kn5 : Kn (setM m4 "number" (.int j tj)) (("number", .int j tj) :: ("wanted", wv4) :: l) := kn4.add (by show (("wanted" : Str) :: l.map (·.1)).contains ("number" : Str) = false; rw [List.contains_cons, n1]; rfl)
    generalize setM m4 "number" (.int j tj) = m5 at S5 kn5
    -- row
    refine ev_cons (ev_alc S5 hr.hh (.inl ⟨rfl, rfl⟩) rfl (ev_callB S5 G.cx G.bi.range (fun _ => keepable_type _ _) (ev_args_cons (ev_draw (fun o => [(I, oI), (SY, lobj vsy cy), (SR, o)]) (fun o o' => .tail (.tail .head)) S5 G (hr.less (by decide)) so4 (kn5.get (.tail _ (.tail _ h1))) ev_intQ (by decide) fun r6 t6 h6 o6 hr60 hr61 so6 S6 => ev_args_nil ?_))))
    obtain ⟨n6, rfl⟩ := Int.eq_ofNat_of_zero_le hr60
    refine ev_range S6 (by (first | lia | omega)) fun rr7 g7 h7 le7 src7 S7 => ?_
    refine ⟨g7, _, _, n6, _, _, src7, S7, comp1 [("source", .ref SR), ("features", .ref FE)] (RowJ I SY SR oI (lobj vsy cy) ((vf.length : Int) + 2)) ?_ rfl (by (first | lia | omega)) ⟨o6, [], rfl, so6.mono le7, .nil, rfl, fun k hk => nomatch hk⟩ ?_ ?_, ?_⟩
    · refine Kn.cmp (l := [("source", .ref SR), ("features", .ref FE)]) (.cons (kn5.get (.tail _ (.tail _ h1))) (.cons (kn5.get (.tail _ (.tail _ hfe))) .nil)) fun p hp => ⟨hp, ?_⟩
      simp only [List.mem_cons, List.not_mem_nil, or_false] at hp
      rcases hp with rfl | rfl <;> rfl
    · rintro i g V ys hi ⟨o, xs, rfl, _, hys, hxl, _⟩
      rw [hys.length, hxl]; (first | lia | omega)
    · rintro i v g8 V8 ys k8 m8 h8 D I8 oI8 C hi8 ⟨t8, rfl⟩ le8 hV8 ⟨o8, xs, rfl, so8, hys, hxl, hxs⟩ kn8 S8
      refine ev_assign_name S8 (.inl ⟨rfl, rfl⟩) fun h9 S9 => ev_noTests ?_
      have kn9 : Kn (setM m8 "turn" (.int i t8)) [("source", .ref SR), ("features", .ref FE)] := kn8.other
      refine ev_draw (fun o => (I8, oI8) :: (D, lobj ys k8) :: [(I, oI), (SY, lobj vsy cy), (SR, o)]) (fun o o' => .tail (.tail (.tail (.tail .head)))) S9 G (hr.less (by decide)) so8 kn9.g0 (ev_lenPlusQ S9 G kn9.g1 (S9.frz _ _ (((gl4.trans le7).trans le8) _ _ hFE)) (by (first | lia | omega))) (by (first | lia | omega)) fun r t h10 o10 a1 a2 so10 S10 => ?_
      refine ⟨g8, [(I, oI), (SY, lobj vsy cy), (SR, o10)], _, GLe.refl _, kn9, rfl, S10, o10, xs ++ [r], rfl, so10, intsAre_app hys (.cons _ _ .nil), by rw [List.length_append, hxl]; rfl, fun k hk => ?_⟩
      rcases List.mem_append.mp hk with q | q
      · exact hxs k q
      · rw [List.mem_singleton.mp q]; exact ⟨a1, a2⟩
    rintro D g11 V11 ys k11 h11 le11 hV11 ⟨o11, xs, rfl, so11, hys, hxl, hxs⟩ hDW S11
    refine S11.freezeK .head hDW fun g12 le12 hg12 S12 => ?_
    have kn12 : Kn (setM m5 "row" (.ref D)) (("row", .ref D) :: ("number", .int j tj) :: ("wanted", wv4) :: l) := kn5.add (by show (("number" : Str) :: ("wanted" : Str) :: l.map (·.1)).contains ("row" : Str) = false; rw [List.contains_cons, List.contains_cons, n2]; rfl)
    generalize setM m5 "row" (.ref D) = m12 at S12 kn12
    have gl12 := (le7.trans le11).trans le12
    have irow : Is prog w g12 (.ref D) (.list (iL xs)) := .list hg12 (iss_of_ints hys)
    have hxl2 : xs.length ≤ 1 := by (first | lia | omega)
    -- required
    refine ev_cons (ev_assign (ev_binop (ev_draw (fun o => [(I, oI), (SY, lobj vsy cy), (SR, o)]) (fun o o' => .tail (.tail .head)) S12 G (hr.less (by decide)) (so11.mono le12) (kn12.get (.tail _ (.tail _ (.tail _ h1)))) (ev_lenPlusQ S12 G (kn12.get (.tail _ (.tail _ (.tail _ hfe)))) (S12.frz _ _ ((gl4.trans gl12) _ _ hFE)) (by (first | lia | omega))) (by (first | lia | omega)) fun r13 t13 h13 o13 hr130 hr131 so13 S13 => ev_int fun t14 => ev_sub fun tr => ev_store S13 (.inl ⟨rfl, rfl⟩) fun h14 S14 => ?_)))
    obtain ⟨rq, erq⟩ : ∃ rq, rq = r13 - 1 := ⟨_, rfl⟩
    rw [← erq] at S14
    have kn14 : Kn (setM m12 "required" (.int rq tr)) (("required", .int rq tr) :: ("row", .ref D) :: ("number", .int j tj) :: ("wanted", wv4) :: l) := kn12.add (by show (("row" : Str) :: ("number" : Str) :: ("wanted" : Str) :: l.map (·.1)).contains ("required" : Str) = false; rw [List.contains_cons, List.contains_cons, List.contains_cons, n3]; rfl)
    generalize setM m12 "required" (.int rq tr) = m14 at S14 kn14
    have hvsy : vsy.length ≤ 10 := by rw [inv.isy.length, List.length_map, inv.len]; (first | lia | omega)
    refine ev_cons (ev_app S14 (kn14.get (.tail _ (.tail _ (.tail _ (.tail _ hsy))))) (.tail _ (.head _)) (ev_callC S14 G.cx G.LangSys.1 (ev_args_cons (ev_var S14 kn14.g0 (ev_args_cons (ev_var S14 kn14.g1 (ev_args_nil ⟨S14.hbk, ?_⟩)))))))
    refine mk_LangSys (d1 := .int rq) S14 G (hr.less (by decide)) .int irow (by rw [iL_length]; (first | lia | omega)) fun v15 g15 h15 le15 iv15 S15 => ?_
    refine ⟨g15, _, _, vsy, cy, _, S15, (fun _ => .tail .head), by (first | lia | omega), fun h16 S16 => ?_⟩
    obtain ⟨ls, els⟩ : ∃ ls : Ls, ls = ⟨rq, xs⟩ := ⟨_, rfl⟩
    have ils : Is prog w g15 v15 (lsD ad ls) := by subst els; exact iv15
    have gl15 := gl12.trans le15
    have so16 := so13.mono le15
    have lsok : ls.fts.length ≤ 1 ∧ ∀ k ∈ sysF ls, -1 ≤ k ∧ k < (vf.length : Int) + 2 := by
      subst els
      refine ⟨hxl2, fun k hk => ?_⟩
      rcases List.mem_append.mp hk with q | q
      · have := hxs k q; (first | lia | omega)
      · split at q
        · have e : k = rq := List.mem_singleton.mp q
          (first | lia | omega)
        · cases q
    have irow15 := irow.mono le15
    have iw15 := inv.iw.mono gl15
    -- the branch in which the system stays
    have bodyT : ∀ (oo : Obj) (hh : Heap), SrcAt g15 oo → St B g15 [(I, oI), (SY, lobj (vsy ++ [v15]) (cy + 1)), (SR, oo)] (lawEnv cx) m14 hh →
        Ev prog w A (execs (ifBody ((forBody (lawSt 12)).getD 3 (.Pass default))) (lawEnv cx)) hh (IfK B (lawEnv cx) g15 (SyI prog w ad I SY SR oI vf.length l (j + 1))) := fun oo hh so17 S17 => by
      obtain ⟨a1, v1, c1, ew, ga1, iss1⟩ := iw15.asList
      subst ew
      obtain ⟨a2, v2, c2, eD, ga2, iss2⟩ := irow15.asList
      cases eD
      have hwl : (wantF sys).length ≤ 100 := by
        have h0 : (sys.filterMap id).length ≤ 3 := Nat.le_trans (filterMap_length_le _ _) (by have := inv.len; (first | lia | omega))
        have := flat_len (f := sysF) (c := 2) (l := sys.filterMap id) fun x hx => by
          obtain ⟨y, hy, e⟩ := List.mem_filterMap.mp hx
          have e' : y = some x := e
          subst e'
          have := (inv.ok x hy).1
          unfold sysF; rw [List.length_append]; split <;> simp <;> (first | lia | omega)
        have : (wantF sys).length ≤ (sys.filterMap id).length * 2 := this
        (first | lia | omega)
      have hv1 : v1.length ≤ 100 := by rw [iss1.length, iL_length]; exact hwl
      have hv2 : v2.length ≤ 1 := by rw [iss2.length, iL_length]; exact hxl2
      refine ev_cons (ev_assign (ev_binop (ev_binop (ev_var S17 (kn14.ix 3 rfl) (ev_var S17 (kn14.ix 1 rfl) (ev_add_list (S17.frz _ _ ga1) (S17.frz _ _ ga2) (le_line (by (first | lia | omega))) ?_))))))
      refine S17.push_frzK (lobj (v1 ++ v2) 0) rfl fun g18 le18 hg18 S18 => ?_
      generalize hh.objs.size = T18 at hg18 S18
      refine ev_ifexpJ S18 (fun g' v => ∃ xs2, Is prog w g' v (.list (iL xs2)) ∧ xs2.length ≤ 1 ∧ sysF ls = xs ++ xs2) (ev_true_compare1 (ev_var S18 kn14.g0 (ev_int fun t19 => ev_ge (ev_truthy_bool (if_dec (fun p => ?_) (fun p => ?_)))))) ?_
      · refine ev_list (ev_args_cons (ev_var S18 kn14.g0 (ev_args_nil ⟨le_line (le_dec rfl), ?_⟩)))
        refine S18.push_frzK (lobj [.int rq tr] 0) rfl fun g19 le19 hg19 S19 => ?_
        exact ⟨g19, le19, ⟨[rq], .list hg19 (.cons .int .nil), by simp, by subst els; unfold sysF; rw [if_pos p]⟩, S19⟩
      · refine ev_list (ev_args_nil ⟨le_line (le_dec rfl), ?_⟩)
        refine S18.push_frzK (lobj [] 0) rfl fun g19 le19 hg19 S19 => ?_
        exact ⟨g19, le19, ⟨[], .list hg19 .nil, by simp, by subst els; unfold sysF; rw [if_neg p]⟩, S19⟩
      rintro v19 g19 h19 le19 ⟨xs2, iv2, hx2, hs⟩ S19
      obtain ⟨a3, v3, c3, rfl, ga3, iss3⟩ := iv2.asList
      have hv3 : v3.length ≤ 1 := by rw [iss3.length, iL_length]; exact hx2
      refine ev_add_list (S19.frz _ _ (le19 _ _ hg18)) (S19.frz _ _ ga3) (le_line (by rw [List.length_append]; (first | lia | omega))) ?_
      refine S19.push_frzK (lobj (v1 ++ v2 ++ v3) 0) rfl fun g20 le20 hg20 S20 => ?_
      generalize h19.objs.size = T20 at hg20 S20
      have glZ := (le18.trans le19).trans le20
      refine ev_store S20 (.inl ⟨rfl, rfl⟩) fun h21 S21 => ev_nil ⟨g20, _, _, rfl, glZ, ⟨sys ++ [some ls], .ref T20, _, _, oo, rfl, .cons (setM_self _ _ _) (kn14.tl.tl.tl.tl.other n4), so17.mono glZ, ⟨by rw [List.length_append, inv.len]; rfl, fun i h0 hi => ?_, fun x hx => ?_, ?_, ?_⟩⟩, S21⟩
      · by_cases q : i < j
        · obtain ⟨x, hx⟩ := inv.some i h0 q
          exact ⟨x, by rw [List.getElem?_append_left (by rw [inv.len]; exact q)]; exact hx⟩
        · have : i = j := by (first | lia | omega)
          subst this
          exact ⟨ls, by rw [List.getElem?_append_right (by rw [inv.len]; (first | lia | omega)), inv.len]; simp⟩
      · rcases List.mem_append.mp hx with q | q
        · exact inv.ok x q
        · rw [List.mem_singleton] at q; cases q; exact lsok
      · rw [List.map_append]; exact (inv.isy.mono (gl15.trans glZ)).append (.cons (ils.mono glZ) .nil)
      · refine .list hg20 ?_
        rw [wantF_snoc]
        show Iss prog w g20 _ (iL (wantF sys ++ sysF ls))
        rw [hs, ← List.append_assoc, iL_append, iL_append]
        exact ((iss1.mono glZ).append (iss2.mono glZ)).append (iss3.mono le20)
    refine ev_ifJ S16 (SyI prog w ad I SY SR oI vf.length l (j + 1))
      (ev_true_or2 (ev_true_compare1 (ev_var S16 (kn14.ix 2 rfl) (ev_int fun t17 => ev_gt (ev_truthy_bool ?_))))) ?_
    · by_cases q : (0 : Int) < j
      · simp only [q, decide_true, if_true]
        exact bodyT o13 h16 so16 S16
      · simp only [q, decide_false, Bool.false_eq_true, if_false]
        refine ev_true_compare1 (ev_draw (fun o => [(I, oI), (SY, lobj (vsy ++ [v15]) (cy + 1)), (SR, o)]) (fun o o' => .tail (.tail .head)) S16 G (hr.less (by decide)) so16 (kn14.get (.tail _ (.tail _ (.tail _ (.tail _ h1))))) ev_intQ (by decide) fun r17 t17 h17 o17 _ _ so17 S17 => ev_int fun t18 => ev_eq (ev_truthy_bool ?_))
        cases r17 == 0 with
        | true => simp only [if_true]; exact bodyT o17 h17 so17 S17
        | false =>
          simp only [Bool.false_eq_true, if_false]
          have hj0 : j = 0 := by (first | lia | omega)
          subst hj0
          have hs0 : sys = [] := List.length_eq_zero_iff.mp inv.len
          subst hs0
          have isy := inv.isy
          cases isy
          refine ev_cons (ev_assign_sub (ev_none (ev_var S17 (kn14.get (.tail _ (.tail _ (.tail _ (.tail _ hsy))))) (ev_int fun t19 => ev_set_list (S17.getV (.tail _ (.head _))) (by decide) (by simp) (fun h19 e19 b19 => ?_) (by simp)))))
          have S19 := S17.upd (.tail .head) b19 e19 (lobj_nocell _ _)
          exact ev_nil ⟨g15, _, _, rfl, GLe.refl _, ⟨[none], wv4, [.none], _, o17, rfl, kn14.tl.tl.tl, so17, ⟨rfl, fun i h0 hi => by (first | lia | omega), fun x hx => by simp at hx, .cons .none .nil, iw15⟩⟩, S19⟩
    rintro g20 V20 m20 h20 le20 ⟨sys', wv', vsy', cy', o', rfl, kn20, so20, inv'⟩ S20
    exact ev_nil (hT2 _ ⟨g20, _, _, gl15.trans le20, ⟨sys', wv', vsy', cy', o', rfl, kn20, so20, inv'⟩, S20⟩)
  · rintro g4 V4 m4 h4 le4 ⟨sys, wv4, vsy, cy, o4, rfl, kn4, so4, inv⟩ S4
    obtain ⟨d, x, y, rfl⟩ : ∃ d x y, sys = [d, x, y] := by
      have hl := inv.len
      rcases sys with _ | ⟨d, _ | ⟨x, _ | ⟨y, _ | ⟨z, r⟩⟩⟩⟩
      · cases hl
      · cases hl
      · cases hl
      · exact ⟨d, x, y, rfl⟩
      · simp only [List.length_cons] at hl; (first | lia | omega)
    · skip
      obtain ⟨l1, e1⟩ := inv.some 1 (by decide) (by decide)
      obtain ⟨l2, e2⟩ := inv.some 2 (by decide) (by decide)
      have e1' : x = some l1 := by simpa using e1
      have e2' : y = some l2 := by simpa using e2
      subst e1' e2'
      exact fin d l1 l2 wv4 g4 m4 vsy cy o4 h4 (le3.trans le4) kn4 so4 inv S4
end
noncomputable def tD (wh : Str) (k : Int) : D := .tup [.str "GSUB", .str wh, .int k]
noncomputable def tL (wh : Str) (xs : List Int) : List D := (srt xs).map (tD wh)
theorem tL_len {wh : Str} {xs : List Int} (few : Few xs) : (tL wh xs).length < 64 := by unfold tL; rw [List.length_map]; exact srt_len few
theorem plains_tL (wh : Str) : ∀ xs : List Int, Plains (xs.map (tD wh)) 1
  | [] => .nil
  | x :: r => .cons (.tup (.cons .str (.cons .str (.cons .int .nil)))) (plains_tL wh r)
theorem plains_app : ∀ {a b : List D} {n : Nat}, Plains a n → Plains b n → Plains (a ++ b) n
  | _, _, _, .nil, y => y
  | _, _, _, .cons p q, y => .cons p (plains_app q y)
section
variable {prog : Program} {w : World} {A : Around} {B : Bs} {g g' : Gm} {V V' : List (Addr × Obj)} {env : Env} {m : Str → Option Value} {h h' hb : Heap} {K : Frag} {mg mb : Str → Option Value} {ad : Ads} {C fI : Addr}
theorem ev_ne_data {u v : Value} {ds : List D} {n : Nat} {P : Value → Heap → Prop} (S : St B g V env m h) (hu : Is prog w g u (.list ds)) (hv : Is prog w g v (.list ds)) (hp : Plains ds n) (hA : A.units + n + 1 < cLine) (x : P (.bool false) h) : Ev prog w A (compareOp .NotEq u v) h P := fun s E hs => by
  subst hs
  obtain ⟨a, us, k, rfl, ga, iu⟩ := hu.asList
  obtain ⟨b, vs, k', rfl, gb, iv⟩ := hv.asList
  have hl : us.length = vs.length := iu.length.trans iv.length.symm
  have key := PySem.SeqAt.RcNeAt.lists (A := A) (e := fun _ => true) (isList_of (S.frz _ _ ga)) (isList_of (S.frz _ _ gb)) (by simpa using hl) (by (first | lia | omega)) (fun j h1 h2 => by
    have e1 : us[j]? = some us.toArray[j] := by simp at h1; simp [h1]
    have e2 : vs[j]? = some vs.toArray[j] := by simp at h2; simp [h2]
    obtain ⟨d, hd, i1⟩ := iu.get e1
    obtain ⟨d', hd', i2⟩ := iv.get e2
    rw [hd] at hd'; cases hd'
    exact eqAt_of prog w S.frz n A.in1 _ _ d (hp.get d (List.mem_of_getElem? hd)) i1 i2 (by show A.units + 1 + n < _; (first | lia | omega)))
  rw [allT] at key
  exact key prog w E _ ⟨Same.refl s, x⟩
/-- u + v, both frozen lists -/
theorem ev_addV {u v : Value} {ds es : List D} {P : Value → Heap → Prop} (S : St B g V env m h) (iu : Is prog w g u (.list ds)) (iv : Is prog w g v (.list es)) (hz : ds.length + es.length ≤ 10000)
    (hP : ∀ r g' h', GLe g g' → Is prog w g' r (.list (ds ++ es)) → St B g' V env m h' → P r h') : Ev prog w A (binaryOp .Add u v) h P := by
  obtain ⟨a, us, k, rfl, ga, iss⟩ := iu.asList
  obtain ⟨b, vs, k', rfl, gb, iss'⟩ := iv.asList
  refine ev_add_list (S.frz _ _ ga) (S.frz _ _ gb) (le_line (by rw [iss.length, iss'.length]; exact hz)) ?_
  refine S.push_frzK (lobj (us ++ vs) 0) rfl fun g1 le1 hg1 S1 => ?_
  exact hP _ g1 _ le1 (.list hg1 ((iss.mono le1).append (iss'.mono le1))) S1
inductive ToldK (prog : Program) (w : World) (B : Bs) (V : List (Addr × Obj)) (env : Env) (m : Str → Option Value) (g : Gm) (T : Gm → List Int → Prop) (v : Value) (h1 : Heap) : Prop
  | mk (g1 : Gm) (xs : List Int) : GLe g g1 → St B g1 V env m h1 → Is prog w g1 v (.list (iL xs)) → Few xs → xs.length < 1000 → T g1 xs → ToldK prog w B V env m g T v h1
/-- _law_told(what, e) -/
theorem ev_told {e : Expr} {wh : Str} {k0 : Nat} {p1 p2 p3 : Pos} {P : Value → Heap → Prop} (S : St B g V env m h) (G : Gd K mg mb B.hb ad) (hr : Room A 5)
    (y : Ev prog w A (eval e env) h (ToldK prog w B V env m g fun g1 xs => ∀ u g2 h2, GLe g1 g2 → Is prog w g2 u (.list (tL wh xs)) → St B g2 V env m h2 → P u h2))
    (he : starEach [.Constant (.str wh) k0 p2, e] env = [(false, eval (.Constant (.str wh) k0 p2) env), (false, eval e env)] := by rfl)
    (hkf : env.kindOf "_law_told" = some .globalImplicit := by rfl) (hg : env.globals = mainGlobals := by rfl) :
    Ev prog w A (eval (.Call (.Name "_law_told" p1) [.Constant (.str wh) k0 p2, e] [] p3) env) h P := by
  refine ev_callD S G.cx G.told (ev_args_cons (ev_str fun t => ev_args_cons (y.mono fun v h1 ⟨g1, xs, le1, S1, iv, few, hz, fin⟩ => ev_args_nil ⟨S1.hbk, ?_⟩) ?_) ?_) hkf (by rfl) hg (by rw [he]; rfl)
  · exact (c_told G (hr.less (by decide)) S1.hp (s2 := wh) .str iv few hz).use S1 fun u2 g2 h2 le2 iu2 S2 => fin u2 g2 h2 le2 iu2 S2
  · exact congrArg (List.drop 1) he
  · rw [show starEach [e] env = [(false, eval e env)] from congrArg (List.drop 1) he]; exact he
/-- due = due + _law_told(what, e) -/
theorem ev_dueT {e : Expr} {wh : Str} {k0 : Nat} {p1 p2 p3 p4 p5 p6 pos : Pos} {ds : List D} {dv : Value} {P : Flow → Heap → Prop} (S : St B g V env m h) (G : Gd K mg mb B.hb ad) (hr : Room A 5) (hv : m "due" = some dv) (id : Is prog w g dv (.list ds)) (hz : ds.length ≤ 5000) (hko : StoreOk B env "due")
    (y : Ev prog w A (eval e env) h (ToldK prog w B V env m g fun g1 xs => ∀ u g2 h2, GLe g1 g2 → Is prog w g2 u (.list (ds ++ tL wh xs)) → St B g2 V env (setM m "due" u) h2 → P .next h2))
    (he : starEach [.Constant (.str wh) k0 p2, e] env = [(false, eval (.Constant (.str wh) k0 p2) env), (false, eval e env)] := by rfl)
    (hkf : env.kindOf "_law_told" = some .globalImplicit := by rfl) (hg : env.globals = mainGlobals := by rfl) (hk : isVar env "due" = true := by rfl)
    (hs : swapsWith (.BinOp (.Name "due" p5) .Add (.Call (.Name "_law_told" p1) [.Constant (.str wh) k0 p2, e] [] p3) p4) (some (.Name "due" p6)) pos.line env = pure false := by rfl) :
    Ev prog w A (exec (.Assign [.Name "due" p6] (.BinOp (.Name "due" p5) .Add (.Call (.Name "_law_told" p1) [.Constant (.str wh) k0 p2, e] [] p3) p4) pos) env) h P := by
  refine ev_assign (ev_binop (ev_var S hv (ev_told S G hr (y.mono fun v h1 ⟨g1, xs, le1, S1, iv, few, hz1, fin⟩ => ⟨g1, xs, le1, S1, iv, few, hz1, fun u g2 h2 le2 iu S2 => ?_⟩) he hkf hg) hk (by rfl))) hs
  have hl := tL_len (wh := wh) few
  exact ev_addV S2 (id.mono (le1.trans le2)) iu (by (first | lia | omega)) fun r g3 h3 le3 ir S3 => ev_store S3 hko fun h4 S4 => fin r g3 h4 (le2.trans le3) ir S4
structure Facts (prog : Program) (w : World) (g : Gm) (ad : Ads) (y : Lay) (wv tv FE SE PL ST LL : Value) : Prop where
  iw : Is prog w g wv (.list (iL (y.sys.flatMap sysF)))
  it : Is prog w g tv (.list (iL (flatL y.feats)))
  ife : Is prog w g FE (.list (y.feats.map (featD ad)))
  ise : Is prog w g SE (.list (iL (setsL y.lks)))
  ipl : Is prog w g PL (.list (iL (placesL y.lks)))
  ist : Is prog w g ST (stepsD (stepsL y.lks))
  ill : Is prog w g LL (.list (y.lks.map (lkD ad)))
theorem Facts.mono {y : Lay} {wv tv FE SE PL ST LL : Value} (f : Facts prog w g ad y wv tv FE SE PL ST LL) (le : GLe g g') : Facts prog w g' ad y wv tv FE SE PL ST LL :=
  ⟨f.iw.mono le, f.it.mono le, f.ife.mono le, f.ise.mono le, f.ipl.mono le, f.ist.mono le, f.ill.mono le⟩
end
theorem rowOf_out {W : List (List Int)} {k : Int} (h : (W.length : Int) ≤ k) : rowOf W k = [] := by
  unfold rowOf
  simp [List.getElem?_eq_none (show W.length ≤ k.toNat by (first | lia | omega))]
theorem filter_isEmpty {xs : List Int} {p : Int → Bool} : (!(xs.filter p).isEmpty) = xs.any p := by
  induction xs with
  | nil => rfl
  | cons x r ih =>
    rw [List.filter_cons, List.any_cons]
    cases q : p x with
    | true => simp
    | false => simp only [Bool.false_eq_true, if_false, Bool.false_or]; exact ih
theorem iL_flat2 {xs : List Int} {p : Int → Bool} {ins : Int → List Int} : (xs.flatMap fun a => if p a = true then (ins a).filterMap (fun k => some (D.int k)) else []) = iL (xs.flatMap fun a => if p a = true then ins a else []) := by
  unfold iL
  rw [List.map_flatMap]
  refine congrArg (fun f => List.flatMap f xs) (funext fun a => ?_)
  by_cases q : p a = true
  · rw [if_pos q, if_pos q, List.filterMap_eq_map']
  · rw [if_neg q, if_neg q]; rfl
section
variable {prog : Program} {w : World} {A : Around} {B : Bs} {g g' : Gm} {V V' : List (Addr × Obj)} {env : Env} {m : Str → Option Value} {h h' hb : Heap} {K : Frag} {mg mb : Str → Option Value} {ad : Ads} {C fI : Addr}
/-- the law from its layout on -/
theorem law_tail {cx : CallX} {SR SY : Addr} {o : Obj} {y : Lay} {wv tv FE SE PL ST LL : Value} {vsy : List Value} {cy : Nat} {tc : Tok} {P : Flow → Heap → Prop}
    (S : St B g [(SR, o)] (lawEnv cx) m h) (G : Gd K mg mb B.hb ad) (hr : Room A 20) (hW : B.W = []) (hown : B.own = fnOwn cx.L (cellsFrom (cx.L + 1) d_law.scope.names [])) (so : SrcAt g o) (ok : y.Ok) (hpos : ∀ k, ∀ j ∈ rowOf (stepsL y.lks) k, 0 ≤ j) (tpos : ∀ k ∈ flatL y.feats, 0 ≤ k) (ltold : (flatL y.feats).length ≤ 50)
    (kn : Kn m [("wanted", wv), ("systems", .ref SY), ("told", tv), ("features", FE), ("sets", SE), ("places", PL), ("steps", ST), ("lookups", LL), ("count", .int y.lks.length tc), ("source", .ref SR)])
    (hSY : g SY = some (lobj vsy cy)) (isy : Iss prog w g vsy ([y.dflt, some y.l1, some y.l2].map (dfD ad))) (f : Facts prog w g ad y wv tv FE SE PL ST LL)
    (hP : ∀ h', (∀ b o, B.h₀.get? b = some o → b ∉ B.W → h'.get? b = some o) → P (.ret (.bool true)) h') : Ev prog w A (execs (d_law.body.drop 13) (lawEnv cx)) h P := by
  have hW' : ∀ {x : Addr}, x ∉ B.W := fun {x} => by rw [hW]; exact List.not_mem_nil
  have okn := ok.n
  have okf := ok.fn
  have lenS := stepsL_len y.lks
  have rowS := stepsL_row (lks := y.lks) fun k hk => (ok.lk k hk).1
  have hrowS : ∀ k, (rowOf (stepsL y.lks) k).length ≤ 100 := fun k => by have := (rowS k).1; (first | lia | omega)
  cases isy with
  | cons i0 r =>
  cases r with
  | cons i1 r =>
  cases r with
  | cons i2 r =>
  cases r
  rename_i v0 v1 v2
  -- layout
  refine ev_cons (ev_assign (ev_callC S G.cx G.Layout.1 (ev_args_cons (ev_dicts1 S G fun D h1 S1 => ev_callC S1 G.cx G.Script.1 (ev_args_cons (ev_str fun t1 => ev_args_cons (ev_subscript (ev_var S1 (kn.ix 1 rfl) (ev_int fun t2 => ev_item_list (S1.frz _ _ hSY) (by decide) rfl
    (ev_args_cons (ev_dicts2 (by decide) S1 G fun D2 h2 S2 => ev_subscript (ev_var S2 (kn.ix 1 rfl) (ev_int fun t3 => ev_item_list (S2.frz _ _ hSY) (by decide) rfl ⟨g, lsD ad y.l1, GLe.refl _, i1, S2,
      ev_subscript (ev_var S2 (kn.ix 1 rfl) (ev_int fun t4 => ev_item_list (S2.frz _ _ hSY) (by decide) rfl ⟨g, lsD ad y.l2, GLe.refl _, i2, S2, fun u3 g3 h3 le3 iu3 S3 => ev_args_nil ⟨S3.hbk, ?_⟩⟩))⟩)))))))))))))
  refine mk_Script (d0 := .str "latn") (d1 := dfD ad y.dflt) S3 G (hr.less (by decide)) .str (i0.mono le3) iu3 fun v4 g4 h4 le4 iv4 S4 => ?_
  refine ⟨g4, scriptD ad y, le3.trans le4, iv4, S4, fun u5 g5 h5 le5 iu5 S5 => ?_⟩
  have gl5 := (le3.trans le4).trans le5
  have f5 := f.mono gl5
  refine ev_args_cons (ev_var S5 (kn.ix 3 rfl) (ev_args_cons (ev_var S5 (kn.ix 7 rfl) (ev_args_nil ⟨S5.hbk, ?_⟩))))
  refine mk_Layout (d0 := .dicts [("latn", scriptD ad y)]) S5 G (hr.less (by decide)) iu5 f5.ife f5.ill fun yv g6 h6 le6 iyv S6 => ?_
  have f6 := f5.mono le6
  have iy : Is prog w g6 yv (layD ad y) := iyv
  refine ev_store S6 (.inl ⟨rfl, rfl⟩) fun h7 S7 => ?_
  have kn7 := kn.add (x := "layout") (v := yv)
  generalize setM m "layout" yv = m7 at S7 kn7
  -- set_count
  refine ev_cons (ev_assign (ev_draw (fun o => [(SR, o)]) (fun o o' => .head) S7 G (hr.less (by decide)) (so.mono (gl5.trans le6)) (kn7.ix 10 rfl) ev_intQ (by decide) fun sc ts h8 o8 hs0 hs1 so8 S8 => ev_store S8 (.inr ⟨rfl, _, rfl, by rw [hown]; exact .inr ⟨"set_count", rfl⟩⟩) fun h9 S9 => ?_))
  have kn9 := kn7.add (x := "set_count") (v := .int sc ts)
  generalize setM m7 "set_count" (.int sc ts) = m9 at S9 kn9
  -- ways
  refine ev_cons (ev_assign (ev_callD S9 G.cx G.ways (ev_args_cons (ev_var S9 (kn9.ix 8 rfl) (ev_args_nil ⟨S9.hbk, ?_⟩)))))
  refine (c_ways G (hr.less (by decide)) S9.hp f6.ist (by (first | lia | omega)) hrowS).use S9 fun wy g10 h10 le10 iwy S10 => ?_
  refine ev_store S10 (.inr ⟨rfl, _, rfl, by rw [hown]; exact .inr ⟨"ways", rfl⟩⟩) fun h11 S11 => ?_
  have f11 := f6.mono le10
  have iy11 := iy.mono le10
  have kn11 := kn9.add (x := "ways") (v := wy)
  generalize setM m9 "ways" wy = m11 at S11 kn11
  obtain ⟨aw, vw, cw, ewy, gaw, issw⟩ := iwy.asList
  subst ewy
  have lw : (waysL (stepsL y.lks)).length = y.lks.length := by rw [(waysL_ok _).len, lenS]
  have lvw : vw.length = y.lks.length := by rw [issw.length, List.length_map, lw]
  have okw : ∀ {j : Nat}, j < y.lks.length → okIn (waysL (stepsL y.lks)).length (j : Int) := fun hj => by rw [lw]; exact okIn_nat hj
  have okS : ∀ {j : Nat}, j < y.lks.length → okIn (stepsL y.lks).length (j : Int) := fun hj => by rw [lenS]; exact okIn_nat hj
  have lwrow : ∀ {k : Int}, okIn (stepsL y.lks).length k → (rowOf (waysL (stepsL y.lks)) k).length ≤ 10 := fun hk => by have := (waysL_ok (stepsL y.lks)).len' hk; (first | lia | omega)
  -- rings
  refine ev_cons (ev_assign (ev_elc S11 hr.hh rfl (ev_callB S11 G.cx G.bi.range (fun _ => keepable_type _ _) (ev_args_cons (ev_var S11 (kn11.ix 11 rfl) (ev_args_nil (ev_range S11 (by (first | lia | omega)) fun r12 g12 h12 le12 src12 S12 => ?_)))))))
  refine LcK.overR S12 G src12 [("ways", .ref aw)] (fun k => if decide (k ∈ rowOf (waysL (stepsL y.lks)) k) = true then some (.int k) else none) ?_ (by (first | lia | omega)) ?_ ?_
  · refine Kn.cmp kn11 fun p hp => ?_
    simp only [List.mem_cons, List.not_mem_nil, or_false] at hp
    rcases hp with rfl; exact ⟨List.mem_of_getElem? (i := 0) rfl, rfl⟩
  · intro j t g13 m h B' V' C G hV hj le kn S
    refine ev_assign_name S (.inl ⟨rfl, rfl⟩) fun h2 S => ev_test1 ?_
    have kn' : Kn (setM m "number" (.int j t)) [("ways", .ref aw)] := kn.other
    refine ev_true_compare1 (ev_var S (setM_self _ _ _) (ev_rowAt S kn'.g0 (S.frz _ _ ((le12.trans le) _ _ gaw)) (issw.mono (le12.trans le)) (setM_self _ _ _) (okw hj) (by (first | lia | omega)) fun u iu => ?_))
    obtain ⟨a1, v1, c1, rfl, ga1, iss1⟩ := iu.asList
    refine ev_in (S.frz _ _ ga1) iss1.iL (ev_truthy_bool ?_)
    refine if_dec (fun p => ?_) (fun p => ?_)
    · exact ev_var S (setM_self _ _ _) ⟨g13, _, _, GLe.refl _, kn', S, by simp [p], .int⟩
    · exact ⟨g13, _, GLe.refl _, kn', S, by simp [p]⟩
  intro DR g13 ys13 c13 h13 g14 le13 hys13 le14 hg14 S14
  rw [iL_filter, ← lenS, rings_law] at hys13
  have gl14 := (le12.trans le13).trans le14
  have irg : Is prog w g14 (.ref DR) (.list (iL (ringsL (stepsL y.lks)))) := .list hg14 (hys13.mono le14)
  refine ev_store S14 (.inr ⟨rfl, _, rfl, by rw [hown]; exact .inr ⟨"rings", rfl⟩⟩) fun h15 S15 => ?_
  have kn15 := kn11.add (x := "rings") (v := .ref DR)
  generalize setM m11 "rings" (.ref DR) = m15 at S15 kn15
  have f15 := f11.mono gl14
  have iy15 := iy11.mono gl14
  have gaw15 := gl14 _ _ gaw
  have issw15 := issw.mono gl14
  have frg : Few (ringsL (stepsL y.lks)) := few_in (n := (stepsL y.lks).length) (by (first | lia | omega)) fun k hk => (mem_rings.mp hk).1
  have lrg := ringsL_len (stepsL y.lks)
  -- lost
  refine ev_cons (ev_assign (ev_elc S15 hr.hh rfl (ev_callB S15 G.cx G.bi.range (fun _ => keepable_type _ _) (ev_args_cons (ev_var S15 (kn15.ix 12 rfl) (ev_args_nil (ev_range S15 (by (first | lia | omega)) fun r16 g16 h16 le16 src16 S16 => ?_)))))))
  refine LcK.overR S16 G src16 [("ways", .ref aw), ("rings", .ref DR)] (fun k => if lostB (stepsL y.lks) k = true then some (.int k) else none) ?_ (by (first | lia | omega)) ?_ ?_
  · refine Kn.cmp kn15 fun p hp => ?_
    simp only [List.mem_cons, List.not_mem_nil, or_false] at hp
    rcases hp with rfl | rfl
    · exact ⟨List.mem_of_getElem? (i := 1) rfl, rfl⟩
    · exact ⟨List.mem_of_getElem? (i := 0) rfl, rfl⟩
  · intro j t g17 m h B' V' C G hV hj le kn S
    refine ev_assign_name S (.inl ⟨rfl, rfl⟩) fun h2 S => ev_test1 ?_
    have kn' : Kn (setM m "number" (.int j t)) [("ways", .ref aw), ("rings", .ref DR)] := kn.other
    have gle := le16.trans le
    refine ev_true_value (ev_elc S hr.hh rfl (ev_binop (ev_list (ev_args_cons (ev_var S (setM_self _ _ _) (ev_args_nil ⟨le_line (le_dec rfl), ?_⟩))))))
    refine S.push_frzK (lobj [.int j t] 0) rfl fun g18 le18 hg18 S18 => ?_
    refine ev_rowAt S18 kn'.g0 (S18.frz _ _ ((gle.trans le18) _ _ gaw15)) (issw15.mono (gle.trans le18)) (setM_self _ _ _) (okw hj) (by (first | lia | omega)) fun u iu => ?_
    have lrw := lwrow (okS hj)
    refine ev_addV (ds := iL [(j : Int)]) S18 (.list hg18 (.cons .int .nil)) iu (by rw [iL_length, iL_length, List.length_singleton]; (first | lia | omega)) fun r19 g19 h19 le19 ir19 S19 => ?_
    rw [← iL_append] at ir19
    refine LcK.overL (xs := ([(j : Int)] ++ rowOf (waysL (stepsL y.lks)) j)) S19 G ir19 [("rings", .ref DR)] (fun k => if decide (k ∈ ringsL (stepsL y.lks)) = true then some (.int k) else none) ?_ (by rw [List.length_append, List.length_singleton]; (first | lia | omega)) ?_ ?_
    · refine Kn.cmp kn' fun p hp => ?_
      simp only [List.mem_cons, List.not_mem_nil, or_false] at hp
      rcases hp with rfl; exact ⟨List.mem_of_getElem? (i := 1) rfl, rfl⟩
    · intro j2 k u g21 m h B' V' C G hV hk iu le2 kn2 S2
      refine iu.intK fun t2 => ?_
      refine ev_assign_name S2 (.inl ⟨rfl, rfl⟩) fun h2 S2 => ev_test1 ?_
      have kn3 : Kn (setM m "one" (.int k t2)) [("rings", .ref DR)] := kn2.other
      obtain ⟨a1, v1, c1, e1, ga1, iss1⟩ := (irg.mono (((gle.trans le18).trans le19).trans le2)).asList
      cases e1
      refine ev_true_compare1 (ev_var S2 (setM_self _ _ _) (ev_var S2 kn3.g0 (ev_in (S2.frz _ _ ga1) iss1.iL (ev_truthy_bool ?_))))
      refine if_dec (fun p => ?_) (fun p => ?_)
      · exact ev_var S2 (setM_self _ _ _) ⟨g21, _, _, GLe.refl _, kn3, S2, by simp [p], .int⟩
      · exact ⟨g21, _, GLe.refl _, kn3, S2, by simp [p]⟩
    intro D21 g21 ys21 c21 h21 g22 le21 hys21 le22 hg22 S22
    rw [iL_filter] at hys21
    have hb : (!ys21.isEmpty) = lostB (stepsL y.lks) j := by
      rw [← lost_law (okS hj), ← List.singleton_append, ← filter_isEmpty]
      have := hys21.length
      rw [iL_length] at this
      congr 1
      generalize (([(j : Int)] ++ rowOf (waysL (stepsL y.lks)) j).filter fun k => decide (k ∈ ringsL (stepsL y.lks))) = fs at this
      cases ys21 <;> cases fs <;> simp_all
    have hyl : ys21.length ≤ 20 := by
      rw [hys21.length, iL_length]
      have := filter_len (fun k : Int => decide (k ∈ ringsL (stepsL y.lks))) ([(j : Int)] ++ rowOf (waysL (stepsL y.lks)) j)
      rw [List.length_append, List.length_singleton] at this; (first | lia | omega)
    refine ev_truthy_list (S22.frz _ _ hg22) (by (first | lia | omega)) ?_
    have glE := ((le18.trans le19).trans le21).trans le22
    rw [hb]
    cases hl : lostB (stepsL y.lks) j with
    | true =>
      simp only [if_true]
      exact ev_var S22 (setM_self _ _ _) ⟨g22, _, _, glE, kn', S22, by simp, .int⟩
    | false =>
      simp only [Bool.false_eq_true, if_false]
      exact ⟨g22, _, glE, kn', S22, by simp⟩
  intro DL g17 ys17 c17 h17 g18 le17 hys17 le18 hg18 S18
  rw [iL_filter] at hys17
  have gl18 := (le16.trans le17).trans le18
  obtain ⟨lostL, elost⟩ : ∃ l, l = (rangeI y.lks.length).filter fun k => lostB (stepsL y.lks) k := ⟨_, rfl⟩
  rw [← elost] at hys17
  have mlost : ∀ {j : Nat}, j < y.lks.length → decide ((j : Int) ∈ lostL) = lostB (stepsL y.lks) j := fun {j} hj => by
    rw [elost, Bool.eq_iff_iff, decide_eq_true_iff, List.mem_filter, mem_rangeI]
    exact ⟨fun h => h.2, fun h => ⟨okIn_nat hj, h⟩⟩
  have ilost : Is prog w g18 (.ref DL) (.list (iL lostL)) := .list hg18 (hys17.mono le18)
  refine ev_store S18 (.inr ⟨rfl, _, rfl, by rw [hown]; exact .inr ⟨"lost", rfl⟩⟩) fun h19 S19 => ?_
  have kn19 := kn15.add (x := "lost") (v := .ref DL)
  generalize setM m15 "lost" (.ref DL) = m19 at S19 kn19
  have f19 := f15.mono gl18
  -- deep
  refine ev_cons (ev_assign (ev_elc S19 hr.hh rfl (ev_callB S19 G.cx G.bi.range (fun _ => keepable_type _ _) (ev_args_cons (ev_var S19 (kn19.ix 13 rfl) (ev_args_nil (ev_range S19 (by (first | lia | omega)) fun r20 g20 h20 le20 src20 S20 => ?_)))))))
  refine LcK.overR S20 G src20 [("lost", .ref DL), ("steps", ST)] (fun k => some (.int (if lostB (stepsL y.lks) k = true then -1 else lng (stepsL y.lks) (stepsL y.lks).length k))) ?_ (by (first | lia | omega)) ?_ ?_
  · refine Kn.cmp kn19 fun p hp => ?_
    simp only [List.mem_cons, List.not_mem_nil, or_false] at hp
    rcases hp with rfl | rfl
    · exact ⟨List.mem_of_getElem? (i := 0) rfl, rfl⟩
    · exact ⟨List.mem_of_getElem? (i := 11) rfl, rfl⟩
  · intro j t g21 m h B' V' C G hV hj le kn S
    refine ev_assign_name S (.inl ⟨rfl, rfl⟩) fun h2 S => ev_noTests ?_
    have kn' : Kn (setM m "number" (.int j t)) [("lost", .ref DL), ("steps", ST)] := kn.other
    have gle := le20.trans le
    obtain ⟨a1, v1, c1, e1, ga1, iss1⟩ := (ilost.mono gle).asList
    cases e1
    refine ev_ifexp (ev_true_compare1 (ev_var S (setM_self _ _ _) (ev_var S kn'.g0 (ev_in (S.frz _ _ ga1) iss1.iL (ev_truthy_bool ?_)))))
    rw [mlost hj]
    cases hl : lostB (stepsL y.lks) j with
    | true =>
      simp only [if_true]
      exact ev_unary (ev_int fun t1 => ev_neg fun t2 => ⟨g21, _, _, GLe.refl _, kn', S, by simp, .int⟩)
    | false =>
      simp only [Bool.false_eq_true, if_false]
      refine ev_callD S G.cx G.longest (ev_args_cons (ev_var S kn'.g1 (ev_args_cons (ev_var S (setM_self _ _ _) (ev_args_nil ⟨S.hbk, ?_⟩)))))
      refine (c_longest G (by (first | lia | omega)) hrowS hpos (stepsL y.lks).length _ _ _ _ t (hr.less (by (first | lia | omega))) S.hp ((f19.mono gle).ist) (okS hj) hl (rch_len _ _)).use S fun u5 g5 h5 le5 iu5 S5 => ?_
      exact ⟨g5, _, _, le5, kn', S5, by simp, iu5⟩
  intro DD g21 ys21 c21 h21 g22 le21 hys21 le22 hg22 S22
  have e21 : ((rangeI y.lks.length).filterMap fun k => some (Mine.D.int (if lostB (stepsL y.lks) k = true then -1 else lng (stepsL y.lks) (stepsL y.lks).length k))) = iL (depsL (stepsL y.lks)) := by
    rw [List.filterMap_eq_map', deps_eq, lenS]; unfold iL; rw [List.map_map]; rfl
  rw [e21] at hys21
  have gl22 := (le20.trans le21).trans le22
  have ideep : Is prog w g22 (.ref DD) (.list (iL (depsL (stepsL y.lks)))) := .list hg22 (hys21.mono le22)
  refine ev_store S22 (.inr ⟨rfl, _, rfl, by rw [hown]; exact .inr ⟨"deep", rfl⟩⟩) fun h23 S23 => ?_
  have kn23 := kn19.add (x := "deep") (v := .ref DD)
  generalize setM m19 "deep" (.ref DD) = m23 at S23 kn23
  have f23 := f19.mono gl22
  have ftold : Few (flatL y.feats) := few_flat fun r hr => (ok.ft r hr).2
  have ldp := depsL_len (stepsL y.lks)
  -- live
  have gl1422 := gl18.trans gl22
  have lrowAll : ∀ k ∈ flatL y.feats, ((k :: rowOf (waysL (stepsL y.lks)) k).length ≤ 11) := fun k hk => by
    rw [List.length_cons]
    by_cases q : k < (y.lks.length : Int)
    · have := lwrow (k := k) ⟨tpos k hk, by rw [lenS]; exact q⟩; (first | lia | omega)
    · rw [rowOf_out (by rw [lw]; (first | lia | omega))]; simp
  refine ev_cons (ev_assign (ev_callB S23 G.cx G.bi.set (fun _ => keepable_type _ _) (ev_args_cons (ev_elc S23 hr.hh rfl (ev_var S23 (kn23.ix 8 rfl) ?_)))))
  refine LcK.overL2 (xs := (flatL y.feats)) S23 G f23.it [("count", .int y.lks.length tc), ("ways", .ref aw)] (fun k => decide (k < ((stepsL y.lks).length : Int))) (fun k => k :: rowOf (waysL (stepsL y.lks)) k) (fun _ k => some (.int k)) hr.hh ?_ (by (first | lia | omega)) (fun k hk => by have := lrowAll k hk; (first | lia | omega)) ?_ ?_
  · refine Kn.cmp kn23 fun p hp => ?_
    simp only [List.mem_cons, List.not_mem_nil, or_false] at hp
    rcases hp with rfl | rfl
    · exact ⟨List.mem_of_getElem? (i := 14) rfl, rfl⟩
    · exact ⟨List.mem_of_getElem? (i := 3) rfl, rfl⟩
  · intro j k u g25 m h B' V' C G hV hk iu le kn S
    refine iu.intK fun t => ?_
    have hkm := List.mem_of_getElem? hk
    refine ev_assign_name S (.inl ⟨rfl, rfl⟩) fun h2 S => ev_test1 ?_
    have kn' : Kn (setM m "number" (.int k t)) [("count", .int y.lks.length tc), ("ways", .ref aw)] := kn.other
    have gle := gl1422.trans le
    refine ev_true_compare1 (ev_var S (setM_self _ _ _) (ev_var S kn'.g0 (ev_lt (ev_truthy_bool ?_))))
    have eln : decide (k < (y.lks.length : Int)) = decide (k < ((stepsL y.lks).length : Int)) := by rw [lenS]
    rw [eln]
    refine if_dec (fun p => ?_) (fun p => ?_)
    · refine ⟨decide_eq_true p, ev_binop (ev_list (ev_args_cons (ev_var S (setM_self _ _ _) (ev_args_nil ⟨le_line (le_dec rfl), ?_⟩))))⟩
      refine S.push_frzK (lobj [.int k t] 0) rfl fun g26 le26 hg26 S26 => ?_
      have hok : okIn (stepsL y.lks).length k := ⟨tpos k hkm, p⟩
      refine ev_rowAt S26 kn'.g1 (S26.frz _ _ ((gle.trans le26) _ _ gaw15)) (issw15.mono (gle.trans le26)) (setM_self _ _ _) (by rw [lw, ← lenS]; exact hok) (by (first | lia | omega)) fun u iu => ?_
      have lrw := lwrow hok
      refine ev_addV (ds := iL [k]) S26 (.list hg26 (.cons .int .nil)) iu (by rw [iL_length, iL_length, List.length_singleton]; (first | lia | omega)) fun r27 g27 h27 le27 ir27 S27 => ?_
      rw [← iL_append] at ir27
      refine Cd2.overL (xs := k :: rowOf (waysL (stepsL y.lks)) k) (dof := .int) ir27 (le26.trans le27) kn' S27 ?_
      intro j3 k3 v3 g29 m h V3 hV3 hk3 iv le29 kn29 S29
      refine ev_assign_name S29 (.inl ⟨rfl, rfl⟩) fun h7 S7 => ev_noTests ?_
      exact ev_var S7 (setM_self _ _ _) ⟨g29, _, _, GLe.refl _, kn29.other, S7, rfl, iv.mono le29⟩
    · exact ⟨g25, _, GLe.refl _, kn', S, decide_eq_false p⟩
  intro DV g25 ys25 c25 h25 g26 le25 hys25 le26 hg26 S26
  rw [iL_flat2] at hys25
  have elv : ((flatL y.feats).flatMap fun a => if decide (a < ((stepsL y.lks).length : Int)) = true then a :: rowOf (waysL (stepsL y.lks)) a else []) = liveL (stepsL y.lks) (flatL y.feats) := rfl
  rw [elv] at hys25
  have llv : (liveL (stepsL y.lks) (flatL y.feats)).length ≤ 550 := by
    have := flat_len (f := fun a : Int => if decide (a < ((stepsL y.lks).length : Int)) = true then a :: rowOf (waysL (stepsL y.lks)) a else []) (c := 11) (l := flatL y.feats) fun k hk => by
      split
      · exact lrowAll k hk
      · simp
    have : (liveL (stepsL y.lks) (flatL y.feats)).length ≤ (flatL y.feats).length * 11 := this
    (first | lia | omega)
  refine ev_args_nil (ev_set_is S26 hr.hh (.list hg26 (hys25.mono le26)) (by (first | lia | omega)) fun LV g27 h27 le27 _ slv S27 => ?_)
  refine ev_store S27 (.inr ⟨rfl, _, rfl, by rw [hown]; exact .inr ⟨"live", rfl⟩⟩) fun h28 S28 => ?_
  have kn28 := kn23.add (x := "live") (v := .ref LV)
  generalize setM m23 "live" (.ref LV) = m28 at S28 kn28
  have gl27 := (le25.trans le26).trans le27
  have f27 := f23.mono gl27
  have irg27 := irg.mono (gl1422.trans gl27)
  have ideep27 := ideep.mono gl27
  have iy27 := iy15.mono (gl1422.trans gl27)
  have mlv : ∀ k : Int, decide (k ∈ liveL (stepsL y.lks) (flatL y.feats)) = decide (k ∈ rch (stepsL y.lks) (flatL y.feats)) := fun k => by
    rw [Bool.eq_iff_iff, decide_eq_true_iff, decide_eq_true_iff, mem_live tpos, mem_rch]
  -- due: lookup
  have fstep : Few (flatL (stepsL y.lks)) := few_flat fun r hr => by
    unfold stepsL at hr
    obtain ⟨l, hl, rfl⟩ := List.mem_map.mp hr
    exact few_srt (ok.lk l hl).1.few
  have lstep : (flatL (stepsL y.lks)).length ≤ 640 := by
    have := flat_len (f := fun r : List Int => r) (c := 64) (l := stepsL y.lks) fun r hr => by
      unfold stepsL at hr
      obtain ⟨l, hl, rfl⟩ := List.mem_map.mp hr
      exact Nat.le_of_lt (srt_len (ok.lk l hl).1.few)
    have : (flatL (stepsL y.lks)).length ≤ (stepsL y.lks).length * 64 := this
    (first | lia | omega)
  have fasked := few_app ftold fstep
  have lasked : (flatL y.feats ++ flatL (stepsL y.lks)).length ≤ 690 := by rw [List.length_append]; (first | lia | omega)
  refine ev_cons (ev_assign (ev_told S28 G (hr.less (by decide)) (ev_elc S28 hr.hh rfl (ev_binop (ev_var S28 (kn28.ix 9 rfl) (ev_elc S28 hr.hh rfl (ev_var S28 (kn28.ix 13 rfl) ?_)))))))
  refine LcK.overL2 (xs := (stepsL y.lks)) S28 G f27.ist [] (fun _ => true) (fun r => r) (fun _ k => some (.int k)) hr.hh Kn.nil (by (first | lia | omega)) (fun r hr => ?_) ?_ ?_
  · unfold stepsL at hr
    obtain ⟨l, hl, rfl⟩ := List.mem_map.mp hr
    have := srt_len (ok.lk l hl).1.few; (first | lia | omega)
  · intro j r u g6 m h B' V' C G hV hrr iu le kn S
    refine ev_assign_name S (.inl ⟨rfl, rfl⟩) fun h2 S => ev_tests_nil ?_
    rw [if_pos rfl]
    refine ⟨rfl, ev_var S (setM_self _ _ _) ?_⟩
    refine Cd2.overL (iu.mono le) (GLe.refl _) Kn.nil S ?_
    intro j3 k v3 g6 m h V3 hV3 hk iv le6 kn6 S6
    refine ev_assign_name S6 (.inl ⟨rfl, rfl⟩) fun h7 S7 => ev_noTests ?_
    exact ev_var S7 (setM_self _ _ _) ⟨g6, _, _, GLe.refl _, Kn.nil, S7, rfl, iv.mono le6⟩
  intro D30 g30 ys30 c30 h30 g31 le30 hys30 le31 hg31 S31
  rw [iL_flat] at hys30
  refine ev_addV S31 (f27.it.mono (le30.trans le31)) (.list hg31 (hys30.mono le31)) (by rw [iL_length, iL_length]; (first | lia | omega)) fun r32 g32 h32 le32 ir32 S32 => ?_
  rw [← iL_append] at ir32
  have gl32 := (le30.trans le31).trans le32
  refine LcK.overL (xs := flatL y.feats ++ flatL (stepsL y.lks)) S32 G ir32 [("count", .int y.lks.length tc)] (fun k => if decide (k ≥ (y.lks.length : Int)) = true then some (.int k) else none) ?_ (by (first | lia | omega)) ?_ ?_
  · refine Kn.cmp kn28 fun p hp => ?_
    simp only [List.mem_cons, List.not_mem_nil, or_false] at hp
    rcases hp with rfl; exact ⟨List.mem_of_getElem? (i := 15) rfl, rfl⟩
  · intro j k u g34 m h B' V' C G hV hk iu le kn S
    refine iu.intK fun t => ?_
    refine ev_assign_name S (.inl ⟨rfl, rfl⟩) fun h2 S => ev_test1 ?_
    have kn' : Kn (setM m "number" (.int k t)) [("count", .int y.lks.length tc)] := kn.other
    refine ev_true_compare1 (ev_var S (setM_self _ _ _) (ev_var S kn'.g0 (ev_ge (ev_truthy_bool ?_))))
    refine if_dec (fun p => ?_) (fun p => ?_)
    · exact ev_var S (setM_self _ _ _) ⟨g34, _, _, GLe.refl _, kn', S, by simp [p], .int⟩
    · exact ⟨g34, _, GLe.refl _, kn', S, by simp [p]⟩
  intro D34 g34 ys34 c34 h34 g35 le34 hys34 le35 hg35 S35
  rw [iL_filter] at hys34
  have len34 := filter_len (fun k : Int => decide (k ≥ (y.lks.length : Int))) (flatL y.feats ++ flatL (stepsL y.lks))
  refine ⟨g35, geF y.lks.length (flatL y.feats ++ flatL (stepsL y.lks)), (gl32.trans le34).trans le35, S35, .list hg35 (hys34.mono le35), few_filter fasked _, Nat.lt_of_le_of_lt len34 (by (first | lia | omega)), fun d36 g36 h36 le36 id36 S36 => ?_⟩
  refine ev_store S36 (.inl ⟨rfl, rfl⟩) fun h37 S37 => ?_
  have kn37 := kn28.add (x := "due") (v := d36)
  generalize setM m28 "due" d36 = m37 at S37 kn37
  have gl36 := ((gl32.trans le34).trans le35).trans le36
  have ld36 := tL_len (wh := "lookup") (few_filter fasked (fun k : Int => decide (k ≥ (y.lks.length : Int))))
  have ffeat : Few (y.sys.flatMap sysF) := fun k hk => by
    obtain ⟨l, hl, hk⟩ := List.mem_flatMap.mp hk
    exact (ok.ls l hl).2 k hk
  have lfeat : (y.sys.flatMap sysF).length ≤ 33 := by
    have hsl := sys_len y
    have := flat_len (f := sysF) (c := 11) (l := y.sys) fun l hl => by
      have := (ok.ls l hl).1
      unfold sysF; rw [List.length_append]; split <;> simp <;> (first | lia | omega)
    (first | lia | omega)
  -- due: feature
  refine ev_cons (ev_dueT S37 G (hr.less (by decide)) (kn37.ix 0 rfl) id36 (by have : (tL "lookup" (geF y.lks.length (flatL y.feats ++ flatL (stepsL y.lks)))).length < 64 := ld36; (first | lia | omega)) (.inl ⟨rfl, rfl⟩) (ev_elc S37 hr.hh rfl (ev_var S37 (kn37.ix 8 rfl) ?_)))
  obtain ⟨af, vf, cf, eFE, gaf, issf⟩ := (f27.ife.mono gl36).asList
  have lvf : vf.length = y.feats.length := by rw [issf.length, List.length_map]
  refine LcK.overL (xs := y.sys.flatMap sysF) S37 G (f27.iw.mono gl36) [("features", FE)] (fun k => if decide (k ≥ (y.feats.length : Int)) = true then some (.int k) else none) ?_ (by (first | lia | omega)) ?_ ?_
  · refine Kn.cmp kn37 fun p hp => ?_
    simp only [List.mem_cons, List.not_mem_nil, or_false] at hp
    rcases hp with rfl; exact ⟨List.mem_of_getElem? (i := 11) rfl, rfl⟩
  · intro j k u g39 m h B' V' C G hV hk iu le kn S
    refine iu.intK fun t => ?_
    refine ev_assign_name S (.inl ⟨rfl, rfl⟩) fun h2 S => ev_test1 ?_
    have kn' : Kn (setM m "number" (.int k t)) [("features", FE)] := kn.other
    refine ev_true_compare1 (ev_var S (setM_self _ _ _) (ev_callB S G.cx G.bi.len (fun _ => keepable_builtin _ _) (ev_args_cons (ev_var S (kn'.g0.trans (congrArg some eFE)) (ev_args_nil (ev_len (S.frz _ _ (le _ _ gaf)) fun t2 => ev_ge (ev_truthy_bool ?_)))))))
    rw [lvf]
    refine if_dec (fun p => ?_) (fun p => ?_)
    · exact ev_var S (setM_self _ _ _) ⟨g39, _, _, GLe.refl _, kn', S, by simp [p], .int⟩
    · exact ⟨g39, _, GLe.refl _, kn', S, by simp [p]⟩
  intro D39 g39 ys39 c39 h39 g40 le39 hys39 le40 hg40 S40
  rw [iL_filter] at hys39
  have len39 := filter_len (fun k : Int => decide (k ≥ (y.feats.length : Int))) (y.sys.flatMap sysF)
  refine ⟨g40, geF y.feats.length (y.sys.flatMap sysF), le39.trans le40, S40, .list hg40 (hys39.mono le40), few_filter ffeat _, Nat.lt_of_le_of_lt len39 (by (first | lia | omega)), fun d41 g41 h41 le41 id41 S41 => ?_⟩
  have kn41 : Kn (setM m37 "due" d41) (("due", d41) :: _) := .cons (setM_self _ _ _) (kn37.tl.other)
  generalize setM m37 "due" d41 = m41 at S41 kn41
  have gl41 := ((gl36.trans le39).trans le40).trans le41
  have lA1 : (tL "lookup" (geF y.lks.length (flatL y.feats ++ flatL (stepsL y.lks)))).length < 64 := ld36
  have lA2 : (tL "feature" (geF y.feats.length (y.sys.flatMap sysF))).length < 64 := tL_len (few_filter ffeat _)
  have fsets : Few (setsL y.lks) := fun k hk => by
    unfold setsL at hk
    obtain ⟨l, hl, rfl⟩ := List.mem_map.mp hk
    exact (ok.lk l (List.mem_filter.mp hl).1).2.2.2
  have lsets : (setsL y.lks).length ≤ 10 := by
    unfold setsL; rw [List.length_map]
    have := filter_len (fun k : Lk => decide (k.flag = 16)) y.lks; (first | lia | omega)
  -- due: set
  refine ev_cons (ev_dueT S41 G (hr.less (by decide)) (kn41.ix 0 rfl) id41 (by rw [List.length_append]; (first | lia | omega)) (.inl ⟨rfl, rfl⟩) (ev_elc S41 hr.hh rfl (ev_var S41 (kn41.ix 12 rfl) ?_)))
  refine LcK.overL (xs := (setsL y.lks)) S41 G (f27.ise.mono gl41) [("set_count", .int sc ts)] (fun k => if decide (k ≥ sc) = true then some (.int k) else none) ?_ (by (first | lia | omega)) ?_ ?_
  · refine Kn.cmp kn41 fun p hp => ?_
    simp only [List.mem_cons, List.not_mem_nil, or_false] at hp
    rcases hp with rfl; exact ⟨List.mem_of_getElem? (i := 6) rfl, rfl⟩
  · intro j k u g43 m h B' V' C G hV hk iu le kn S
    refine iu.intK fun t => ?_
    refine ev_assign_name S (.inl ⟨rfl, rfl⟩) fun h2 S => ev_test1 ?_
    have kn' : Kn (setM m "number" (.int k t)) [("set_count", .int sc ts)] := kn.other
    refine ev_true_compare1 (ev_var S (setM_self _ _ _) (ev_var S kn'.g0 (ev_ge (ev_truthy_bool ?_))))
    refine if_dec (fun p => ?_) (fun p => ?_)
    · exact ev_var S (setM_self _ _ _) ⟨g43, _, _, GLe.refl _, kn', S, by simp [p], .int⟩
    · exact ⟨g43, _, GLe.refl _, kn', S, by simp [p]⟩
  intro D43 g43 ys43 c43 h43 g44 le43 hys43 le44 hg44 S44
  rw [iL_filter] at hys43
  have len43 := filter_len (fun k : Int => decide (k ≥ sc)) (setsL y.lks)
  refine ⟨g44, geF sc (setsL y.lks), le43.trans le44, S44, .list hg44 (hys43.mono le44), few_filter fsets _, Nat.lt_of_le_of_lt len43 (by (first | lia | omega)), fun d45 g45 h45 le45 id45 S45 => ?_⟩
  have kn45 : Kn (setM m41 "due" d45) (("due", d45) :: _) := .cons (setM_self _ _ _) (kn41.tl.other)
  generalize setM m41 "due" d45 = m45 at S45 kn45
  have gl45 := ((gl41.trans le43).trans le44).trans le45
  have lA3 : (tL "set" (geF sc (setsL y.lks))).length < 64 := tL_len (few_filter fsets _)
  -- due: place, ring
  have fP : Few (placesL y.lks) := few_filter (few_range (by (first | lia | omega))) _
  have lP : (placesL y.lks).length ≤ y.lks.length := by
    have := filter_len (placeB y.lks) (rangeI y.lks.length)
    rw [rangeI_length] at this; exact this
  have lA4 : (tL "place" (placesL y.lks)).length < 64 := tL_len fP
  have lA5 : (tL "ring" (ringsL (stepsL y.lks))).length < 64 := tL_len frg
  refine ev_cons (ev_assign (ev_binop (ev_binop (ev_var S45 (kn45.ix 0 rfl) (ev_told S45 G (hr.less (by decide)) (ev_var S45 (kn45.ix 13 rfl) ⟨g45, placesL y.lks, GLe.refl _, S45, f27.ipl.mono gl45, fP, by (first | lia | omega), fun u46 g46 h46 le46 iu46 S46 => ?_⟩))))))
  refine ev_addV S46 (id45.mono le46) iu46 (by simp only [List.length_append]; (first | lia | omega)) fun r47 g47 h47 le47 ir47 S47 => ?_
  refine ev_told S47 G (hr.less (by decide)) (ev_var S47 (kn45.ix 4 rfl) ⟨g47, ringsL (stepsL y.lks), GLe.refl _, S47, irg27.mono ((gl45.trans le46).trans le47), frg, by (first | lia | omega), fun u48 g48 h48 le48 iu48 S48 => ?_⟩)
  refine ev_addV S48 (ir47.mono le48) iu48 (by simp only [List.length_append]; (first | lia | omega)) fun d49 g49 h49 le49 id49 S49 => ?_
  refine ev_store S49 (.inl ⟨rfl, rfl⟩) fun h50 S50 => ?_
  have kn50 : Kn (setM m45 "due" d49) (("due", d49) :: _) := .cons (setM_self _ _ _) (kn45.tl.other)
  generalize setM m45 "due" d49 = m50 at S50 kn50
  have gl49 := (((gl45.trans le46).trans le47).trans le48).trans le49
  -- due: deep
  refine ev_cons (ev_dueT S50 G (hr.less (by decide)) (kn50.ix 0 rfl) id49 (by simp only [List.length_append]; (first | lia | omega)) (.inl ⟨rfl, rfl⟩) (ev_elc S50 hr.hh rfl (ev_callB S50 G.cx G.bi.range (fun _ => keepable_type _ _) (ev_args_cons (ev_var S50 (kn50.ix 16 rfl) (ev_args_nil (ev_range S50 (by (first | lia | omega)) fun r51 g51 h51 le51 src51 S51 => ?_)))))))
  refine LcK.overR S51 G src51 [("deep", .ref DD)] (fun k => if decide (6 < (depsL (stepsL y.lks)).getD k.toNat 0) = true then some (.int k) else none) ?_ (by (first | lia | omega)) ?_ ?_
  · refine Kn.cmp kn50 fun p hp => ?_
    simp only [List.mem_cons, List.not_mem_nil, or_false] at hp
    rcases hp with rfl; exact ⟨List.mem_of_getElem? (i := 2) rfl, rfl⟩
  · intro j t g52 m h B' V' C G hV hj le kn S
    refine ev_assign_name S (.inl ⟨rfl, rfl⟩) fun h2 S => ev_test1 ?_
    have kn' : Kn (setM m "number" (.int j t)) [("deep", .ref DD)] := kn.other
    obtain ⟨a1, v1, c1, e1, ga1, iss1⟩ := (ideep27.mono ((gl49.trans le51).trans le)).asList
    cases e1
    have i1 := iss1.iL
    have hl1 := i1.length
    obtain ⟨u1, hu1⟩ := i1.get j _ (getD_at (by (first | lia | omega)))
    refine ev_true_compare1 (ev_subscript (ev_var S kn'.g0 (ev_var S (setM_self _ _ _) (ev_item_list (S.frz _ _ ga1) (okIn_nat hj).1 hu1 (ev_int fun t3 => ev_gt (ev_truthy_bool ?_))))))
    refine if_dec (fun p => ?_) (fun p => ?_)
    · exact ev_var S (setM_self _ _ _) ⟨g52, _, _, GLe.refl _, kn', S, if_pos (decide_eq_true p), .int⟩
    · exact ⟨g52, _, GLe.refl _, kn', S, if_neg (by simpa using p)⟩
  intro D52 g52 ys52 c52 h52 g53 le52 hys52 le53 hg53 S53
  rw [iL_filter] at hys52
  have len52 := filter_len (fun k : Int => decide (6 < (depsL (stepsL y.lks)).getD k.toNat 0)) (rangeI y.lks.length)
  rw [rangeI_length] at len52
  have f52 : Few ((rangeI y.lks.length).filter fun k : Int => decide (6 < (depsL (stepsL y.lks)).getD k.toNat 0)) := few_filter (few_range (by (first | lia | omega))) _
  refine ⟨g53, _, (le51.trans le52).trans le53, S53, .list hg53 (hys52.mono le53), f52, by (first | lia | omega), fun d54 g54 h54 le54 id54 S54 => ?_⟩
  have lA6 := tL_len (wh := "deep") f52
  have kn54 : Kn (setM m50 "due" d54) (("due", d54) :: _) := .cons (setM_self _ _ _) (kn50.tl.other)
  generalize setM m50 "due" d54 = m54 at S54 kn54
  have gl54 := (((gl49.trans le51).trans le52).trans le53).trans le54
  -- due: idle
  refine ev_cons (ev_dueT S54 G (hr.less (by decide)) (kn54.ix 0 rfl) id54 (by simp only [List.length_append]; (first | lia | omega)) (.inl ⟨rfl, rfl⟩) (ev_elc S54 hr.hh rfl (ev_callB S54 G.cx G.bi.range (fun _ => keepable_type _ _) (ev_args_cons (ev_var S54 (kn54.ix 16 rfl) (ev_args_nil (ev_range S54 (by (first | lia | omega)) fun r55 g55 h55 le55 src55 S55 => ?_)))))))
  refine LcK.overR S55 G src55 [("live", .ref LV)] (fun k => if (!decide (k ∈ rch (stepsL y.lks) (flatL y.feats))) = true then some (.int k) else none) ?_ (by (first | lia | omega)) ?_ ?_
  · refine Kn.cmp kn54 fun p hp => ?_
    simp only [List.mem_cons, List.not_mem_nil, or_false] at hp
    rcases hp with rfl; exact ⟨List.mem_of_getElem? (i := 1) rfl, rfl⟩
  · intro j t g56 m h B' V' C G hV hj le kn S
    refine ev_assign_name S (.inl ⟨rfl, rfl⟩) fun h2 S => ev_test1 ?_
    have kn' : Kn (setM m "number" (.int j t)) [("live", .ref LV)] := kn.other
    refine ev_true_compare1 (ev_var S (setM_self _ _ _) (ev_var S kn'.g0 (ev_notin_set S (slv.mono ((gl54.trans le55).trans le)) (ev_truthy_bool ?_))))
    rw [mlv]
    refine if_ndec (fun p => ?_) (fun p => ?_)
    · exact ev_var S (setM_self _ _ _) ⟨g56, _, _, GLe.refl _, kn', S, by simp [p], .int⟩
    · exact ⟨g56, _, GLe.refl _, kn', S, by simp [p]⟩
  intro D56 g56 ys56 c56 h56 g57 le56 hys56 le57 hg57 S57
  rw [iL_filter] at hys56
  have len56 := filter_len (fun k : Int => !decide (k ∈ rch (stepsL y.lks) (flatL y.feats))) (rangeI y.lks.length)
  rw [rangeI_length] at len56
  have f56 : Few ((rangeI y.lks.length).filter fun k : Int => !decide (k ∈ rch (stepsL y.lks) (flatL y.feats))) := few_filter (few_range (by (first | lia | omega))) _
  refine ⟨g57, _, (le55.trans le56).trans le57, S57, .list hg57 (hys56.mono le57), f56, by (first | lia | omega), fun d58 g58 h58 le58 id58 S58 => ?_⟩
  have kn58 : Kn (setM m54 "due" d58) (("due", d58) :: _) := .cons (setM_self _ _ _) (kn54.tl.other)
  generalize setM m54 "due" d58 = m58 at S58 kn58
  have gl58 := (((gl54.trans le55).trans le56).trans le57).trans le58
  have hun := hr.un
  have f58 := f27.mono gl58
  -- the three comparisons
  refine ev_cons (ev_if (ev_true_or3 (ev_true_compare1 (ev_callD S58 G.cx G.rings (ev_args_cons (ev_var S58 (kn58.ix 14 rfl) (ev_args_nil ⟨S58.hbk, ?_⟩)))))))
  refine (c_rings G (hr.less (by decide)) S58.hp f58.ist (by (first | lia | omega)) hrowS).use S58 fun u59 g59 h59 le59 iu59 S59 => ?_
  refine ev_var S59 (kn58.ix 4 rfl) (ev_ne_data S59 iu59 (irg27.mono (gl58.trans le59)) (plains_ints _ 0) (by (first | lia | omega)) (ev_truthy_bool ?_))
  rw [if_neg (by decide)]
  refine ev_true_compare1 (ev_callD S59 G.cx G.depths (ev_args_cons (ev_var S59 (kn58.ix 14 rfl) (ev_args_nil ⟨S59.hbk, ?_⟩))))
  refine (c_depths G (hr.less (by decide)) S59.hp (f58.ist.mono le59) (by (first | lia | omega)) hrowS).use S59 fun u60 g60 h60 le60 iu60 S60 => ?_
  refine ev_var S60 (kn58.ix 2 rfl) (ev_ne_data S60 iu60 (ideep27.mono ((gl58.trans le59).trans le60)) (plains_ints _ 0) (by (first | lia | omega)) (ev_truthy_bool ?_))
  rw [if_neg (by decide)]
  refine ev_true_compare1 (ev_callD S60 G.cx G.reached (ev_args_cons (ev_var S60 (kn58.ix 14 rfl) (ev_args_cons (ev_var S60 (kn58.ix 10 rfl) (ev_args_nil ⟨S60.hbk, ?_⟩))))))
  have gl60 := (gl58.trans le59).trans le60
  refine (c_reached G (hr.less (by decide)) S60.hp (f27.ist.mono gl60) (f27.it.mono gl60) (by (first | lia | omega)) hrowS (by (first | lia | omega))).use S60 fun u61 g61 h61 le61 iu61 S61 => ?_
  refine ev_callB S61 G.cx G.bi.sorted (fun _ => keepable_builtin _ _) (ev_args_cons (ev_var S61 (kn58.ix 1 rfl) (ev_args_nil ?_)))
  have flv : Few (liveL (stepsL y.lks) (flatL y.feats)) := few_in (n := (stepsL y.lks).length) (by (first | lia | omega)) fun k hk => ((mem_live tpos).mp hk).ok
  refine ev_sorted_set S61 hr.hh (slv.mono (gl60.trans le61)) (fun _ ys nd hm => few_len flv nd hm) fun D62 g62 h62 zs le62 iz hs hm S62 => ?_
  rw [eq_srt hs hm, live_srt tpos] at iz
  refine ev_ne_data S62 (iu61.mono le62) iz (plains_ints _ 0) (by (first | lia | omega)) (ev_truthy_bool ?_)
  rw [if_neg (by decide)]
  refine ev_nil ?_
  have gl62 := (gl60.trans le61).trans le62
  have id62 := id58.mono (((le59.trans le60).trans le61).trans le62)
  obtain ⟨xs, exs⟩ : ∃ xs : List (Str × Int), xs = (numsL y sc).flatMap fun p => (srt p.2).map fun k => (p.1, k) := ⟨_, rfl⟩
  have e1 : ((numsL y sc).flatMap fun p => (srt p.2).map (fD ad p.1)) = xs.map fun q => fD ad q.1 q.2 := by
    rw [exs, List.map_flatMap]
    refine congrArg (fun f => List.flatMap f (numsL y sc)) (funext fun p => ?_)
    rw [List.map_map]; rfl
  have e2 : (xs.map fun q => tD q.1 q.2) = (numsL y sc).flatMap fun p => tL p.1 p.2 := by
    rw [exs, List.map_flatMap]
    refine congrArg (fun f => List.flatMap f (numsL y sc)) (funext fun p => ?_)
    rw [List.map_map]; rfl
  have id63 : Is prog w g62 d58 (.list (xs.map fun q => tD q.1 q.2)) := by
    rw [e2]
    unfold numsL
    simp only [List.flatMap_cons, List.flatMap_nil, List.append_nil]
    simp only [List.append_assoc] at id62 ⊢
    exact id62
  have lA7 := tL_len (wh := "idle") f56
  have lxs : xs.length ≤ 1000 := by
    have h1 := congrArg List.length e2
    rw [List.length_map] at h1
    rw [h1]
    unfold numsL
    simp only [List.flatMap_cons, List.flatMap_nil, List.append_nil, List.length_append]
    (first | lia | omega)
  refine ev_cons (ev_return (ev_compare1 (ev_elc S62 hr.hh rfl (ev_callD S62 G.cx G.number (ev_args_cons (ev_str fun t63 => ev_args_cons (ev_var S62 (kn58.ix 7 rfl) (ev_args_cons (ev_var S62 (kn58.ix 6 rfl) (ev_args_nil ⟨S62.hbk, ?_⟩))))))))))
  refine (c_number G (hr.less (by decide)) S62.hp .str (iy27.mono gl62) ok).use S62 fun u64 g64 h64 le64 iu64 S64 => ?_
  rw [e1] at iu64
  refine LcK.overL (xs := xs) S64 G iu64 [] (fun q => some (tD q.1 q.2)) Kn.nil (by (first | lia | omega)) ?_ ?_
  · intro j q u g66 m h B' V' C G hV hq iu le kn S
    refine ev_assign_name S (.inl ⟨rfl, rfl⟩) fun h2 S => ev_noTests ?_
    have iu' : Is prog w g66 u (.obj ad.Finding [("tag", .str "GSUB"), ("what", .str q.1), ("at", .int q.2)]) := iu.mono le
    refine ev_method (ev_var S (setM_self _ _ _) (fun pl => ev_getm_inst S G.cx G.Finding.1.cls iu' G.Ftold.1 G.Ftold.2.1 (show (_ : Str) ∉ fFinding from by decide) (ev_args_nil ⟨G.Ftold.2.2.keepable S.hbk, ?_⟩)))
    exact (c_Ftold G hr.depth S.hp iu' (by intro e; cases e) (by intro e; cases e) (by intro e; cases e)).use S fun u g' h' le' iu S' => ⟨g', _, _, le', Kn.nil, S', rfl, iu⟩
  intro D66 g66 ys66 c66 h66 g67 le66 hys66 le67 hg67 S67
  have e3 : (xs.filterMap fun q => some (tD q.1 q.2)) = xs.map fun q => tD q.1 q.2 := by rw [List.filterMap_eq_map']
  rw [e3] at hys66
  have plx : Plains (xs.map fun q => tD q.1 q.2) 1 := by
    clear e1 e2 id63 lxs exs iu64 hys66 e3
    induction xs with
    | nil => exact .nil
    | cons x r ih => exact .cons (.tup (.cons .str (.cons .str (.cons .int .nil)))) ih
  refine ev_var S67 (kn58.ix 0 rfl) (ev_eq_data S67 (.list hg67 (hys66.mono le67)) (id63.mono ((le64.trans le66).trans le67)) plx (by (first | lia | omega)) ?_)
  exact hP _ S67.keep
end
section
variable {prog : Program} {w : World} {A : Around} {B : Bs} {g g' : Gm} {V V' : List (Addr × Obj)} {env : Env} {m : Str → Option Value} {h h' hb : Heap} {K : Frag} {mg mb : Str → Option Value} {ad : Ads} {C fI : Addr}
theorem law_body {cx : CallX} {sc : Addr} {vs : List Value} {k : Nat} {ns : List Int} {P : Flow → Heap → Prop}
    (S : St B g [] (lawEnv cx) m h) (G : Gd K mg mb B.hb ad) (hr : Room A 20) (hW : B.W = []) (hown : B.own = fnOwn cx.L (cellsFrom (cx.L + 1) d_law.scope.names [])) (hm : m "script" = some (.ref sc)) (hsc : g sc = some (lobj vs k)) (hi : IntsAre vs ns) (hz : vs.length ≤ 63)
    (hP : ∀ h', (∀ b o, B.h₀.get? b = some o → b ∉ B.W → h'.get? b = some o) → P (.ret (.bool true)) h') : Ev prog w A (execs d_law.body (lawEnv cx)) h P := by
  have hW' : ∀ {x : Addr}, x ∉ B.W := fun {x} => by rw [hW]; exact List.not_mem_nil
  -- source
  refine ev_cons (ev_assign (ev_callD S G.cx G.source (ev_args_cons (ev_var S hm (ev_args_nil ⟨S.hbk, ?_⟩)))))
  refine c_source G (hr.less (by decide)) S.hp hsc hi hz fun SR c t ws k' ms g1 h1 E1 hRn hR hgR hgc hms hpos hlt => ?_
  have S1 := S.take E1 hRn hR hgR (lobj_nocell _ _)
  have so1 : SrcAt g1 (srcO c 0 t 0) := ⟨c, 0, t, 0, ws, k', ms, rfl, by decide, hgc, hms, hpos, hlt⟩
  generalize srcO c 0 t 0 = o1 at S1 so1
  refine ev_store S1 (.inr ⟨rfl, _, rfl, by rw [hown]; exact .inr ⟨"source", rfl⟩⟩) fun h2 S2 => ?_
  have kn2 : Kn (setM m "source" (.ref SR)) [("source", .ref SR)] := .cons (setM_self _ _ _) .nil
  generalize setM m "source" (.ref SR) = m2 at S2 kn2
  -- count
  refine ev_cons (ev_assign (ev_draw (fun o => [(SR, o)]) (fun o o' => .head) S2 G (hr.less (by decide)) so1 kn2.g0 ev_intQ (by decide) fun r tc h3 o3 hr0 hr1 so3 S3 => ev_store S3 (.inr ⟨rfl, _, rfl, by rw [hown]; exact .inr ⟨"count", rfl⟩⟩) fun h4 S4 => ?_))
  obtain ⟨cnt, rfl⟩ := Int.eq_ofNat_of_zero_le hr0
  have kn4 := kn2.add (x := "count") (v := .int cnt tc)
  generalize setM m2 "count" (.int cnt tc) = m4 at S4 kn4
  -- lookups, steps, places, sets
  refine ev_cons (ev_assign (ev_list (ev_args_nil ⟨le_line (le_dec rfl), ?_⟩)))
  have S5 := S4.push_vol (lobj [] 0) rfl (lobj_nocell _ _)
  generalize h4.objs.size = LL at S5
  refine ev_store S5 (.inl ⟨rfl, rfl⟩) fun h6 S6 => ?_
  have kn6 := kn4.add (x := "lookups") (v := .ref LL)
  generalize setM m4 "lookups" (.ref LL) = m6 at S6 kn6
  refine ev_cons (ev_assign (ev_list (ev_args_nil ⟨le_line (le_dec rfl), ?_⟩)))
  have S7 := S6.push_vol (lobj [] 0) rfl (lobj_nocell _ _)
  generalize h6.objs.size = ST at S7
  refine ev_store S7 (.inr ⟨rfl, _, rfl, by rw [hown]; exact .inr ⟨"steps", rfl⟩⟩) fun h8 S8 => ?_
  have kn8 := kn6.add (x := "steps") (v := .ref ST)
  generalize setM m6 "steps" (.ref ST) = m8 at S8 kn8
  refine ev_cons (ev_assign (ev_list (ev_args_nil ⟨le_line (le_dec rfl), ?_⟩)))
  have S9 := S8.push_vol (lobj [] 0) rfl (lobj_nocell _ _)
  generalize h8.objs.size = PL at S9
  refine ev_store S9 (.inl ⟨rfl, rfl⟩) fun h10 S10 => ?_
  have kn10 := kn8.add (x := "places") (v := .ref PL)
  generalize setM m8 "places" (.ref PL) = m10 at S10 kn10
  refine ev_cons (ev_assign (ev_list (ev_args_nil ⟨le_line (le_dec rfl), ?_⟩)))
  have S11 := S10.push_vol (lobj [] 0) rfl (lobj_nocell _ _)
  generalize h10.objs.size = SE at S11
  refine ev_store S11 (.inl ⟨rfl, rfl⟩) fun h12 S12 => ?_
  have kn12 := kn10.add (x := "sets") (v := .ref SE)
  generalize setM m10 "sets" (.ref SE) = m12 at S12 kn12
  -- the lookups
  refine ev_cons (law_lookups S12 G (hr.less (by decide)) hW hown so3 (by (first | lia | omega)) kn12 fun lks g13 m13 vse vpl vst vll c1 c2 c3 c4 o13 h13 le13 kn13 so13 inv S13 => ?_)
  refine S13.freezeK .head hW' fun g14 le14 hg14 S14 => ?_
  refine S14.freezeK .head hW' fun g15 le15 hg15 S15 => ?_
  refine S15.freezeK .head hW' fun g16 le16 hg16 S16 => ?_
  refine S16.freezeK .head hW' fun g17 le17 hg17 S17 => ?_
  have gl17 := ((le14.trans le15).trans le16).trans le17
  have ise : Is prog w g17 (.ref SE) (.list (iL (setsL lks))) := .list (((le15.trans le16).trans le17) _ _ hg14) (iss_of_ints inv.ise)
  have ipl : Is prog w g17 (.ref PL) (.list (iL (placesL lks))) := .list ((le16.trans le17) _ _ hg15) (iss_of_ints inv.ipl)
  have ist : Is prog w g17 (.ref ST) (stepsD (stepsL lks)) := .list (le17 _ _ hg16) (inv.ist.mono gl17)
  have ill : Is prog w g17 (.ref LL) (.list (lks.map (lkD ad))) := .list hg17 (inv.ill.mono gl17)
  -- features, told
  refine ev_cons (ev_assign (ev_list (ev_args_nil ⟨le_line (le_dec rfl), ?_⟩)))
  have S18 := S17.push_vol (lobj [] 0) rfl (lobj_nocell _ _)
  generalize h13.objs.size = FE at S18
  refine ev_store S18 (.inr ⟨rfl, _, rfl, by rw [hown]; exact .inr ⟨"features", rfl⟩⟩) fun h19 S19 => ?_
  have kn19 := kn13.add (x := "features") (v := .ref FE)
  generalize setM m13 "features" (.ref FE) = m19 at S19 kn19
  refine ev_cons (ev_assign (ev_list (ev_args_nil ⟨le_line (le_dec rfl), ?_⟩)))
  refine S19.push_frzK (lobj [] 0) rfl fun g20 le20 hg20 S20 => ?_
  generalize h19.objs.size = TV at hg20 S20
  refine ev_store S20 (.inl ⟨rfl, rfl⟩) fun h21 S21 => ?_
  have kn21 := kn19.add (x := "told") (v := .ref TV)
  generalize setM m19 "told" (.ref TV) = m21 at S21 kn21
  refine ev_cons (law_feats (cnt := cnt) (tc := tc) S21 G (hr.less (by decide)) hW ((so13.mono gl17).mono le20) (by (first | lia | omega)) kn21 (List.mem_of_getElem? (i := 6) rfl) (List.mem_of_getElem? (i := 5) rfl) (.head _) rfl rfl rfl (.list hg20 .nil)
    fun feats tv g22 m22 vf cf o22 h22 le22 kn22 so22 itv issf lft hft S22 => ?_)
  refine S22.freezeK .head hW' fun g23 le23 hg23 S23 => ?_
  have lvf : vf.length ≤ 3 := by rw [issf.length, List.length_map]; exact lft
  -- wanted, systems
  refine ev_cons (ev_assign (ev_list (ev_args_nil ⟨le_line (le_dec rfl), ?_⟩)))
  refine S23.push_frzK (lobj [] 0) rfl fun g24 le24 hg24 S24 => ?_
  generalize h22.objs.size = WV at hg24 S24
  refine ev_store S24 (.inl ⟨rfl, rfl⟩) fun h25 S25 => ?_
  have kn25 := kn22.add (x := "wanted") (v := .ref WV)
  generalize setM m22 "wanted" (.ref WV) = m25 at S25 kn25
  refine ev_cons (ev_assign (ev_list (ev_args_nil ⟨le_line (le_dec rfl), ?_⟩)))
  have S26 := S25.push_vol (lobj [] 0) rfl (lobj_nocell _ _)
  generalize h25.objs.size = SY at S26
  refine ev_store S26 (.inl ⟨rfl, rfl⟩) fun h27 S27 => ?_
  have kn27 : Kn (setM m25 "systems" (.ref SY)) (("wanted", .ref WV) :: ("systems", .ref SY) :: _) := .cons (kn25.other (x := "systems")).g0 (.cons (setM_self _ _ _) (kn25.tl.other))
  generalize setM m25 "systems" (.ref SY) = m27 at S27 kn27
  refine ev_cons (law_systems S27 G (hr.less (by decide)) hW (so22.mono (le23.trans le24)) (le24 _ _ hg23) (by (first | lia | omega)) kn27 (List.mem_of_getElem? (i := 8) rfl) (List.mem_of_getElem? (i := 0) rfl) (List.mem_of_getElem? (i := 2) rfl) rfl rfl rfl rfl (.list hg24 .nil)
    fun d l1 l2 wv g28 m28 vsy cy o28 h28 le28 kn28 so28 sinv S28 => ?_)
  refine S28.freezeK .head hW' fun g29 le29 hg29 S29 => ?_
  obtain ⟨y, ey⟩ : ∃ y : Lay, y = ⟨d, l1, l2, feats, lks⟩ := ⟨_, rfl⟩
  have glA : GLe g17 g29 := ((((le20.trans le22).trans le23).trans le24).trans le28).trans le29
  have glB : GLe g22 g29 := ((le23.trans le24).trans le28).trans le29
  have hsys : ∀ l ∈ y.sys, some l ∈ [d, some l1, some l2] := fun l hl => by
    subst ey
    unfold Lay.sys at hl
    rcases List.mem_append.mp hl with q | q
    · cases d with
      | none => cases q
      | some x => rw [Option.toList_some, List.mem_singleton] at q; subst q; exact .head _
    · simp only [List.mem_cons, List.not_mem_nil, or_false] at q
      rcases q with rfl | rfl <;> simp
  have ok : y.Ok := by
    refine ⟨by subst ey; show lks.length ≤ 10; rw [inv.len]; (first | lia | omega), fun k hk => ?_, by subst ey; show feats.length ≤ 10; (first | lia | omega), fun r hr => ?_, fun l hl => ?_⟩
    · subst ey
      obtain ⟨k1, k2, k3, k4, k5⟩ := inv.ok k hk
      exact ⟨k1, by (first | lia | omega), k3, by (first | lia | omega)⟩
    · subst ey
      obtain ⟨r1, r2⟩ := hft r hr
      exact ⟨by (first | lia | omega), fun k hk => by have := r2 k hk; (first | lia | omega)⟩
    · obtain ⟨q1, q2⟩ := sinv.ok l (hsys l hl)
      exact ⟨by (first | lia | omega), fun k hk => by have := q2 k hk; (first | lia | omega)⟩
  have ew : wantF [d, some l1, some l2] = y.sys.flatMap sysF := by
    subst ey; unfold wantF Lay.sys; cases d <;> rfl
  have fts : Facts prog w g29 ad y wv tv (.ref FE) (.ref SE) (.ref PL) (.ref ST) (.ref LL) := by
    refine ⟨by rw [← ew]; exact sinv.iw.mono le29, ?_, ?_, ?_, ?_, ?_, ?_⟩ <;> subst ey
    · exact itv.mono glB
    · exact .list (((le24.trans le28).trans le29) _ _ hg23) (issf.mono glB)
    · exact ise.mono glA
    · exact ipl.mono glA
    · exact ist.mono glA
    · exact ill.mono glA
  have hpos' : ∀ k, ∀ j ∈ rowOf (stepsL y.lks) k, 0 ≤ j := fun k => rowOf_all (p := fun r => ∀ j ∈ r, 0 ≤ j) (fun r hr => by
    subst ey
    unfold stepsL at hr
    obtain ⟨l, hl, rfl⟩ := List.mem_map.mp hr
    intro j hj
    rw [mem_srt] at hj
    obtain ⟨x, hx, rfl⟩ := List.mem_map.mp hj
    have := (inv.ok l hl).2.2.2.2 x hx
    unfold actOk at this; (first | lia | omega)) (fun j hj => nomatch hj) k
  have tpos : ∀ k ∈ flatL y.feats, 0 ≤ k := fun k hk => by
    subst ey
    obtain ⟨r, hr, hk⟩ := List.mem_flatMap.mp hk
    exact ((hft r hr).2 k hk).1
  have ltold : (flatL y.feats).length ≤ 50 := by
    subst ey
    have := flat_len (f := fun r : List Int => r) (c := 2) (l := feats) fun r hr => (hft r hr).1
    have : (flatL feats).length ≤ feats.length * 2 := this
    show (flatL feats).length ≤ 50; (first | lia | omega)
  have ecnt : (y.lks.length : Int) = (cnt : Int) := by subst ey; show (lks.length : Int) = _; rw [inv.len]
  refine law_tail (y := y) (tc := tc) S29 G hr hW hown (so28.mono le29) ok hpos' tpos ltold (by rw [ecnt]; exact kn28) hg29 (by subst ey; exact sinv.isy.mono le29) fts hP
end
/-! ## the ground, read off the written heap -/
noncomputable def fnGet (K : Frag) (f : Addr) : Option FuncData := match K.lookup f with
  | some ⟨_, _, .func fd, _⟩ => some fd
  | _ => none
noncomputable def fnProj (fd : FuncData) : Str × Str × Arguments × FuncBody × Scope × Addr × List (Str × Addr) × Value × Value × Addr := (fd.name, fd.qualname, fd.params, fd.body, fd.scope, fd.globals, fd.closure, fd.defaults, fd.kwdefaults, fd.builtins)
noncomputable def cdGet (K : Frag) (f : Addr) : Value := match fnGet K f with | some fd => fd.code | none => .none
structure FnF (K : Frag) (f : Addr) (d : Fd) (name qual : Str) (dV : Value) : Prop where
  fn : (fnGet K f).map fnProj = some (name, qual, d.params, FuncBody.stmts d.body, d.scope, mainGlobals, [], dV, Value.none, builtinsNs)
  cd : codeIn K (cdGet K f) qual = true
theorem FnF.at_ {K : Frag} {f : Addr} {d : Fd} {name qual : Str} {dV : Value} {hb : Heap} (F : FnF K f d name qual dV) (X : K.In hb) : ∃ doc pm an cdv ct, FnAt hb f (d.fn name qual dV doc pm an cdv ct) := by
  obtain ⟨h1, h2⟩ := F
  rw [Option.map_eq_some_iff] at h1
  obtain ⟨fd, h1, h3⟩ := h1
  unfold cdGet at h2
  rw [h1] at h2
  unfold fnGet at h1
  split at h1
  · rename_i c dd fd' sl q
    cases h1
    have ho := X _ _ q
    obtain ⟨x1, x2, x3, x4, x5, x6, x7, x8, x9, x10, x11, x12, x13, x14, x15⟩ := fd
    simp only [fnProj, Prod.mk.injEq] at h3
    obtain ⟨rfl, rfl, rfl, rfl, rfl, rfl, rfl, rfl, rfl, rfl⟩ := h3
    exact ⟨x10, x11, x12, x13, x14, ⟨⟨_, ho, rfl⟩, codeRec_of X h2, rfl⟩⟩
  · cases h1
structure DefF (K : Frag) (nm : Str) (a : Addr) (d : Fd) : Prop where
  g : nsIn K mainGlobals nm = some (some (.ref a))
  f : FnF K a d nm nm .none
structure ClsF (K : Frag) (nm : Str) (C fI : Addr) (fs : List Str) : Prop where
  g : nsIn K mainGlobals nm = some (some (.ref C))
  cls : Cls K C fI
  free : (fs.map fun n => findIn K (.ref C) n) = fs.map fun _ => some none
structure MthF (K : Frag) (C : Addr) (nm : Str) (f : Addr) (d : Fd) (qual : Str) : Prop where
  find : findIn K (.ref C) nm = some (some (.ref f))
  fn : typeIn K (.ref f) = some (.type "function")
  f : FnF K f d nm qual .none
theorem ClsF.at_ {K : Frag} {nm : Str} {C fI : Addr} {fs : List Str} {hb : Heap} {mg : Str → Option Value} (F : ClsF K nm C fI fs) (X : K.In hb) (G : hb.Ns mainGlobals mg) : ClsAt K mg hb nm C fI fs :=
  ⟨mg_of X G F.g, F.cls, fun n hn => by
    have := List.map_inj_left.mp F.free n hn
    exact this⟩
structure KF (K : Frag) (ad : Ads) : Prop where
  len : nsIn K mainGlobals "len" = some none
  range : nsIn K mainGlobals "range" = some none
  sorted : nsIn K mainGlobals "sorted" = some none
  set : nsIn K mainGlobals "set" = some none
  max : nsIn K mainGlobals "max" = some none
  any : nsIn K mainGlobals "any" = some none
  list : nsIn K mainGlobals "list" = some none
  tuple : nsIn K mainGlobals "tuple" = some none
  int : nsIn K mainGlobals "int" = some none
  use_set : ∃ t, nsIn K mainGlobals "USE_SET" = some (some (.int 16 t))
  most : ∃ t, nsIn K mainGlobals "MOST_DEPTH" = some (some (.int 6 t))
  draw : DefF K "_law_draw" ad.draw d_draw
  source : DefF K "_law_source" ad.source d_source
  ways : DefF K "_law_ways" ad.ways d_ways
  longest : DefF K "_law_longest" ad.longest d_longest
  told : DefF K "_law_told" ad.told d_told
  lookups_of : DefF K "lookups_of" ad.lookups_of d_lookups_of
  findings_of : DefF K "findings_of" ad.findings_of d_findings_of
  next : DefF K "next_lookups" ad.next d_next
  reached : DefF K "reached" ad.reached d_reached
  rings : DefF K "on_rings" ad.rings d_rings
  depths : DefF K "depths" ad.depths d_depths
  behind : DefF K "is_behind" ad.behind d_behind
  langsys : DefF K "langsys_of" ad.langsys d_langsys
  number : DefF K "number_findings" ad.number d_number
  Lookup : ClsF K "Lookup" ad.Lookup ad.iLookup fLookup ∧ FnF K ad.iLookup d_Lookup "__init__" "Lookup.__init__" .none
  Rule : ClsF K "Rule" ad.Rule ad.iRule fRule ∧ FnF K ad.iRule d_Rule "__init__" "Rule.__init__" .none
  Contexts : ClsF K "Contexts" ad.Contexts ad.iContexts fContexts ∧ FnF K ad.iContexts d_Contexts "__init__" "Contexts.__init__" (.ref ad.dContexts) ∧ ∃ n, K.lookup ad.dContexts = some (tobj [.none, .none] n)
  Finding : ClsF K "Finding" ad.Finding ad.iFinding fFinding ∧ FnF K ad.iFinding d_Finding "__init__" "Finding.__init__" .none
  Single : ClsF K "Single" ad.Single ad.iSingle fSingle ∧ FnF K ad.iSingle d_Single "__init__" "Single.__init__" .none
  LangSys : ClsF K "LangSys" ad.LangSys ad.iLangSys fLangSys ∧ FnF K ad.iLangSys d_LangSys "__init__" "LangSys.__init__" .none
  Script : ClsF K "Script" ad.Script ad.iScript fScript ∧ FnF K ad.iScript d_Script "__init__" "Script.__init__" .none
  Feature : ClsF K "Feature" ad.Feature ad.iFeature fFeature ∧ FnF K ad.iFeature d_Feature "__init__" "Feature.__init__" .none
  Layout : ClsF K "Layout" ad.Layout ad.iLayout fLayout ∧ FnF K ad.iLayout d_Layout "__init__" "Layout.__init__" .none
  Frules : MthF K ad.Contexts "rules" ad.Frules d_Frules "Contexts.rules"
  Ftold : MthF K ad.Finding "told" ad.Ftold d_Ftold "Finding.told"
theorem gd_of {K : Frag} {ad : Ads} {hb : Heap} {mg mb : Str → Option Value} (F : KF K ad) (X : K.In hb) (G : hb.Ns mainGlobals mg) (Bn : hb.Ns builtinsNs mb) (NL : hb.NoLimit) (sm : ∃ a o, sysModules < a ∧ hb.get? a = some o) (bt : ∀ x : Str, x ≠ "__name__" → mb x = bootBuiltins x) : Gd K mg mb hb ad where
  cx := ⟨X, G, Bn, NL⟩
  sm := sm
  bi := {
    len := ⟨mg_none_of X G F.len, (bt _ (by decide)).trans (by kernel_rfl)⟩
    range := ⟨mg_none_of X G F.range, (bt _ (by decide)).trans (by kernel_rfl)⟩
    sorted := ⟨mg_none_of X G F.sorted, (bt _ (by decide)).trans (by kernel_rfl)⟩
    set := ⟨mg_none_of X G F.set, (bt _ (by decide)).trans (by kernel_rfl)⟩
    max := ⟨mg_none_of X G F.max, (bt _ (by decide)).trans (by kernel_rfl)⟩
    any := ⟨mg_none_of X G F.any, (bt _ (by decide)).trans (by kernel_rfl)⟩
    list := ⟨mg_none_of X G F.list, (bt _ (by decide)).trans (by kernel_rfl)⟩
    tuple := ⟨mg_none_of X G F.tuple, (bt _ (by decide)).trans (by kernel_rfl)⟩
    int := ⟨mg_none_of X G F.int, (bt _ (by decide)).trans (by kernel_rfl)⟩ }
  use_set := F.use_set.elim fun t e => ⟨t, mg_of X G e⟩
  most := F.most.elim fun t e => ⟨t, mg_of X G e⟩
  draw := ⟨mg_of X G F.draw.g, F.draw.f.at_ X⟩
  source := ⟨mg_of X G F.source.g, F.source.f.at_ X⟩
  ways := ⟨mg_of X G F.ways.g, F.ways.f.at_ X⟩
  longest := ⟨mg_of X G F.longest.g, F.longest.f.at_ X⟩
  told := ⟨mg_of X G F.told.g, F.told.f.at_ X⟩
  lookups_of := ⟨mg_of X G F.lookups_of.g, F.lookups_of.f.at_ X⟩
  findings_of := ⟨mg_of X G F.findings_of.g, F.findings_of.f.at_ X⟩
  next := ⟨mg_of X G F.next.g, F.next.f.at_ X⟩
  reached := ⟨mg_of X G F.reached.g, F.reached.f.at_ X⟩
  rings := ⟨mg_of X G F.rings.g, F.rings.f.at_ X⟩
  depths := ⟨mg_of X G F.depths.g, F.depths.f.at_ X⟩
  behind := ⟨mg_of X G F.behind.g, F.behind.f.at_ X⟩
  langsys := ⟨mg_of X G F.langsys.g, F.langsys.f.at_ X⟩
  number := ⟨mg_of X G F.number.g, F.number.f.at_ X⟩
  Lookup := ⟨F.Lookup.1.at_ X G, F.Lookup.2.at_ X⟩
  Rule := ⟨F.Rule.1.at_ X G, F.Rule.2.at_ X⟩
  Contexts := ⟨F.Contexts.1.at_ X G, F.Contexts.2.1.at_ X, F.Contexts.2.2.elim fun n e => ⟨n, X _ _ e⟩⟩
  Finding := ⟨F.Finding.1.at_ X G, F.Finding.2.at_ X⟩
  Single := ⟨F.Single.1.at_ X G, F.Single.2.at_ X⟩
  LangSys := ⟨F.LangSys.1.at_ X G, F.LangSys.2.at_ X⟩
  Script := ⟨F.Script.1.at_ X G, F.Script.2.at_ X⟩
  Feature := ⟨F.Feature.1.at_ X G, F.Feature.2.at_ X⟩
  Layout := ⟨F.Layout.1.at_ X G, F.Layout.2.at_ X⟩
  Frules := ⟨F.Frules.find, F.Frules.fn, F.Frules.f.at_ X⟩
  Ftold := ⟨F.Ftold.find, F.Ftold.fn, F.Ftold.f.at_ X⟩
theorem room_caller : Room callerA 21 := ⟨rfl, by decide, by decide⟩
theorem list_of_well {P : Params} {h : Heap} {a : Addr} {d : WData} {xs : List WData} (x : Well P h (.ref a) d) (e : d = .list xs) : ∃ vs, h.get? a = some (lobj vs 0) := by
  subst e
  cases x with
  | list hg _ => exact ⟨_, hg⟩
/-- the whole law, called -/
theorem law_final {K : Frag} {ad : Ads} {prog : Program} {w : World} {s₁ : Shared} {mg mb : Str → Option Value} {fa fb sc : Addr} {arr : List Value} {ns : List Int} {d : WData} {xs : List WData} {P : Params} {E : Value → Shared → Prop} {Q : Value → Shared → Prop}
    (F : KF K ad) (FL : DefF K "law" fb d_law) (X : K.In s₁.heap) (G : s₁.heap.Ns mainGlobals mg) (Bn : s₁.heap.Ns builtinsNs mb) (NL : s₁.heap.NoLimit) (sm : ∃ a o, sysModules < a ∧ s₁.heap.get? a = some o) (bt : ∀ x : Str, x ≠ "__name__" → mb x = bootBuiltins x)
    (hmg : mg "law" = some (.ref fa)) (hw : Well P s₁.heap (.ref sc) d) (hd : d = .list xs) (hL : s₁.heap.IsList sc arr.toArray) (hI : IntsAre arr ns) (hc : ¬ ((63 : Nat) : Int) < (ns.length : Int))
    (hQ : ∀ s', (∀ b o, s₁.heap.get? b = some o → s'.heap.get? b = some o) → s'.gens = s₁.gens → s'.os = s₁.os → Q (.bool true) s') :
    wpAny (model prog w) callerA (call (.ref fa) [.ref sc]) Q E s₁ := by
  have Gd := gd_of F X G Bn NL sm bt
  have e := mg_of X G FL.g
  rw [hmg] at e
  cases e
  obtain ⟨doc, pm, an, cdv, ct, Fn⟩ := FL.f.at_ X
  obtain ⟨vs, hsc⟩ := list_of_well hw hd
  have harr : arr = vs := by
    obtain ⟨o, ho, _, n, hn⟩ := hL
    rw [hsc] at ho; cases ho
    have e0 : vs.toArray = arr.toArray := by
      have := hn; unfold lobj at this; simp only [Data.seq.injEq] at this; exact this.1
    have e1 := congrArg Array.toList e0
    simpa using e1.symm
  subst harr
  have ev : Ev prog w callerA (call (.ref fa) [.ref sc]) s₁.heap fun v h' => v = .bool true ∧ ∀ b o, s₁.heap.get? b = some o → h'.get? b = some o := by
    refine ev_fn (g := fun b => s₁.heap.get? b) (V := []) (binds := [("script", .ref sc)]) Gd.cx Fn room_caller.depth (fun _ _ e => e) (fun _ _ e => e) (Wr.nil _ _) rfl rfl (fun n x hx => ?_) (by rfl) (fun L h₁ S => ?_)
    · simp only [List.mem_cons, List.not_mem_nil, or_false] at hx
      rcases hx with rfl; exact .inl rfl
    refine law_body (cx := ⟨doc, pm, an, cdv, ct, L, fa⟩) S Gd (room_caller.deeper _) rfl rfl rfl hsc hI (by have := hI.length; (first | lia | omega)) fun h' keep => ?_
    exact ⟨rfl, fun b o e => keep b o e List.not_mem_nil⟩
  exact ev.use rfl (Same.refl s₁) fun v s' h1 ⟨e, k⟩ => by subst e; exact hQ s' k h1.1 h1.2
noncomputable def adsHere : Ads where
  draw := 390
  source := 395
  ways := 400
  longest := 405
  told := 410
  lookups_of := 177
  findings_of := 210
  next := 217
  reached := 222
  rings := 227
  depths := 232
  behind := 239
  langsys := 244
  number := 249
  Lookup := 43
  Rule := 120
  Contexts := 161
  Finding := 201
  Single := 271
  LangSys := 299
  Script := 325
  Feature := 353
  Layout := 379
  iLookup := 35
  iRule := 103
  iContexts := 139
  iFinding := 191
  iSingle := 263
  iLangSys := 289
  iScript := 317
  iFeature := 343
  iLayout := 371
  Frules := 158
  Ftold := 198
  dContexts := 132
end Mine
end
namespace Mine
noncomputable def hx.tw15440474199745180953 : Unit := ()
noncomputable def hx.tw2431391290886172637 : Unit := ()
noncomputable def hx.tw6661460279421622568 : Unit := ()
noncomputable def hx.tw2899951234114317963 : Unit := ()
noncomputable def hx.tw2900884869544693440 : Unit := ()
noncomputable def hx.tw17347367540637826490 : Unit := ()
noncomputable def hx.tw6893509615905794137 : Unit := ()
noncomputable def hx.tw15273810182369437791 : Unit := ()
noncomputable def hx.tw5211008725420389746 : Unit := ()
noncomputable def hx.tw7535301439831773900 : Unit := ()
noncomputable def hx.tw10700177489537621036 : Unit := ()
noncomputable def hx.tw18395007581695841968 : Unit := ()
noncomputable def hx.tw1494400790021746195 : Unit := ()
noncomputable def hx.tw13697240442493799685 : Unit := ()
noncomputable def hx.tw16071171328324753980 : Unit := ()
noncomputable def hx.tw2794455262551963651 : Unit := ()
noncomputable def hx.tw12765646577729457321 : Unit := ()
noncomputable def hx.tw17039554997033918745 : Unit := ()
noncomputable def hx.tw4077674507469071574 : Unit := ()
noncomputable def hx.tw4626587452002532517 : Unit := ()
noncomputable def hx.tw6016356382263308980 : Unit := ()
noncomputable def hx.tw13574448759440723751 : Unit := ()
noncomputable def hx.tw8889099786062871684 : Unit := ()
noncomputable def hx.tw14623867283565902758 : Unit := ()
noncomputable def hx.tw2580070373296328155 : Unit := ()
noncomputable def hx.tw558561146864003076 : Unit := ()
noncomputable def hx.tw4290401694353518591 : Unit := ()
noncomputable def hx.tw10089113472772384774 : Unit := ()
noncomputable def hx.tw1011593914326734453 : Unit := ()
noncomputable def hx.tw10116244012155279326 : Unit := ()
noncomputable def hx.tw10143001506211119355 : Unit := ()
noncomputable def hx.tw10147221347258369205 : Unit := ()
noncomputable def hx.tw1016313470199982537 : Unit := ()
noncomputable def hx.tw10259550172225532679 : Unit := ()
noncomputable def hx.tw10307356883056191786 : Unit := ()
noncomputable def hx.tw10413734220558041264 : Unit := ()
noncomputable def hx.tw10596243801935397713 : Unit := ()
noncomputable def hx.tw10610913765530660747 : Unit := ()
noncomputable def hx.tw10704556739469484813 : Unit := ()
noncomputable def hx.tw10742297795112918153 : Unit := ()
noncomputable def hx.tw10782636077873877296 : Unit := ()
noncomputable def hx.tw10783175264176337430 : Unit := ()
noncomputable def hx.tw10793050097425451903 : Unit := ()
noncomputable def hx.tw10807983823035302247 : Unit := ()
noncomputable def hx.tw10819131393274383699 : Unit := ()
noncomputable def hx.tw10864032600957282309 : Unit := ()
noncomputable def hx.tw10939141181510983603 : Unit := ()
noncomputable def hx.tw1100523350065315309 : Unit := ()
noncomputable def hx.tw11068126759796092325 : Unit := ()
noncomputable def hx.tw11108718026129502348 : Unit := ()
noncomputable def hx.tw11153277219916700167 : Unit := ()
noncomputable def hx.tw11153406825157011147 : Unit := ()
noncomputable def hx.tw11180674998892410296 : Unit := ()
noncomputable def hx.tw11442105100669052236 : Unit := ()
noncomputable def hx.tw11501113234145657499 : Unit := ()
noncomputable def hx.tw11511833604947660874 : Unit := ()
noncomputable def hx.tw11516083673652718094 : Unit := ()
noncomputable def hx.tw11529457255951468018 : Unit := ()
noncomputable def hx.tw11542809368468670571 : Unit := ()
noncomputable def hx.tw11576060578404032109 : Unit := ()
noncomputable def hx.tw11578488819760341122 : Unit := ()
noncomputable def hx.tw11605663943579434254 : Unit := ()
noncomputable def hx.tw11652467807154655573 : Unit := ()
noncomputable def hx.tw11868710178002341650 : Unit := ()
noncomputable def hx.tw11876859455004161157 : Unit := ()
noncomputable def hx.tw11950744475718057257 : Unit := ()
noncomputable def hx.tw12112647759870957014 : Unit := ()
noncomputable def hx.tw12203261482158421150 : Unit := ()
noncomputable def hx.tw12247584602314355929 : Unit := ()
noncomputable def hx.tw12377959399836290067 : Unit := ()
noncomputable def hx.tw12392353606877693820 : Unit := ()
noncomputable def hx.tw12476055800596261357 : Unit := ()
noncomputable def hx.tw12531592957024129060 : Unit := ()
noncomputable def hx.tw12677999345953698985 : Unit := ()
noncomputable def hx.tw12764173250460046966 : Unit := ()
noncomputable def hx.tw12770057050171300576 : Unit := ()
noncomputable def hx.tw12821517133369311258 : Unit := ()
noncomputable def hx.tw1283418492878313000 : Unit := ()
noncomputable def hx.tw12867322890000570906 : Unit := ()
noncomputable def hx.tw12870832547070010083 : Unit := ()
noncomputable def hx.tw12876500496384970917 : Unit := ()
noncomputable def hx.tw12886684066980348408 : Unit := ()
noncomputable def hx.tw12934927632614500181 : Unit := ()
noncomputable def hx.tw12938584960106786947 : Unit := ()
noncomputable def hx.tw12943594393411517771 : Unit := ()
noncomputable def hx.tw12958973201736663512 : Unit := ()
noncomputable def hx.tw12991532671812350252 : Unit := ()
noncomputable def hx.tw13028522948772262508 : Unit := ()
noncomputable def hx.tw13051606616835114215 : Unit := ()
noncomputable def hx.tw13100434611214814302 : Unit := ()
noncomputable def hx.tw13173629366862862663 : Unit := ()
noncomputable def hx.tw13273623471580055978 : Unit := ()
noncomputable def hx.tw13360980773314081272 : Unit := ()
noncomputable def hx.tw13418063953174990607 : Unit := ()
noncomputable def hx.tw1343601587134825943 : Unit := ()
noncomputable def hx.tw13516186739440186774 : Unit := ()
noncomputable def hx.tw1352479365382649514 : Unit := ()
noncomputable def hx.tw13574767429253134702 : Unit := ()
noncomputable def hx.tw1358250369764232750 : Unit := ()
noncomputable def hx.tw13588689596132362657 : Unit := ()
noncomputable def hx.tw1359767371040273477 : Unit := ()
noncomputable def hx.tw1362163949497883158 : Unit := ()
noncomputable def hx.tw13733715944362664559 : Unit := ()
noncomputable def hx.tw1375955018112806077 : Unit := ()
noncomputable def hx.tw13764951562285276426 : Unit := ()
noncomputable def hx.tw13887421244684101553 : Unit := ()
noncomputable def hx.tw13904747866207299807 : Unit := ()
noncomputable def hx.tw13923397955430767758 : Unit := ()
noncomputable def hx.tw13970432741380693950 : Unit := ()
noncomputable def hx.tw13994185481600150508 : Unit := ()
noncomputable def hx.tw14138387163557110853 : Unit := ()
noncomputable def hx.tw14150925457611720700 : Unit := ()
noncomputable def hx.tw1415654423932628287 : Unit := ()
noncomputable def hx.tw14304415443402900283 : Unit := ()
noncomputable def hx.tw14311561367197305191 : Unit := ()
noncomputable def hx.tw14344502140286423506 : Unit := ()
noncomputable def hx.tw14547076071350101635 : Unit := ()
noncomputable def hx.tw145932963246128051 : Unit := ()
noncomputable def hx.tw14618633012687346700 : Unit := ()
noncomputable def hx.tw14626987222883238387 : Unit := ()
noncomputable def hx.tw14629616601678125156 : Unit := ()
noncomputable def hx.tw1463196147053303394 : Unit := ()
noncomputable def hx.tw14648767878841662682 : Unit := ()
noncomputable def hx.tw1472627028676479429 : Unit := ()
noncomputable def hx.tw14728151803300476778 : Unit := ()
noncomputable def hx.tw14780050976537163602 : Unit := ()
noncomputable def hx.tw14817645703785147396 : Unit := ()
noncomputable def hx.tw14938798612039523107 : Unit := ()
noncomputable def hx.tw14958249954385249000 : Unit := ()
noncomputable def hx.tw15003182733627720372 : Unit := ()
noncomputable def hx.tw15031465929163138751 : Unit := ()
noncomputable def hx.tw15088012910613175391 : Unit := ()
noncomputable def hx.tw15088266657895807461 : Unit := ()
noncomputable def hx.tw15097703535185493621 : Unit := ()
noncomputable def hx.tw1510941156237703019 : Unit := ()
noncomputable def hx.tw15192764956840726322 : Unit := ()
noncomputable def hx.tw15215796203213042296 : Unit := ()
noncomputable def hx.tw15222671194020912597 : Unit := ()
noncomputable def hx.tw15343754591034969740 : Unit := ()
noncomputable def hx.tw15369465458315143963 : Unit := ()
noncomputable def hx.tw15396066670179936615 : Unit := ()
noncomputable def hx.tw15414558616249902002 : Unit := ()
noncomputable def hx.tw15462683395770930534 : Unit := ()
noncomputable def hx.tw15571626766152387222 : Unit := ()
noncomputable def hx.tw15637220148305887217 : Unit := ()
noncomputable def hx.tw15656486127985483219 : Unit := ()
noncomputable def hx.tw15687806069674188760 : Unit := ()
noncomputable def hx.tw15695149568941424871 : Unit := ()
noncomputable def hx.tw15719070241404046249 : Unit := ()
noncomputable def hx.tw15784146693891255721 : Unit := ()
noncomputable def hx.tw15847444086296491327 : Unit := ()
noncomputable def hx.tw15871474243252748558 : Unit := ()
noncomputable def hx.tw15880504448479711350 : Unit := ()
noncomputable def hx.tw15890461587552314789 : Unit := ()
noncomputable def hx.tw15902653346226055279 : Unit := ()
noncomputable def hx.tw15964317271155168136 : Unit := ()
noncomputable def hx.tw16038111126348386163 : Unit := ()
noncomputable def hx.tw16044307587897543647 : Unit := ()
noncomputable def hx.tw16051292036045715728 : Unit := ()
noncomputable def hx.tw16058991070295768540 : Unit := ()
noncomputable def hx.tw16131195338128503568 : Unit := ()
noncomputable def hx.tw16174250225865239651 : Unit := ()
noncomputable def hx.tw16179723595558240676 : Unit := ()
noncomputable def hx.tw16220354117797179089 : Unit := ()
noncomputable def hx.tw1623351667710231897 : Unit := ()
noncomputable def hx.tw16403607636861804150 : Unit := ()
noncomputable def hx.tw16447564128994577934 : Unit := ()
noncomputable def hx.tw16503685224865804450 : Unit := ()
noncomputable def hx.tw16503919762052067167 : Unit := ()
noncomputable def hx.tw16509932877354490577 : Unit := ()
noncomputable def hx.tw16514233136784977297 : Unit := ()
noncomputable def hx.tw16562810249119712046 : Unit := ()
noncomputable def hx.tw16584103675982884176 : Unit := ()
noncomputable def hx.tw16600827452279821873 : Unit := ()
noncomputable def hx.tw16617463825281310940 : Unit := ()
noncomputable def hx.tw16619632684288853345 : Unit := ()
noncomputable def hx.tw16653890388018469145 : Unit := ()
noncomputable def hx.tw16670953707802882552 : Unit := ()
noncomputable def hx.tw16751661018229691023 : Unit := ()
noncomputable def hx.tw1680849517792564725 : Unit := ()
noncomputable def hx.tw16810214309375985759 : Unit := ()
noncomputable def hx.tw16831101020866358490 : Unit := ()
noncomputable def hx.tw17001873279354605088 : Unit := ()
noncomputable def hx.tw17016924944305248243 : Unit := ()
noncomputable def hx.tw1709533345360563255 : Unit := ()
noncomputable def hx.tw17158850808337323685 : Unit := ()
noncomputable def hx.tw17365841796568000854 : Unit := ()
noncomputable def hx.tw17393156024033759196 : Unit := ()
noncomputable def hx.tw1742656451142089649 : Unit := ()
noncomputable def hx.tw17453721029707611201 : Unit := ()
noncomputable def hx.tw17469929296604087836 : Unit := ()
noncomputable def hx.tw17493533222571850228 : Unit := ()
noncomputable def hx.tw1749809594243765621 : Unit := ()
noncomputable def hx.tw17557955846509285157 : Unit := ()
noncomputable def hx.tw17573937718456619690 : Unit := ()
noncomputable def hx.tw17589684436434577441 : Unit := ()
noncomputable def hx.tw1765193833724418456 : Unit := ()
noncomputable def hx.tw17809212181156274236 : Unit := ()
noncomputable def hx.tw17812654206654028429 : Unit := ()
noncomputable def hx.tw17832744011254776289 : Unit := ()
noncomputable def hx.tw17882310838744935415 : Unit := ()
noncomputable def hx.tw17967490135107311282 : Unit := ()
noncomputable def hx.tw18021650032858729757 : Unit := ()
noncomputable def hx.tw18025658111944671314 : Unit := ()
noncomputable def hx.tw18112682675998309622 : Unit := ()
noncomputable def hx.tw18119002219515010161 : Unit := ()
noncomputable def hx.tw18141915107381044649 : Unit := ()
noncomputable def hx.tw18163383231904437410 : Unit := ()
noncomputable def hx.tw18286160104727862462 : Unit := ()
noncomputable def hx.tw18288557733248936724 : Unit := ()
noncomputable def hx.tw1837536587343590555 : Unit := ()
noncomputable def hx.tw18383182533153586477 : Unit := ()
noncomputable def hx.tw18436102530548493083 : Unit := ()
noncomputable def hx.tw1881273628141950129 : Unit := ()
noncomputable def hx.tw1890682559011639224 : Unit := ()
noncomputable def hx.tw1927792282007945085 : Unit := ()
noncomputable def hx.tw1972047601138287618 : Unit := ()
noncomputable def hx.tw2063962012853046974 : Unit := ()
noncomputable def hx.tw2087738239193673434 : Unit := ()
noncomputable def hx.tw2101144305115712416 : Unit := ()
noncomputable def hx.tw2313343453469587 : Unit := ()
noncomputable def hx.tw2345487744653432563 : Unit := ()
noncomputable def hx.tw2358503780328766540 : Unit := ()
noncomputable def hx.tw2404633205489611897 : Unit := ()
noncomputable def hx.tw2492048929613541025 : Unit := ()
noncomputable def hx.tw2497926436135343631 : Unit := ()
noncomputable def hx.tw2504348554245470067 : Unit := ()
noncomputable def hx.tw2530950033039335674 : Unit := ()
noncomputable def hx.tw2533170188022924913 : Unit := ()
noncomputable def hx.tw2559257357635606366 : Unit := ()
noncomputable def hx.tw2598453218603719200 : Unit := ()
noncomputable def hx.tw2618490190428073017 : Unit := ()
noncomputable def hx.tw2660992353704633501 : Unit := ()
noncomputable def hx.tw2690994299918733986 : Unit := ()
noncomputable def hx.tw2702912257362749870 : Unit := ()
noncomputable def hx.tw2745991006798580251 : Unit := ()
noncomputable def hx.tw2786521351924353169 : Unit := ()
noncomputable def hx.tw2822385975729611342 : Unit := ()
noncomputable def hx.tw288411641489606368 : Unit := ()
noncomputable def hx.tw2884559834261289398 : Unit := ()
noncomputable def hx.tw2911593502983421243 : Unit := ()
noncomputable def hx.tw2924628002121016683 : Unit := ()
noncomputable def hx.tw292709383975957704 : Unit := ()
noncomputable def hx.tw2933574226750363228 : Unit := ()
noncomputable def hx.tw2951018021206863066 : Unit := ()
noncomputable def hx.tw3011061140052219710 : Unit := ()
noncomputable def hx.tw3035972135482712479 : Unit := ()
noncomputable def hx.tw3064612590093021604 : Unit := ()
noncomputable def hx.tw3089318795281737075 : Unit := ()
noncomputable def hx.tw3105936464211144054 : Unit := ()
noncomputable def hx.tw3126803895974666599 : Unit := ()
noncomputable def hx.tw313783033510757027 : Unit := ()
noncomputable def hx.tw3151352308241419672 : Unit := ()
noncomputable def hx.tw3169779510389522523 : Unit := ()
noncomputable def hx.tw3221206007101484751 : Unit := ()
noncomputable def hx.tw3228090532262280768 : Unit := ()
noncomputable def hx.tw3264777137382535416 : Unit := ()
noncomputable def hx.tw3275178236903027326 : Unit := ()
noncomputable def hx.tw3461369719786860586 : Unit := ()
noncomputable def hx.tw3502533989761060701 : Unit := ()
noncomputable def hx.tw3548908381971391680 : Unit := ()
noncomputable def hx.tw358558379371031262 : Unit := ()
noncomputable def hx.tw3597224387928761530 : Unit := ()
noncomputable def hx.tw3643914471317708621 : Unit := ()
noncomputable def hx.tw3722370046394560457 : Unit := ()
noncomputable def hx.tw3770322921552031231 : Unit := ()
noncomputable def hx.tw3772895889506965678 : Unit := ()
noncomputable def hx.tw3840107357115572158 : Unit := ()
noncomputable def hx.tw3864814513713628098 : Unit := ()
noncomputable def hx.tw3897231576808763883 : Unit := ()
noncomputable def hx.tw3952756967378608505 : Unit := ()
noncomputable def hx.tw4003515419551643288 : Unit := ()
noncomputable def hx.tw4035567117447141005 : Unit := ()
noncomputable def hx.tw4081245987573513101 : Unit := ()
noncomputable def hx.tw4178432983367478423 : Unit := ()
noncomputable def hx.tw4205994103841450751 : Unit := ()
noncomputable def hx.tw4216420034110358939 : Unit := ()
noncomputable def hx.tw4277992108151645805 : Unit := ()
noncomputable def hx.tw4311935586957980807 : Unit := ()
noncomputable def hx.tw4400082454429041863 : Unit := ()
noncomputable def hx.tw440200682837978379 : Unit := ()
noncomputable def hx.tw4443683451718327492 : Unit := ()
noncomputable def hx.tw4567310155831165015 : Unit := ()
noncomputable def hx.tw4638685165426952821 : Unit := ()
noncomputable def hx.tw4643808109359329299 : Unit := ()
noncomputable def hx.tw4709067958626073384 : Unit := ()
noncomputable def hx.tw4743368475946334711 : Unit := ()
noncomputable def hx.tw4774948093478016081 : Unit := ()
noncomputable def hx.tw4790614838382506437 : Unit := ()
noncomputable def hx.tw4820356001183778062 : Unit := ()
noncomputable def hx.tw4835485041952420608 : Unit := ()
noncomputable def hx.tw4951867800294161291 : Unit := ()
noncomputable def hx.tw4957977497641929111 : Unit := ()
noncomputable def hx.tw5003379905787062580 : Unit := ()
noncomputable def hx.tw5012581791309765258 : Unit := ()
noncomputable def hx.tw5044532516427930034 : Unit := ()
noncomputable def hx.tw5060404574720663952 : Unit := ()
noncomputable def hx.tw5074251886428752240 : Unit := ()
noncomputable def hx.tw5151445886737355997 : Unit := ()
noncomputable def hx.tw5229663503899665235 : Unit := ()
noncomputable def hx.tw5286479519828484009 : Unit := ()
noncomputable def hx.tw5492716820719653743 : Unit := ()
noncomputable def hx.tw5546299256372968745 : Unit := ()
noncomputable def hx.tw5548490626718368004 : Unit := ()
noncomputable def hx.tw5644764048023550207 : Unit := ()
noncomputable def hx.tw5663202204576575629 : Unit := ()
noncomputable def hx.tw568883250039891352 : Unit := ()
noncomputable def hx.tw576899675763343441 : Unit := ()
noncomputable def hx.tw5859954059831970930 : Unit := ()
noncomputable def hx.tw5973647403945334939 : Unit := ()
noncomputable def hx.tw5987738072841988675 : Unit := ()
noncomputable def hx.tw6094537120995972945 : Unit := ()
noncomputable def hx.tw6150637109426312374 : Unit := ()
noncomputable def hx.tw616740878971486716 : Unit := ()
noncomputable def hx.tw6225824510542169761 : Unit := ()
noncomputable def hx.tw6234722803267601620 : Unit := ()
noncomputable def hx.tw634369046800973281 : Unit := ()
noncomputable def hx.tw6382291294955211999 : Unit := ()
noncomputable def hx.tw64630411898889128 : Unit := ()
noncomputable def hx.tw6587315628287308366 : Unit := ()
noncomputable def hx.tw6590801892334686599 : Unit := ()
noncomputable def hx.tw663216957817655072 : Unit := ()
noncomputable def hx.tw6700631356736508036 : Unit := ()
noncomputable def hx.tw6768751125542400157 : Unit := ()
noncomputable def hx.tw6810229405824084477 : Unit := ()
noncomputable def hx.tw6810358813687007468 : Unit := ()
noncomputable def hx.tw6821187626703829088 : Unit := ()
noncomputable def hx.tw6836243782229160083 : Unit := ()
noncomputable def hx.tw6905475023927656221 : Unit := ()
noncomputable def hx.tw6912957689366828898 : Unit := ()
noncomputable def hx.tw6938760501003799309 : Unit := ()
noncomputable def hx.tw6951225809539125009 : Unit := ()
noncomputable def hx.tw7105652820812284432 : Unit := ()
noncomputable def hx.tw7117039502732272165 : Unit := ()
noncomputable def hx.tw7135545248255827829 : Unit := ()
noncomputable def hx.tw7160642757287845954 : Unit := ()
noncomputable def hx.tw7196959931366684185 : Unit := ()
noncomputable def hx.tw7271874215164270623 : Unit := ()
noncomputable def hx.tw7291546937901893924 : Unit := ()
noncomputable def hx.tw7411675879612560423 : Unit := ()
noncomputable def hx.tw7433385755784711104 : Unit := ()
noncomputable def hx.tw7448076970475776704 : Unit := ()
noncomputable def hx.tw7462397087798485187 : Unit := ()
noncomputable def hx.tw7492030116529166354 : Unit := ()
noncomputable def hx.tw764732042479237497 : Unit := ()
noncomputable def hx.tw767136082746918875 : Unit := ()
noncomputable def hx.tw7789537453598603269 : Unit := ()
noncomputable def hx.tw7822962280082496512 : Unit := ()
noncomputable def hx.tw7864485984771250624 : Unit := ()
noncomputable def hx.tw7876969669924440321 : Unit := ()
noncomputable def hx.tw7891766511613034010 : Unit := ()
noncomputable def hx.tw7924969997821631868 : Unit := ()
noncomputable def hx.tw7992169660659198757 : Unit := ()
noncomputable def hx.tw8013753438709209555 : Unit := ()
noncomputable def hx.tw8059141126832881916 : Unit := ()
noncomputable def hx.tw8069092538493481521 : Unit := ()
noncomputable def hx.tw8072070048918887560 : Unit := ()
noncomputable def hx.tw8078265402885471976 : Unit := ()
noncomputable def hx.tw811370354263480444 : Unit := ()
noncomputable def hx.tw8153351105357841641 : Unit := ()
noncomputable def hx.tw8210334511716523686 : Unit := ()
noncomputable def hx.tw8280520150143245440 : Unit := ()
noncomputable def hx.tw8294567603793468075 : Unit := ()
noncomputable def hx.tw829882407734958542 : Unit := ()
noncomputable def hx.tw8339939058450410749 : Unit := ()
noncomputable def hx.tw8383832312975943185 : Unit := ()
noncomputable def hx.tw8462949007004437653 : Unit := ()
noncomputable def hx.tw8526741685566437804 : Unit := ()
noncomputable def hx.tw8626315453904953860 : Unit := ()
noncomputable def hx.tw8644560031705490810 : Unit := ()
noncomputable def hx.tw8683918616840425538 : Unit := ()
noncomputable def hx.tw8719310546069769394 : Unit := ()
noncomputable def hx.tw8791178820788453978 : Unit := ()
noncomputable def hx.tw8800404311707590821 : Unit := ()
noncomputable def hx.tw8866640492970853812 : Unit := ()
noncomputable def hx.tw8916866690797206258 : Unit := ()
noncomputable def hx.tw9071423850677124175 : Unit := ()
noncomputable def hx.tw9115037031211061566 : Unit := ()
noncomputable def hx.tw9160301636639237467 : Unit := ()
noncomputable def hx.tw919350103801827390 : Unit := ()
noncomputable def hx.tw9229111910879503682 : Unit := ()
noncomputable def hx.tw9274210203733589373 : Unit := ()
noncomputable def hx.tw9300793153402489460 : Unit := ()
noncomputable def hx.tw9425653185733914764 : Unit := ()
noncomputable def hx.tw9440667166201527827 : Unit := ()
noncomputable def hx.tw9463795675075205437 : Unit := ()
noncomputable def hx.tw9504622745713830366 : Unit := ()
noncomputable def hx.tw9580440979016352591 : Unit := ()
noncomputable def hx.tw9592554324860578136 : Unit := ()
noncomputable def hx.tw9728156084186220081 : Unit := ()
noncomputable def hx.tw9733707994341241046 : Unit := ()
noncomputable def hx.tw9838419238923530799 : Unit := ()
noncomputable def hx.tw990764820897086996 : Unit := ()
theorem good_true {c : ClaimW} {cl : Str → Option Addr} {mean : ExcName → Option Value} {args : List WData} {s₁ s' : Shared} (hn : ∀ cls, c.raises args cls = false) (hp : c.post args (.bool true) args = true)
    (k : ∀ b o, s₁.heap.get? b = some o → s'.heap.get? b = some o) (hg : s'.gens = s₁.gens) (h0 : s₁.gens = #[]) (hos : s'.os = s₁.os) : GoodWG c cl mean args s₁ (.ok (.ret (.bool true))) s' :=
  ⟨.inl ⟨.bool true, .bool true, [], rfl, hn, .bool true, hp, unshared_nil⟩, .of_keep k, hos, .of_eq (hg.trans h0)⟩
theorem sm_of {K : Frag} {nm : Str} {a : Addr} {d : Fd} {hb : Heap} (F : DefF K nm a d) (X : K.In hb) (h : sysModules < a) : ∃ a o, sysModules < a ∧ hb.get? a = some o := by
  obtain ⟨_, _, _, _, _, Fn⟩ := F.f.at_ X
  obtain ⟨⟨o, ho, _⟩, _⟩ := Fn
  exact ⟨a, o, h, ho⟩
set_option Elab.async true in
set_option maxRecDepth 100000 in
set_option maxHeartbeats 8000000 in
theorem hx : PySem.Challenge.rw_nu0168_01.Holds := by
  (w_on; o_law; k_head; (case hw => w_witness2))
  intro w s₀ s₁ mg mb G Y fa o pm cd doc dV kV ho hd hcd hD hmg hg args vals as hpre hlay hrd hwl hlo
  have KX := kIn_of Y
  refine Ground.open G ?_
  intro T B D TE TW
  wrow_args hpre hlay hrd hwl hlo
  rename_i hL _ hW _ hI _ hc _
  have FL : DefF (hx.heap_1_39 w.params) "law" 415 d_law := ⟨by kernel_rfl, by kernel_rfl, by kernel_rfl⟩
  refine law_final (ad := adsHere) ?F FL KX T.g T.b T.nolimit (sm_of FL KX (by decide)) T.builtins hmg hW rfl hL hI hc ?_
  case F =>
    exact {
      len := by kernel_rfl
      range := by kernel_rfl
      sorted := by kernel_rfl
      set := by kernel_rfl
      max := by kernel_rfl
      any := by kernel_rfl
      list := by kernel_rfl
      tuple := by kernel_rfl
      int := by kernel_rfl
      use_set := ⟨196, by kernel_rfl⟩
      most := ⟨426, by kernel_rfl⟩
      draw := ⟨by kernel_rfl, by kernel_rfl, by kernel_rfl⟩
      source := ⟨by kernel_rfl, by kernel_rfl, by kernel_rfl⟩
      ways := ⟨by kernel_rfl, by kernel_rfl, by kernel_rfl⟩
      longest := ⟨by kernel_rfl, by kernel_rfl, by kernel_rfl⟩
      told := ⟨by kernel_rfl, by kernel_rfl, by kernel_rfl⟩
      lookups_of := ⟨by kernel_rfl, by kernel_rfl, by kernel_rfl⟩
      findings_of := ⟨by kernel_rfl, by kernel_rfl, by kernel_rfl⟩
      next := ⟨by kernel_rfl, by kernel_rfl, by kernel_rfl⟩
      reached := ⟨by kernel_rfl, by kernel_rfl, by kernel_rfl⟩
      rings := ⟨by kernel_rfl, by kernel_rfl, by kernel_rfl⟩
      depths := ⟨by kernel_rfl, by kernel_rfl, by kernel_rfl⟩
      behind := ⟨by kernel_rfl, by kernel_rfl, by kernel_rfl⟩
      langsys := ⟨by kernel_rfl, by kernel_rfl, by kernel_rfl⟩
      number := ⟨by kernel_rfl, by kernel_rfl, by kernel_rfl⟩
      Lookup := ⟨⟨by kernel_rfl, ⟨by kernel_rfl, by kernel_rfl, by kernel_rfl, by kernel_rfl, by kernel_rfl, by kernel_rfl, by kernel_rfl, by kernel_rfl⟩, by kernel_rfl⟩, by kernel_rfl, by kernel_rfl⟩
      Rule := ⟨⟨by kernel_rfl, ⟨by kernel_rfl, by kernel_rfl, by kernel_rfl, by kernel_rfl, by kernel_rfl, by kernel_rfl, by kernel_rfl, by kernel_rfl⟩, by kernel_rfl⟩, by kernel_rfl, by kernel_rfl⟩
      Contexts := ⟨⟨by kernel_rfl, ⟨by kernel_rfl, by kernel_rfl, by kernel_rfl, by kernel_rfl, by kernel_rfl, by kernel_rfl, by kernel_rfl, by kernel_rfl⟩, by kernel_rfl⟩, ⟨by kernel_rfl, by kernel_rfl⟩, ⟨0, by kernel_rfl⟩⟩
      Finding := ⟨⟨by kernel_rfl, ⟨by kernel_rfl, by kernel_rfl, by kernel_rfl, by kernel_rfl, by kernel_rfl, by kernel_rfl, by kernel_rfl, by kernel_rfl⟩, by kernel_rfl⟩, by kernel_rfl, by kernel_rfl⟩
      Single := ⟨⟨by kernel_rfl, ⟨by kernel_rfl, by kernel_rfl, by kernel_rfl, by kernel_rfl, by kernel_rfl, by kernel_rfl, by kernel_rfl, by kernel_rfl⟩, by kernel_rfl⟩, by kernel_rfl, by kernel_rfl⟩
      LangSys := ⟨⟨by kernel_rfl, ⟨by kernel_rfl, by kernel_rfl, by kernel_rfl, by kernel_rfl, by kernel_rfl, by kernel_rfl, by kernel_rfl, by kernel_rfl⟩, by kernel_rfl⟩, by kernel_rfl, by kernel_rfl⟩
      Script := ⟨⟨by kernel_rfl, ⟨by kernel_rfl, by kernel_rfl, by kernel_rfl, by kernel_rfl, by kernel_rfl, by kernel_rfl, by kernel_rfl, by kernel_rfl⟩, by kernel_rfl⟩, by kernel_rfl, by kernel_rfl⟩
      Feature := ⟨⟨by kernel_rfl, ⟨by kernel_rfl, by kernel_rfl, by kernel_rfl, by kernel_rfl, by kernel_rfl, by kernel_rfl, by kernel_rfl, by kernel_rfl⟩, by kernel_rfl⟩, by kernel_rfl, by kernel_rfl⟩
      Layout := ⟨⟨by kernel_rfl, ⟨by kernel_rfl, by kernel_rfl, by kernel_rfl, by kernel_rfl, by kernel_rfl, by kernel_rfl, by kernel_rfl, by kernel_rfl⟩, by kernel_rfl⟩, by kernel_rfl, by kernel_rfl⟩
      Frules := ⟨by kernel_rfl, by kernel_rfl, by kernel_rfl, by kernel_rfl⟩
      Ftold := ⟨by kernel_rfl, by kernel_rfl, by kernel_rfl, by kernel_rfl⟩
    }
  intro s' keep eg eo
  refine good_true (raisesW_false ?_) ?_ keep eg hg eo
  · wrow_none_raised
  · wrow_post
end Mine
set_option maxRecDepth 100000 in
theorem PySem.Challenge.cw_nu0168_01_holds : PySem.Challenge.rw_nu0168_01.Holds :=
  Mine.hx

