import PyProof.Rows.All
import HandS.Comp
import HandS.Exc
import HandS.ExcOwn
import HandS.TryOnly
import HandS.WordsExc
import KE.GoesComp
import HandS.ForMost
import HandS.IsInst
import HandS.Codes
import HandS.Wide
import HandS.Deep
import HandS.StrMore
import HandS.TupMul
import HandS.Style
import Wide.All
import OpenK.AllK
import Wide.FinOn
import PyProof.EqAt
import PyProof.EqKinds
import PyProof.TupleCall
import PySem.Challenge.RW_facetlore_k82_values_told_from_wrong_tex
import KE.KExcSuper
import KE.RegKSuper
import KE.KExcIs
import KE.KIntText
import HandS.More
import HandS.Flow
set_option Elab.async false
set_option linter.all false
set_option maxRecDepth 100000
set_option maxHeartbeats 1000000
/-! ### a list comprehension whose element may raise -/
namespace L2
open PySem PySem.Spec PyProof.Rows
section
variable {X : Cx} {W : WX} {E : XK} {pins : List (Addr × Obj)} {σ : St} {H : Hp} {s : Shared}
theorem funFrames_but {B B' h h' : Heap} {C : Addr} (k : ∀ b, b ≠ C → h'.get? b = h.get? b) (kb : ∀ b, b ≠ C → B'.get? b = B.get? b) : ∀ {l : List Env}, (∀ L ∈ frs l, L ≠ C) → h.FunFrames B l → h'.FunFrames B' l
  | [], _, _ => trivial
  | e :: l, n, ⟨hk, ⟨L, o, hf, hb, ho, hd⟩, hr⟩ => by
    have nL := n L (List.mem_filterMap.mpr ⟨e, List.mem_cons_self, hf⟩)
    refine ⟨hk, ⟨L, o, hf, by rw [kb L nL]; exact hb, by rw [k L nL]; exact ho, hd⟩, funFrames_but k kb (fun L hL => ?_) hr⟩
    obtain ⟨e', he', q⟩ := List.mem_filterMap.mp hL
    exact n L (List.mem_filterMap.mpr ⟨e', List.mem_cons_of_mem _ he', q⟩)
/-- as CX, the exception held by the frame at L -/
def CXh (P : Program) (w : World) (outer : List Env) (L : Addr) (H : Hp) (s : Shared) (E : XK) (u : Value) (s' : Shared) : Prop :=
  ∃ a B H' cls d, u = .ref a ∧ HandSPX.HeldZ B outer a (Zc cls d) L s'.heap ∧ HOk P w H' B ∧ UB (frs outer) H H' s.heap B s'.heap ∧ H' a = none ∧ s'.os = s.os ∧ AllBare s'.gens ∧ E cls d H'
/-- what a held exception is to us -/
theorem XE.of_held (hs : X.stack = X.env :: X.outer) (I : Inv X pins σ H s) (hW : ∀ cls d H', E cls d H' → W cls d σ H') {u : Value} {s' : Shared} (c : CXh X.prog X.w X.stack X.env.locals H s E u s') : XE X W u s' := by
  obtain ⟨a, B, H', cls, d, rfl, hh, hok, ub, na, os, ag, hE⟩ := c
  have st : B.StaysIn s'.heap := hh.1
  obtain ⟨G, g1, g2⟩ := restrict s'.heap fun b => (B.get? b).isSome || decide (b ∈ frs X.stack)
  have gB : ∀ b o, B.get? b = some o → G.get? b = some o := fun b o e => (g1 b (by rw [e]; rfl)).trans (st b o e)
  have gF : ∀ b, b ∈ frs X.stack → G.get? b = s'.heap.get? b := fun b hb => g1 b (by rw [decide_eq_true hb, Bool.or_true])
  have og : ∀ b o, G.get? b = some o → s'.heap.get? b = some o ∧ ((B.get? b).isSome = true ∨ b ∈ frs X.stack) := fun b o e => by
    by_cases q : ((B.get? b).isSome || decide (b ∈ frs X.stack)) = true
    · refine ⟨(g1 b q).symm.trans e, ?_⟩
      rw [Bool.or_eq_true, decide_eq_true_eq] at q
      exact q
    · rw [g2 b (Bool.eq_false_iff.mpr q)] at e
      cases e
  refine ⟨a, B, { s with heap := G, gens := s'.gens, drawn := s'.drawn, toks := s'.toks }, pins, σ, H', cls, d, rfl, ?_, fun b o e hb => ?_, Heap.UpToSlots.of_keeps fun b o e => (og b o e).1, .inr (.inr hh), na, os, ag, hW _ _ _ hE⟩
  · refine I.call (ch := []) ⟨fun b o e n hb _ => gB b o (ub.keep b o e n hb), fun b o e n hb _ => ?_, fun b o e n _ => ub.free b o e n, fun b o e _ => ?_, ub.tups, ub.frzs, ub.tbls⟩ (hok.kept gB) ag (fun _ z => nomatch z)
    · obtain ⟨sl, q⟩ := ub.slot b o e hb
      exact ⟨sl, (gF b hb).trans q⟩
    · by_cases hb : b ∈ frs X.stack
      · obtain ⟨sl, q⟩ := ub.slot b o e hb
        exact ⟨_, (gF b hb).trans q⟩
      · exact (ub.there b o e hb).elim fun o' q => ⟨o', gB b o' q⟩
  · obtain ⟨e', q⟩ := og b o e
    rcases q with q | q
    · obtain ⟨o', q'⟩ := Option.isSome_iff_exists.mp q
      rw [q']
      exact (st b o' q').symm.trans e'
    · exact absurd q hb
/-- exceptions at the slots σ may leave: those that a call lets out, those that the frame holds -/
structure Lets (X : Cx) (σ : St) (E : XK) : Prop where
  fr : ∃ e0 o0 L, X.stack = e0 :: o0 ∧ e0.frame = some L ∧ X.env.frame = some L
  fly : PassesAt (L2.CX X.prog X.w) X σ E
  held : ∀ L, X.env.frame = some L → ∀ pins H s u s', Inv X pins σ H s → CXh X.prog X.w X.stack L H s E u s' → X.xe u s'
theorem lets_def (hs : X.stack = X.env :: X.outer) (hf : X.env.frame = some X.env.locals) (tk : Takes X W) (σ : St) : Lets X σ fun cls d H' => W cls d σ H' where
  fr := ⟨X.env, X.outer, X.env.locals, hs, hf, hf⟩
  fly := passAt tk σ
  held := fun L hL pins H s u s' I c => by
    rw [hf] at hL
    cases hL
    exact tk _ _ (XE.of_held hs I (fun _ _ _ h => h) c)
/-- an exception held in a block is let go by it -/
theorem blk_goes {L : Addr} {ce : Env} {C : Addr} {oC : Obj} {u : Value} {s' : Shared} (le : Lets X σ E) (hL : X.env.frame = some L)
    (I : Inv X pins σ H s) (fp : FpOk X pins H C) (hC : s.heap.get? C = some oC) (hns : ∃ m, s.heap.Ns C m) (nC : C ∉ frs X.stack)
    (cf : ce.frame = X.env.frame) (cl : ce.locals = C) (c : CXh X.prog X.w X.stack L H s E u s') : CompFails (model X.prog X.w) X.A X.xe ce u s' := by
  obtain ⟨a, B, H', cls, d, rfl, hh, hok, ub, na, os, ag, hE⟩ := c
  have BC : B.get? C = some oC := ub.keep C oC hC fp.1 nC
  have h1C : s'.heap.get? C = some oC := hh.1 C oC BC
  obtain ⟨m, o0, es, ep, e1, e2⟩ := hns
  subst cl
  refine ⟨m, ⟨o0, es, ep, by rw [h1C, ← hC]; exact e1, e2⟩, fun h' m' hn' sb => ?_⟩
  obtain ⟨st, nb, ff, oe, vs, T, oT, ts, he, hz, hd, hv, hnT, hTe, hT, hdT, h3⟩ := hh
  have aC : a ≠ ce.locals := fun z => by rw [z, BC] at nb; cases nb
  have TC : T ≠ ce.locals := fun z => by rw [z, BC] at hnT; cases hnT
  have old : ∀ b, b ≠ ce.locals → h'.get? b = s'.heap.get? b := fun b hb => sb.2 b hb
  obtain ⟨B', b1, b2⟩ := restrict B fun b => decide (b ≠ ce.locals)
  have bk : ∀ b, b ≠ ce.locals → B'.get? b = B.get? b := fun b hb => b1 b (decide_eq_true hb)
  have bc : B'.get? ce.locals = none := b2 _ (by simp)
  have bo : ∀ b o, B'.get? b = some o → b ≠ ce.locals ∧ B.get? b = some o := fun b o e => by
    have hb : b ≠ ce.locals := fun z => by rw [z, bc] at e; cases e
    exact ⟨hb, by rw [← bk b hb]; exact e⟩
  have fF : ∀ L ∈ frs X.stack, L ≠ ce.locals := fun L hL z => nC (by rw [← z]; exact hL)
  have held : HandSPX.HeldZ B' X.stack a (Zc cls d) L h' := by
    refine ⟨fun b o e => ?_, by rw [bk a aC]; exact nb, funFrames_but old bk fF ff, oe, vs, T, oT, ts, by rw [old a aC]; exact he, hz, hd, hv, by rw [bk T TC]; exact hnT, hTe, by rw [old T TC]; exact hT, hdT, h3⟩
    obtain ⟨hb, e'⟩ := bo b o e
    rw [old b hb]
    exact st b o e'
  have nn : (Value.ref T == Value.none) = false := by simp
  unfold PySem.passOn
  refine wpAny_bind (wpAny_field (by rw [old a aC]; exact he) hd hv ?_)
  rw [nn, if_neg Bool.false_ne_true, cf, hL]
  refine wpAny_bind (HandSPX.setFlight_onZ held fun h2 hh2 up3 => wpAny_throw ?_)
  -- the state without the block's names
  obtain ⟨G, g1, g2⟩ := restrict s.heap fun b => decide (b ≠ ce.locals)
  have gk : ∀ b, b ≠ ce.locals → G.get? b = s.heap.get? b := fun b hb => g1 b (decide_eq_true hb)
  have go : ∀ b o, G.get? b = some o → b ≠ ce.locals ∧ s.heap.get? b = some o := fun b o e => by
    have hb : b ≠ ce.locals := fun z => by rw [z, g2 _ (by simp)] at e; cases e
    exact ⟨hb, by rw [← gk b hb]; exact e⟩
  obtain ⟨z0, z1, z2, z3, z4, z5⟩ := fp
  have I' : Inv X pins σ H { s with heap := G, toks := s.toks } := I.turned (fun b o hb e => by rw [gk b hb]; exact e) z0 z1 z3 z4 z5
  refine le.held L hL pins H _ _ _ I' ⟨a, B', H', cls, d, rfl, hh2, fun b o q => ?_, ⟨fun b o e n hb => ?_, fun b o e hb => ?_, fun b o e n => ub.free b o (go b o e).2 n, fun b o e hb => ?_, ub.tups, ub.frzs, ub.tbls⟩, na, os, ag, hE⟩
  · refine (hok b o q).stay (fun c u hc r => ?_) (fun _ r => r) fun _ _ r => r
    have nc : c ≠ ce.locals := fun z => by
      have z' := ub.free _ _ hC z0
      rcases hc with hc | hc
      · rw [← z, hc, q] at z'; cases z'
      · rw [← z, hc] at z'; cases z'
    rw [bk c nc]
    exact r
  · obtain ⟨hb', e'⟩ := go b o e
    rw [bk b hb']
    exact ub.keep b o e' n hb
  · obtain ⟨nb', e'⟩ := go b o e
    obtain ⟨sl, q⟩ := ub.slot b o e' hb
    obtain ⟨_, o', q', hnf⟩ := I.stack.mem hb
    rw [e'] at q'
    cases q'
    obtain ⟨sl2, w3⟩ := up3 b _ ((old b nb').trans q) (fun vs z => hnf vs z)
    exact ⟨sl2, w3⟩
  · obtain ⟨nb', e'⟩ := go b o e
    obtain ⟨o', q⟩ := ub.there b o e' hb
    exact ⟨o', by rw [bk b nb']; exact q⟩
end
/-- the context of a block that exceptions may leave by xe -/
abbrev Cx.bx (X : Cx) (s : Shared) (H : Hp) (scope : Scope) (ce : Env) (fp : List Addr) (xe : Value → Shared → Prop) : Cx := { X.blk s H scope ce fp with xe := xe }
section
variable {X : Cx} {pins : List (Addr × Obj)} {σ : St} {H : Hp} {s : Shared}
theorem Inv.toBx {s0 : Shared} {H0 : Hp} {scope : Scope} {ce : Env} {fp : List Addr} {xe : Value → Shared → Prop} (I : Inv (X.blk s0 H0 scope ce fp) pins σ H s) : Inv (X.bx s0 H0 scope ce fp xe) pins σ H s :=
  have o := I.ok
  ⟨⟨o.mod, o.kind, o.glob, o.blt, o.above, o.inj, o.has, o.cab, o.hd, o.frames, o.stk, o.exf, o.bs, o.bsz, o.noex, o.exfs, o.funs, o.frf⟩,
    I.os, I.bare, I.base, I.loc, I.cell, I.free, I.freeC, I.pin, I.hok, I.len⟩
/-- [elt for target in iter if ..], elt may raise: te wants what is to hold of an exception -/
def tLcR (E : St → XK) (wi : TI) (g : TG) (tt : TT) (te : XK → TE) (vs : List Nat) : TE := fun σ H Q => tLc wi g tt (te (E σ)) vs σ H Q
theorem lcR_core {Qf : Value → Shared → Prop} {use : Option (Value → Sem Unit)} {pos2 : Pos} {Q : VK} {elt tg iter : Expr} {ifs : List Expr} {scope : Scope} {own : List (Str × Nat)} {pos : Pos} {wi : TI} {g : TG} {tt : TT} {te : XK → TE} {E : St → XK}
    (le : ∀ σ, Lets X σ (E σ)) (hc : X.calm = true) (hN : X.N.Nodup) (hi : PI X tg iter wi) (ok : BlkOk X.N X.env.scope scope own)
    (hg : ∀ s0 H0 C cl fp xe, PG (X.bx s0 H0 scope (compEnvC scope cl C X.env) fp xe) tg g) (ht : ∀ s0 H0 C cl fp xe, PTs (X.bx s0 H0 scope (compEnvC scope cl C X.env) fp xe) ifs tt)
    (he : ∀ E0 s0 H0 C cl fp xe, (∀ σ', Lets (X.bx s0 H0 scope (compEnvC scope cl C X.env) fp xe) σ' E0) → PE (X.bx s0 H0 scope (compEnvC scope cl C X.env) fp xe) elt (te E0))
    (hfo : ∀ x, foldedSetIterable iter X.env x = pure x) (I : Inv X pins σ H s) (h : tLcR E wi g tt te (own.map (·.2)) σ H Q)
    (fin : ∀ D ce s' H', Inv X pins σ H' s' → Q (.ref D) H' → (∃ m, s'.heap.Ns ce.locals m) → FpOk X pins H' ce.locals → compEnds (model X.prog X.w) X.A X.xe use Qf (.ref D) ce (.ok .next) s') :
    wpAny (model X.prog X.w) X.A (comprehension (.ListComp elt [⟨tg, iter, ifs, 0⟩] scope pos) scope X.env pos2 (newList []) false (eval iter X.env) use) Qf X.xe s := by
  have frees : ∀ y ∈ scope.names, y.2 = .free → ∃ c, X.env.cells.lookup y.1 = some c := fun y hy e => (ok.free y hy e).elim (fun k => I.ok.has _ (.inl k)) fun k => I.ok.has _ (.inr k)
  refine comprehension_at (use := use) rfl hfo (closure_ok frees) ok.kind (fun y hy e => by rw [ok.uniq y hy, e]) ?_
  refine thn (hi.run pins s σ H _ I h) fun xv s1 hx => thn hx fun itv s2 h2 => ?_
  obtain ⟨it, fp, tn, J, H2, rfl, I2, T, st2, f2, q⟩ := h2
  refine wpAny_newObj_type (newEnv_comp ?_) (by show 0 ≤ sizeLine; decide)
  generalize hD : s2.heap.objs.size = D
  obtain ⟨Wt, ⟨m0, w0⟩, turn⟩ := q D (I2.hok.fresh (Nat.le_of_eq hD))
  generalize hl : ({ cls := .type "list", data := .seq ([] : List Value).toArray } : Obj) = lo
  generalize hs3 : ({ s2 with heap := s2.heap.push lo } : Shared) = s3
  have h3 : s3.heap = s2.heap.push lo := by rw [← hs3]
  have k3 : ∀ b o, s2.heap.get? b = some o → s3.heap.get? b = some o := fun b o e => by
    rw [h3]
    exact Heap.get?_push_of_some _ e
  have D3 : s3.heap.get? D = some lo := by
    rw [h3, ← hD]
    exact Heap.get?_push_size _ (by rw [← hl]; rfl)
  have I3 : Inv X pins σ (upd H2 D (.lst [])) s3 := by
    rw [← hs3]
    refine I2.laid (t' := s2.toks) (fun b o e => Heap.get?_push_of_some _ e) (Nat.le_of_eq hD) ⟨Nat.zero_le _, [], 0, .nil, ?_⟩
    rw [← h3, D3, ← hl]
  have lt2 : ∀ b ∈ fp, b < s2.heap.objs.size := fun b hb => (T.obj _ _ st2 b hb).elim fun o e => Heap.lt_size e.1
  have f3 : ∀ b ∈ fp, FpOk X pins (upd H2 D (.lst [])) b ∧ b < s3.heap.objs.size := fun b hb => by
    have l2 := lt2 b hb
    refine ⟨⟨?_, (f2 b hb).2⟩, ?_⟩
    · rw [upd_ne (fun z => by rw [z, ← hD] at l2; exact Nat.lt_irrefl _ l2)]
      exact (f2 b hb).1
    · rw [h3, Heap.size_push]
      exact Nat.lt_succ_of_lt l2
  have st3 := T.keep _ _ _ st2 fun b _ o e => k3 b o e
  obtain ⟨cs, hcs⟩ : ∃ cs, cs = cellsFrom (s3.heap.objs.size + 1) scope.names (cloFrom X.env.cells scope.names []) := ⟨_, rfl⟩
  obtain ⟨ce, hce⟩ : ∃ ce, ce = compEnvC scope cs s3.heap.objs.size X.env := ⟨_, rfl⟩
  have ceC : ce.locals = s3.heap.objs.size := by rw [hce]; rfl
  have ceF : ce.frame = X.env.frame := by rw [hce]; rfl
  obtain ⟨xe, hxe⟩ : ∃ xe, xe = notedBy (model X.prog X.w) X.A ce (CompFails (model X.prog X.w) X.A X.xe ce) := ⟨_, rfl⟩
  obtain ⟨s4, hs4⟩ : ∃ s4 : Shared, s4 = { s3 with heap := pushCells (s3.heap.push { cls := .type "dict", data := .dict #[] }) scope.names } := ⟨_, rfl⟩
  have k4 : ∀ b o, s3.heap.get? b = some o → s4.heap.get? b = some o := fun b o e => by
    rw [hs4]
    exact pushCells_keeps _ _ _ _ (Heap.get?_push_of_some _ e)
  have I4 : Inv (X.bx s3 (upd H2 D (.lst [])) scope ce fp xe) [] (wipe σ (own.map (·.2))) (upd H2 D (.lst [])) s4 := by
    rw [hs4, hce, hcs]
    exact (block_start I3 ok hN f3).toBx
  have st4 := T.keep _ _ _ st3 fun b _ o e => k4 b o e
  suffices go : codeAny (model X.prog X.w) X.A (.compStart (.ListComp elt [⟨tg, iter, ifs, 0⟩] scope pos) 0 (.ref it) (.ref D) ce)
      (compEnds (model X.prog X.w) X.A X.xe use Qf (.ref D) ce) s4 by
    rw [hs4, hce, hcs] at go
    exact go
  have I3b : ∀ {p' : List (Addr × Obj)} {σ' : St} {Hc : Hp} {sc : Shared}, Inv (X.bx s3 (upd H2 D (.lst [])) scope ce fp xe) p' σ' Hc sc → Inv X pins σ Hc sc := fun Ic =>
    I3.call' (ch := fp) Ic.os Ic.base Ic.hok Ic.bare fun b hb =>
      have z := (f3 b hb).1.2
      ⟨z.2.2.1, z.1, z.2.2.2.1, z.2.2.2.2⟩
  have nC : ce.locals ∉ frs X.stack := fun hm => by
    obtain ⟨_, o, e, _⟩ := I3.stack.mem hm
    have := Heap.lt_size e
    rw [ceC] at this
    exact Nat.lt_irrefl _ this
  have outC : ∀ {Hc : Hp}, Hc ce.locals = none → FpOk X pins Hc ce.locals := fun e => I3.fpOk (Nat.le_of_eq ceC.symm) e
  obtain ⟨e0, o0, L, l1, l3, l4⟩ := (le σ).fr
  have l2 : X.A.frames = some (e0 :: o0) := by rw [I.ok.frames, l1]
  have goes : ∀ {p' : List (Addr × Obj)} {σ' : St} {Hc : Hp} {sc : Shared} {u : Value} {s' : Shared}, Inv (X.bx s3 (upd H2 D (.lst [])) scope ce fp xe) p' σ' Hc sc → CXh X.prog X.w X.stack L Hc sc (E σ) u s' → CompFails (model X.prog X.w) X.A X.xe ce u s' := fun Ic c => by
    obtain ⟨m, ⟨o, es, ep, e1, e2⟩, _⟩ := Ic.loc
    exact blk_goes (le σ) l4 (I3b Ic) (outC Ic.free) e1 ⟨m, o, es, ep, e1, e2⟩ nC ceF rfl c
  have en : ∀ a, noteFrame (.ref a) ce = noteFrame (.ref a) e0 := fun a => by
    unfold noteFrame PySem.frameOf
    rw [ceF, l4, l3]
  have pa : ∀ σ', Lets (X.bx s3 (upd H2 D (.lst [])) scope ce fp xe) σ' (E σ) := fun σ' => by
    refine ⟨⟨e0, o0, L, l1, l3, by show ce.frame = _; rw [ceF, l4]⟩, fun p' Hc sc u s' Ic c => ?_, fun L' hL' p' Hc sc u s' Ic c => ?_⟩
    · show xe u s'
      rw [hxe]
      obtain ⟨a, B, H', cls, d, rfl, fl, hok, ub, na, os, ag, hE⟩ := c
      show wpAny _ _ (noteFrame (.ref a) ce) _ _ _
      rw [en]
      have fl' : HandSPX.FlyingZ B (e0 :: o0) a (Zc cls d) s'.heap := by rw [← l1]; exact fl
      refine HandSPX.looks_onZ Zc.steady l2 l3 fl' fun h1 hh up => goes Ic ⟨a, B, H', cls, d, rfl, by rw [l1]; exact hh, hok, ⟨ub.keep, fun b o e hb => ?_, ub.free, ub.there, ub.tups, ub.frzs, ub.tbls⟩, na, os, ag, hE⟩
      obtain ⟨sl, q⟩ := ub.slot b o e hb
      obtain ⟨_, o', q', hnf⟩ := (I3b Ic).stack.mem hb
      rw [e] at q'
      cases q'
      obtain ⟨sl2, w3⟩ := up b _ q (fun vs z => hnf vs z)
      exact ⟨sl2, w3⟩
    · show xe u s'
      rw [hxe]
      have eL : L' = L := by
        have : ce.frame = some L' := hL'
        rw [ceF, l4] at this
        injection this with this
        exact this.symm
      subst eL
      obtain ⟨a, B, H', cls, d, rfl, hh, r⟩ := c
      show wpAny _ _ (noteFrame (.ref a) ce) _ _ _
      rw [en]
      exact HandSPX.againZ l3 hh.2.2.2 (goes Ic ⟨a, B, H', cls, d, rfl, hh, r⟩)
  have pg : PG (X.bx s3 (upd H2 D (.lst [])) scope ce fp xe) tg g := by rw [hce]; exact hg _ _ _ _ _ _
  have pt : PTs (X.bx s3 (upd H2 D (.lst [])) scope ce fp xe) ifs tt := by rw [hce]; exact ht _ _ _ _ _ _
  have pe : PE (X.bx s3 (upd H2 D (.lst [])) scope ce fp xe) elt (te (E σ)) := by
    have := pa
    rw [hce] at this ⊢
    exact he _ _ _ _ _ _ _ this
  have stat : ∀ {p' : List (Addr × Obj)} {σ' : St} {H' : Hp} {s' : Shared}, Inv (X.bx s3 (upd H2 D (.lst [])) scope ce fp xe) p' σ' H' s' → p' = [] → (∀ b ∈ fp, H' b = none) → ∀ b ∈ fp, FpOk (X.bx s3 (upd H2 D (.lst [])) scope ce fp xe) [] H' b := fun I' _ hn b hb =>
    ⟨hn b hb, (I'.ok.exf b hb).1, I'.ok.exfs b hb, .inl hb, fun y c e => (I'.ok.exf b hb).2 y c e, fun p hp => nomatch (show p ∈ ([] : List (Addr × Obj)) from hp)⟩
  have nfp : ∀ b ∈ fp, upd H2 D (.lst []) b = none := fun b hb => (f3 b hb).1.1
  have ended : ∀ {H' : Hp} {s' : Shared}, Inv (X.bx s3 (upd H2 D (.lst [])) scope ce fp xe) [] (wipe σ (own.map (·.2))) H' s' → Q (.ref D) H' → compEnds (model X.prog X.w) X.A X.xe use Qf (.ref D) ce (.ok .next) s' := fun {H' s'} I' qq => by
    obtain ⟨m, hn, _⟩ := I'.loc
    exact fin D ce s' H' (I3b I') qq ⟨m, hn⟩ (outC I'.free)
  have loop : codeAny (model X.prog X.w) X.A (.compLoop (.ListComp elt [⟨tg, iter, ifs, 0⟩] scope pos) 0 (.ref it) (.ref D) ce) (compEnds (model X.prog X.w) X.A X.xe use Qf (.ref D) ce) s4 := by
    refine compLoop_any (fun n s' => ∃ i H', Inv (X.bx s3 (upd H2 D (.lst [])) scope ce fp xe) [] (wipe σ (own.map (·.2))) H' s' ∧ tn i s'.heap ∧ (∀ b ∈ fp, H' b = none) ∧ Wt i n H') ?_ m0 ⟨0, _, I4, st4, nfp, w0⟩
    rintro n s5 ⟨i, H5, I5, st5, n5, w5⟩
    have ex : (notedBy (model X.prog X.w) X.A ce fun e s' => compEnds (model X.prog X.w) X.A X.xe use Qf (.ref D) ce (.error e) s') = xe := hxe.symm
    rw [ex]
    rcases turn i n H5 w5 with ⟨stop, qq⟩ | ⟨go, Nx, hNx, step⟩
    · refine thn (T.done (X.bx s3 (upd H2 D (.lst [])) scope ce fp xe) rfl rfl rfl hc i [] s5 _ H5 xe I5 (stat I5 rfl n5) st5 stop) fun r s6 ⟨hr, I6⟩ => ?_
      subst hr
      exact ended I6 qq
    · refine thn (T.item (X.bx s3 (upd H2 D (.lst [])) scope ce fp xe) rfl rfl rfl hc i [] s5 _ H5 xe I5 (stat I5 rfl n5) st5 go) fun r s6 ⟨u, hr, h6⟩ => ?_
      subst hr
      refine thn h6 fun _ s7 ⟨x, H7, J7, r7, y7, st7, n7⟩ => ?_
      have J7p := J7.pinned (stat J7 rfl n7) (T.obj _ _ st7)
      refine thn (pg.run _ s7 _ H7 x u _ J7p r7 (step x H7 y7)) fun _ s8 ⟨σ8, H8, J8, wq, q8⟩ => ?_
      refine thn (pt.run _ s8 σ8 H8 _ J8 q8) fun b s9 ⟨H9, J9, q9⟩ => ?_
      -- behind a turn
      have next : ∀ {s' : Shared} {H' : Hp}, Inv (X.bx s3 (upd H2 D (.lst [])) scope ce fp xe) ([] ++ pinsAt fp s7.heap) σ8 H' s' → Nx H' →
          ∃ m, m < n ∧ ∃ i H', Inv (X.bx s3 (upd H2 D (.lst [])) scope ce fp xe) [] (wipe σ (own.map (·.2))) H' s' ∧ tn i s'.heap ∧ (∀ b ∈ fp, H' b = none) ∧ Wt i m H' := fun {s' H'} I' nx => by
        obtain ⟨m', lt, w'⟩ := hNx H' nx
        have held : ∀ b ∈ fp, ∀ o, s7.heap.get? b = some o → s'.heap.get? b = some o ∧ H' b = none := fun b hb o e => by
          have z := I'.pin (b, o) (List.mem_append_right _ (List.mem_append_right _ (mem_pinsAt hb e)))
          exact ⟨z.1, z.2.1⟩
        refine ⟨m', lt, i + 1, H', ?_, T.keep _ _ _ st7 fun b hb o e => (held b hb o e).1, fun b hb => ?_, w'⟩
        · refine (I'.unpinned (pins := [])).weak (by rw [← wq, wipe_length]) fun j v e => ?_
          rw [← wq] at e
          exact (wipe_some e).1
        · obtain ⟨o, e, _⟩ := T.obj _ _ st7 b hb
          exact (held b hb o e).2
      cases b with
      | false =>
        rw [if_neg Bool.false_ne_true] at q9
        exact next J9 q9
      | true =>
        rw [if_pos rfl] at q9
        refine thn (pe.run _ s9 σ8 H9 _ J9 q9) fun z s10 ⟨yv, H10, J10, r10, acc, aD, al, nx⟩ => ?_
        exact app_ok (X := X.bx s3 (upd H2 D (.lst [])) scope ce fp xe) J10 aD al r10 fun s11 J11 => next J11 nx
  exact codeAny_compStart_list loop (T.self X.A 0 _ _ _ st4 loop)
theorem pe_lcR {elt tg iter : Expr} {ifs : List Expr} {scope : Scope} {own : List (Str × Nat)} {pos : Pos} {wi : TI} {g : TG} {tt : TT} {te : XK → TE} {E : St → XK}
    (le : ∀ σ, Lets X σ (E σ)) (hc : X.calm = true) (hN : X.N.Nodup) (hi : PI X tg iter wi) (ok : BlkOk X.N X.env.scope scope own)
    (hg : ∀ s0 H0 C cl fp xe, PG (X.bx s0 H0 scope (compEnvC scope cl C X.env) fp xe) tg g) (ht : ∀ s0 H0 C cl fp xe, PTs (X.bx s0 H0 scope (compEnvC scope cl C X.env) fp xe) ifs tt)
    (he : ∀ E0 s0 H0 C cl fp xe, (∀ σ', Lets (X.bx s0 H0 scope (compEnvC scope cl C X.env) fp xe) σ' E0) → PE (X.bx s0 H0 scope (compEnvC scope cl C X.env) fp xe) elt (te E0))
    (hfo : ∀ x, foldedSetIterable iter X.env x = pure x := by intro _; rfl) :
    PE X (.ListComp elt [⟨tg, iter, ifs, 0⟩] scope pos) (tLcR E wi g tt te (own.map (·.2))) := by
  refine ⟨fun pins s σ H Q I h => ?_⟩
  rw [eval_ListComp]
  refine lcR_core le hc hN hi ok hg ht he hfo I h fun D ce s' H' I' qq ⟨m, hn⟩ ⟨z0, z1, z2, z3, z4, z5⟩ => ?_
  exact ⟨m, hn, fun h' sb => ⟨.ref D, H', I'.turned (t' := s'.toks) (fun b o hb e => (sb.2 b hb).trans e) z0 z1 z3 z4 z5, rfl, qq⟩⟩
/-- name = [..] on one line -/
theorem ps_setLcR {i : Nat} {y : Str} {py spos : Pos} {elt tg iter : Expr} {ifs : List Expr} {scope : Scope} {own : List (Str × Nat)} {pos : Pos} {wi : TI} {g : TG} {tt : TT} {te : XK → TE} {E : St → XK}
    (le : ∀ σ, Lets X σ (E σ)) (hc : X.calm = true) (hN : X.N.Nodup) (hy : X.N[i]? = some y) (hyl : X.env.scope.names.lookup y = some .local)
    (hsw : swapsWith (.ListComp elt [⟨tg, iter, ifs, 0⟩] scope pos) (some (.Name y py)) spos.line X.env = pure true) (hi : PI X tg iter wi) (ok : BlkOk X.N X.env.scope scope own)
    (hg : ∀ s0 H0 C cl fp xe, PG (X.bx s0 H0 scope (compEnvC scope cl C X.env) fp xe) tg g) (ht : ∀ s0 H0 C cl fp xe, PTs (X.bx s0 H0 scope (compEnvC scope cl C X.env) fp xe) ifs tt)
    (he : ∀ E0 s0 H0 C cl fp xe, (∀ σ', Lets (X.bx s0 H0 scope (compEnvC scope cl C X.env) fp xe) σ' E0) → PE (X.bx s0 H0 scope (compEnvC scope cl C X.env) fp xe) elt (te E0))
    (hfo : ∀ x, foldedSetIterable iter X.env x = pure x := by intro _; rfl) :
    PS X (.Assign [.Name y py] (.ListComp elt [⟨tg, iter, ifs, 0⟩] scope pos) spos) (tAsg (tLcR E wi g tt te (own.map (·.2))) (gName i)) := by
  refine ⟨fun pins s σ H D I h => ?_⟩
  rw [exec_Assign_Name_used _ _ _ _ hsw]
  refine wpAny_bind (wpAny_standAt (wpAny_bind (wpAny_bind ?_)))
  refine wpAny_mono (lcR_core (Q := fun x H1 => gName i x σ H1 D.nx) (Qf := fun _ s' => SP X pins D .next s') le hc hN hi ok hg ht he hfo I h fun L ce s' H' I' qq ⟨m, hn⟩ ⟨z0, z1, z2, z3, z4, z5⟩ => ?_) (fun _ s' q => wpAny_pure (wpAny_pure q)) fun _ _ e => e
  show wpAny _ _ (assign (.Name y py) X.env (.ref L)) _ _ _
  refine wpAny_assign_Name (store_ok2 (v := V.ref L) I' hN hy (.inl hyl) rfl (fun s2 I2 ⟨a, sb, ha⟩ => ?_) (.inr hyl))
  have na : ce.locals ≠ a := ha.elim (fun z => by rw [z]; exact z1) fun z e => z4 y a z e.symm
  exact ⟨m, hn.sameBut sb na, fun h3 sb3 => ⟨_, H', I2.turned (t' := s2.toks) (fun b o hb e => (sb3.2 b hb).trans e) z0 z1 z3 z4 z5, qq⟩⟩
end
end L2

set_option Elab.async false
set_option linter.all false
set_option maxRecDepth 100000
set_option maxHeartbeats 1000000
/-! ### the plain mirror of a program, and what it stands for -/
namespace ME
open PySem PySem.Spec PyProof.Rows L2
abbrev S (l : List Nat) : Str := ⟨l.toArray⟩
/-- a value: lists by their number in the store -/
inductive W where
  | non | bl (b : Bool) | int (i : Int) | str (x : List Nat) | tup (xs : List W) | ref (n : Nat) | scr (ns : List Int)
inductive Cell where
  | lst (xs : List W) | obj (k : Nat) (fs : List (Str × W))
abbrev Sto := List Cell
structure Er where
  k : Nat
  arg : Option W
inductive Res (α : Type) where
  | ok (a : α) (s : Sto) | er (e : Er) (s : Sto) | no
abbrev M (α : Type) := Sto → Res α
def bindM {α β : Type} (m : M α) (f : α → M β) : M β := fun s => match m s with
  | .ok a s' => f a s'
  | .er e s' => .er e s'
  | .no => .no
abbrev Env := List (Option W)
structure Cfg where
  K : PySem.W.Frag
  cls : Nat → Addr
  obj : Nat → Addr
  sa : Addr
  ns : List Int
mutual
def RV (c : Cfg) (H : Hp) (μ : List Addr) : W → V → Prop
  | .non, v => v = .non
  | .bl b, v => v = .bl b
  | .int i, v => v = .int i
  | .str x, v => v = .str (S x)
  | .tup xs, v => ∃ a vs, v = .ref a ∧ SqT c.K H a vs ∧ RVs c H μ xs vs
  | .ref n, v => ∃ a, μ[n]? = some a ∧ v = .ref a
  | .scr ns, v => v = .ref c.sa ∧ ns = c.ns
def RVs (c : Cfg) (H : Hp) (μ : List Addr) : List W → List V → Prop
  | [], vs => vs = []
  | w :: ws, vs => ∃ v vs', vs = v :: vs' ∧ RV c H μ w v ∧ RVs c H μ ws vs'
end
section
variable {c : Cfg} {H : Hp} {μ : List Addr}
theorem RVs.len : ∀ {ws : List W} {vs : List V}, RVs c H μ ws vs → vs.length = ws.length
  | [], _, h => by rw [show _ = [] from h]; rfl
  | w :: ws, vs, h => by
    obtain ⟨v, vs', rfl, _, r⟩ := h
    simp [RVs.len r]
theorem RVs.get : ∀ {ws : List W} {vs : List V} {i : Nat} {w : W}, RVs c H μ ws vs → ws[i]? = some w → ∃ v, vs[i]? = some v ∧ RV c H μ w v
  | [], _, _, _, _, e => by simp at e
  | w :: ws, vs, 0, _, h, e => by
    obtain ⟨v, vs', rfl, r, _⟩ := h
    simp at e; subst e
    exact ⟨v, rfl, r⟩
  | w :: ws, vs, i + 1, _, h, e => by
    obtain ⟨v, vs', rfl, _, r⟩ := h
    obtain ⟨u, e1, r1⟩ := RVs.get (i := i) r (by simpa using e)
    exact ⟨u, by simpa using e1, r1⟩
theorem RVs.of_get : ∀ {ws : List W} {vs : List V}, vs.length = ws.length → (∀ (i : Nat) (w : W) (v : V), ws[i]? = some w → vs[i]? = some v → RV c H μ w v) → RVs c H μ ws vs
  | [], vs, l, _ => List.length_eq_zero_iff.mp l
  | w :: ws, [], l, _ => by simp at l
  | w :: ws, v :: vs, l, h => ⟨v, vs, rfl, h 0 w v rfl rfl, RVs.of_get (by simpa using l) fun i w' v' e1 e2 => h (i + 1) w' v' (by simpa using e1) (by simpa using e2)⟩
theorem RVs.get' {ws : List W} {vs : List V} {i : Nat} {v : V} (r : RVs c H μ ws vs) (e : vs[i]? = some v) : ∃ w, ws[i]? = some w ∧ RV c H μ w v := by
  have lt : i < ws.length := by rw [← r.len]; exact (List.getElem?_eq_some_iff.mp e).1
  obtain ⟨v', e1, r1⟩ := r.get (List.getElem?_eq_getElem lt)
  rw [e] at e1
  cases e1
  exact ⟨_, List.getElem?_eq_getElem lt, r1⟩
theorem RVs.both {ws : List W} {vs : List V} {i : Nat} {v : V} {w : W} (r : RVs c H μ ws vs) (e1 : ws[i]? = some w) (e : vs[i]? = some v) : RV c H μ w v := by
  obtain ⟨v', e2, r1⟩ := r.get e1
  rw [e] at e2
  cases e2
  exact r1
theorem RVs.app {ws ws' : List W} {vs vs' : List V} (a : RVs c H μ ws vs) (b : RVs c H μ ws' vs') : RVs c H μ (ws ++ ws') (vs ++ vs') := by
  refine .of_get (by rw [List.length_append, List.length_append, a.len, b.len]) fun i w v e1 e2 => ?_
  have l := a.len
  by_cases hi : i < ws.length
  · rw [List.getElem?_append_left hi] at e1
    rw [List.getElem?_append_left (by omega)] at e2
    exact a.both e1 e2
  · rw [List.getElem?_append_right (by omega)] at e1
    rw [List.getElem?_append_right (by omega), l] at e2
    exact b.both e1 e2
theorem RVs.one {w : W} {v : V} (r : RV c H μ w v) : RVs c H μ [w] [v] := ⟨v, [], rfl, r, rfl⟩
theorem RVs.cons {w : W} {v : V} {ws : List W} {vs : List V} (r : RV c H μ w v) (q : RVs c H μ ws vs) : RVs c H μ (w :: ws) (v :: vs) := ⟨v, vs, rfl, r, q⟩
theorem RVs.take {ws : List W} {vs : List V} (n : Nat) (a : RVs c H μ ws vs) : RVs c H μ (ws.take n) (vs.take n) := by
  refine .of_get (by rw [List.length_take, List.length_take, a.len]) fun i w v e1 e2 => ?_
  rw [List.getElem?_take] at e1 e2
  split at e1
  · rename_i h
    rw [if_pos h] at e2
    exact a.both e1 e2
  · cases e1
theorem RVs.drop {ws : List W} {vs : List V} (n : Nat) (a : RVs c H μ ws vs) : RVs c H μ (ws.drop n) (vs.drop n) := by
  refine .of_get (by rw [List.length_drop, List.length_drop, a.len]) fun i w v e1 e2 => ?_
  rw [List.getElem?_drop] at e1 e2
  exact a.both e1 e2
theorem RVs.set {ws : List W} {vs : List V} {w : W} {v : V} (n : Nat) (a : RVs c H μ ws vs) (r : RV c H μ w v) : RVs c H μ (ws.set n w) (vs.set n v) := by
  refine .of_get (by rw [List.length_set, List.length_set, a.len]) fun i w' v' e1 e2 => ?_
  rw [List.getElem?_set] at e1 e2
  by_cases h : n = i
  · rw [if_pos h] at e1 e2
    split at e1
    · split at e2
      · cases e1; cases e2; exact r
      · cases e2
    · cases e1
  · rw [if_neg h] at e1 e2
    exact a.both e1 e2
theorem RVs.rev {ws : List W} {vs : List V} (a : RVs c H μ ws vs) : RVs c H μ ws.reverse vs.reverse := by
  have l := a.len
  refine .of_get (by rw [List.length_reverse, List.length_reverse, l]) fun i w v e1 e2 => ?_
  have hi : i < ws.length := by
    have := (List.getElem?_eq_some_iff.mp e1).1
    rwa [List.length_reverse] at this
  rw [List.getElem?_reverse hi] at e1
  rw [List.getElem?_reverse (by omega), l] at e2
  exact a.both e1 e2
theorem RVs.dropLast {ws : List W} {vs : List V} (a : RVs c H μ ws vs) : RVs c H μ ws.dropLast vs.dropLast := by
  rw [List.dropLast_eq_take, List.dropLast_eq_take, a.len]
  exact a.take _
theorem RVs.erase {ws : List W} {vs : List V} (n : Nat) (a : RVs c H μ ws vs) : RVs c H μ (ws.eraseIdx n) (vs.eraseIdx n) := by
  rw [List.eraseIdx_eq_take_drop_succ, List.eraseIdx_eq_take_drop_succ]
  exact (a.take _).app (a.drop _)
end
/-- what stands of an object of the store -/
def RC (c : Cfg) (H : Hp) (μ : List Addr) : Cell → Addr → Prop
  | .lst xs, a => ∃ vs, H a = some (.lst vs) ∧ RVs c H μ xs vs
  | .obj k fs, a => ∃ dx vs, H a = some (.ins (c.obj k) dx vs) ∧ vs.map (·.1) = fs.map (·.1) ∧ RVs c H μ (fs.map (·.2)) (vs.map (·.2))
/-- the script stands -/
def Sz (c : Cfg) (H : Hp) : Prop := (∃ o, H c.sa = some (.frz o (.lst (c.ns.map V.int)))) ∨ ∀ H', SqL c.K H' c.sa (c.ns.map V.int)
theorem Sz.sq {c : Cfg} {H : Hp} (h : Sz c H) : SqL c.K H c.sa (c.ns.map V.int) := h.elim (fun ⟨o, h⟩ => .inl (.inr ⟨o, h⟩)) fun h => h H
theorem Sz.keep {c : Cfg} {H H' : Hp} (h : Sz c H) (k : ∀ o, H c.sa = some (.frz o (.lst (c.ns.map V.int))) → H' c.sa = H c.sa) : Sz c H' := h.elim (fun ⟨o, h⟩ => .inl ⟨o, by rw [k o h]; exact h⟩) .inr
structure RS (c : Cfg) (μ : List Addr) (s : Sto) (H : Hp) : Prop where
  len : μ.length = s.length
  nd : μ.Nodup
  cell : ∀ (n : Nat) (x : Cell), s[n]? = some x → ∃ a, μ[n]? = some a ∧ RC c H μ x a
  scr : Sz c H
structure Go (μ : List Addr) (H : Hp) (μ' : List Addr) (H' : Hp) : Prop where
  ext : ∃ ν, μ' = μ ++ ν ∧ ∀ a ∈ ν, H a = none
  fr : ∀ a o, H a = some o → a ∉ μ → H' a = some o
  dom : ∀ a o, H a = some o → ∃ o', H' a = some o'
theorem Go.refl (μ : List Addr) (H : Hp) : Go μ H μ H := ⟨⟨[], by simp, fun _ h => nomatch h⟩, fun _ _ h _ => h, fun _ o h => ⟨o, h⟩⟩
theorem Go.trans {μ μ1 μ2 : List Addr} {H H1 H2 : Hp} (a : Go μ H μ1 H1) (b : Go μ1 H1 μ2 H2) : Go μ H μ2 H2 := by
  obtain ⟨ν, rfl, hν⟩ := a.ext
  obtain ⟨ν', rfl, hν'⟩ := b.ext
  refine ⟨⟨ν ++ ν', by rw [List.append_assoc], fun x hx => ?_⟩, fun x o h n => ?_, fun x o h => ?_⟩
  · rcases List.mem_append.mp hx with hx | hx
    · exact hν x hx
    · cases q : H x with
      | none => rfl
      | some o =>
        obtain ⟨o', h'⟩ := a.dom x o q
        rw [hν' x hx] at h'
        cases h'
  · refine b.fr x o (a.fr x o h n) fun z => ?_
    rcases List.mem_append.mp z with z | z
    · exact n z
    · rw [hν x z] at h; cases h
  · obtain ⟨o', h'⟩ := a.dom x o h
    exact b.dom x o' h'
theorem Go.at {μ μ' : List Addr} {H H' : Hp} (g : Go μ H μ' H') {n : Nat} {a : Addr} (h : μ[n]? = some a) : μ'[n]? = some a := by
  obtain ⟨ν, rfl, _⟩ := g.ext
  rw [List.getElem?_append_left (List.getElem?_eq_some_iff.mp h).1]
  exact h
theorem RS.mem {c : Cfg} {μ : List Addr} {s : Sto} {H : Hp} (r : RS c μ s H) {a : Addr} (h : a ∈ μ) : (∃ vs, H a = some (.lst vs)) ∨ ∃ C dx fs, H a = some (.ins C dx fs) := by
  obtain ⟨n, hn, rfl⟩ := List.getElem_of_mem h
  have lt : n < s.length := by rw [← r.len]; exact hn
  obtain ⟨a, ha, q⟩ := r.cell n s[n] (List.getElem?_eq_getElem lt)
  rw [List.getElem?_eq_getElem hn] at ha
  cases ha
  cases z : s[n] with
  | lst xs =>
    rw [z] at q
    obtain ⟨vs, h, _⟩ := q
    exact .inl ⟨vs, h⟩
  | obj k fs =>
    rw [z] at q
    obtain ⟨dx, vs, h, _⟩ := q
    exact .inr ⟨_, _, _, h⟩
theorem RS.notMem {c : Cfg} {μ : List Addr} {s : Sto} {H : Hp} (r : RS c μ s H) {a : Addr} (h : H a = none) : a ∉ μ := fun z => by
  rcases r.mem z with ⟨_, q⟩ | ⟨_, _, _, q⟩ <;> rw [h] at q <;> cases q
/-- the tuples stand -/
def Tk (K : PySem.W.Frag) (H H' : Hp) : Prop := ∀ a xs, SqT K H a xs → SqT K H' a xs
theorem Go.tk {c : Cfg} {μ μ' : List Addr} {s : Sto} {H H' : Hp} (g : Go μ H μ' H') (r : RS c μ s H) : Tk c.K H H' := fun a xs x => by
  have no : ∀ o, H a = some o → (∀ vs, o ≠ .lst vs) → (∀ C dx fs, o ≠ .ins C dx fs) → a ∉ μ := fun o h n1 n2 z => by
    rcases r.mem z with ⟨vs, q⟩ | ⟨_, _, _, q⟩
    · rw [q] at h; cases h; exact n1 _ rfl
    · rw [q] at h; cases h; exact n2 _ _ _ rfl
  rcases x with (x | ⟨o, x⟩) | x
  · exact .inl (.inl (g.fr _ _ x (no _ x (fun _ z => nomatch z) fun _ _ _ z => nomatch z)))
  · exact .inl (.inr ⟨o, g.fr _ _ x (no _ x (fun _ z => nomatch z) fun _ _ _ z => nomatch z)⟩)
  · exact .inr x
mutual
theorem RV.mono {c : Cfg} {H H' : Hp} {μ μ' : List Addr} (t : Tk c.K H H') (e : ∀ (n : Nat) (a : Addr), μ[n]? = some a → μ'[n]? = some a) : ∀ {w : W} {v : V}, RV c H μ w v → RV c H' μ' w v
  | .non, _, h => h
  | .bl _, _, h => h
  | .int _, _, h => h
  | .str _, _, h => h
  | .scr _, _, h => h
  | .tup xs, v, h => by
    obtain ⟨a, vs, e1, q, r⟩ := h
    exact ⟨a, vs, e1, t _ _ q, RVs.mono t e r⟩
  | .ref n, v, h => by
    obtain ⟨a, h, e1⟩ := h
    exact ⟨a, e _ _ h, e1⟩
theorem RVs.mono {c : Cfg} {H H' : Hp} {μ μ' : List Addr} (t : Tk c.K H H') (e : ∀ (n : Nat) (a : Addr), μ[n]? = some a → μ'[n]? = some a) : ∀ {ws : List W} {vs : List V}, RVs c H μ ws vs → RVs c H' μ' ws vs
  | [], _, h => h
  | w :: ws, vs, h => by
    obtain ⟨v, vs', e1, r, q⟩ := h
    exact ⟨v, vs', e1, RV.mono t e r, RVs.mono t e q⟩
end
theorem RV.go {c : Cfg} {μ μ' : List Addr} {s : Sto} {H H' : Hp} {w : W} {v : V} (h : RV c H μ w v) (r : RS c μ s H) (g : Go μ H μ' H') : RV c H' μ' w v := h.mono (g.tk r) fun _ _ => g.at
theorem RVs.go {c : Cfg} {μ μ' : List Addr} {s : Sto} {H H' : Hp} {w : List W} {v : List V} (h : RVs c H μ w v) (r : RS c μ s H) (g : Go μ H μ' H') : RVs c H' μ' w v := h.mono (g.tk r) fun _ _ => g.at
theorem RC.mono {c : Cfg} {μ μ' : List Addr} {H H' : Hp} {x : Cell} {a : Addr} (h : RC c H μ x a) (t : Tk c.K H H') (e : ∀ (n : Nat) (a : Addr), μ[n]? = some a → μ'[n]? = some a) (hh : H' a = H a) : RC c H' μ' x a := by
  cases x with
  | lst xs =>
    obtain ⟨vs, h1, r⟩ := h
    exact ⟨vs, hh.trans h1, r.mono t e⟩
  | obj k fs =>
    obtain ⟨dx, vs, h1, h2, r⟩ := h
    exact ⟨dx, vs, hh.trans h1, h2, r.mono t e⟩
/-- a new object that is not of the store -/
theorem Go.new {μ : List Addr} {H : Hp} {p : Addr} {o : HO} (n : H p = none) : Go μ H μ (upd H p o) :=
  ⟨⟨[], by simp, fun _ h => nomatch h⟩, fun a o' h _ => by rw [upd_ne (ne_of_none h n)]; exact h, fun a o' h => ⟨o', by rw [upd_ne (ne_of_none h n)]; exact h⟩⟩
theorem Same.go {μ : List Addr} {H H' : Hp} (s : Same H H') : Go μ H μ H' := ⟨⟨[], by simp, fun _ h => nomatch h⟩, fun a o h _ => s a o h, fun a o h => ⟨o, s a o h⟩⟩
theorem RS.same {c : Cfg} {μ : List Addr} {s : Sto} {H H' : Hp} (r : RS c μ s H) (hs : Same H H') : RS c μ s H' := by
  refine ⟨r.len, r.nd, fun n x e => ?_, r.scr.keep fun o h => by rw [hs _ _ h, h]⟩
  obtain ⟨a, h, q⟩ := r.cell n x e
  refine ⟨a, h, q.mono ((Same.go (μ := μ) hs).tk r) (fun _ _ h => h) ?_⟩
  rcases r.mem (List.mem_of_getElem? h) with ⟨_, z⟩ | ⟨_, _, _, z⟩ <;> rw [z, hs _ _ z]
theorem same_new {H : Hp} {p : Addr} {o : HO} (n : H p = none) : Same H (upd H p o) := fun b x e => by
  rw [upd_ne (ne_of_none e n)]; exact e
theorem RS.new {c : Cfg} {μ : List Addr} {s : Sto} {H : Hp} {p : Addr} {o : HO} (r : RS c μ s H) (n : H p = none) : RS c μ s (upd H p o) := r.same (same_new n)
/-- a list is laid into the store -/
theorem RS.alloc {c : Cfg} {μ : List Addr} {s : Sto} {H : Hp} {p : Addr} {ws : List W} {vs : List V} (r : RS c μ s H) (n : H p = none) (q : RVs c H μ ws vs) :
    Go μ H (μ ++ [p]) (upd H p (.lst vs)) ∧ RS c (μ ++ [p]) (s ++ [.lst ws]) (upd H p (.lst vs)) ∧ RV c (upd H p (.lst vs)) (μ ++ [p]) (.ref s.length) (.ref p) := by
  have g : Go μ H (μ ++ [p]) (upd H p (.lst vs)) := ⟨⟨[p], rfl, fun a h => by rw [List.mem_singleton.mp h]; exact n⟩, fun a o' h _ => by rw [upd_ne (ne_of_none h n)]; exact h, fun a o' h => ⟨o', by rw [upd_ne (ne_of_none h n)]; exact h⟩⟩
  have at_ : (μ ++ [p])[s.length]? = some p := by rw [← r.len]; simp
  refine ⟨g, ⟨by simp [r.len], ?_, fun k x e => ?_, r.scr.keep fun o h => upd_ne (ne_of_none h n)⟩, p, at_, rfl⟩
  · rw [List.nodup_append]
    exact ⟨r.nd, by simp, fun a h b h2 => by rw [List.mem_singleton.mp h2]; exact fun z => r.notMem n (by rw [← z]; exact h)⟩
  · by_cases hk : k < s.length
    · rw [List.getElem?_append_left hk] at e
      obtain ⟨a, h, q'⟩ := r.cell k x e
      refine ⟨a, g.at h, q'.mono (g.tk r) (fun _ _ => g.at) ?_⟩
      rw [upd_ne]
      exact fun z => r.notMem n (by rw [← z]; exact List.mem_of_getElem? h)
    · have : k = s.length := by
        have := (List.getElem?_eq_some_iff.mp e).1
        rw [List.length_append, List.length_singleton] at this
        omega
      subst this
      rw [List.getElem?_append_right (Nat.le_refl _), Nat.sub_self] at e
      cases e
      exact ⟨p, at_, vs, upd_same, q.go r g⟩
/-- a list of the store is rewritten -/
theorem RS.put {c : Cfg} {μ : List Addr} {s : Sto} {H : Hp} {n : Nat} {a : Addr} {xs : List W} {ws : List W} {vs : List V} (r : RS c μ s H) (h : μ[n]? = some a) (hs : s[n]? = some (.lst xs)) (q : RVs c H μ ws vs) :
    Go μ H μ (upd H a (.lst vs)) ∧ RS c μ (s.set n (.lst ws)) (upd H a (.lst vs)) := by
  obtain ⟨a', h', q'⟩ := r.cell n _ hs
  obtain ⟨old, ho, _⟩ := q'
  rw [h] at h'
  cases h'
  have g : Go μ H μ (upd H a (.lst vs)) := by
    refine ⟨⟨[], by simp, fun _ h => nomatch h⟩, fun b o hb nb => ?_, fun b o hb => ?_⟩
    · rw [upd_ne]
      · exact hb
      · exact fun z => nb (by rw [z]; exact List.mem_of_getElem? h)
    · by_cases z : b = a
      · exact ⟨_, by rw [z]; exact upd_same⟩
      · exact ⟨o, by rw [upd_ne z]; exact hb⟩
  have lt : n < s.length := (List.getElem?_eq_some_iff.mp hs).1
  refine ⟨g, by rw [List.length_set]; exact r.len, r.nd, fun k x e => ?_, r.scr.keep fun o h => upd_ne (ne_of h ho (by intro z; cases z))⟩
  · rw [List.getElem?_set] at e
    by_cases hk : n = k
    · subst hk
      rw [if_pos rfl, if_pos lt] at e
      cases e
      exact ⟨a, h, vs, upd_same, q.go r g⟩
    · rw [if_neg hk] at e
      obtain ⟨b, hb, q2⟩ := r.cell k x e
      refine ⟨b, hb, q2.mono (g.tk r) (fun _ _ => g.at) ?_⟩
      rw [upd_ne]
      intro z
      subst z
      obtain ⟨l1, e1⟩ := List.getElem?_eq_some_iff.mp h
      obtain ⟨l2, e2⟩ := List.getElem?_eq_some_iff.mp hb
      exact hk ((List.getElem_inj r.nd).mp (e1.trans e2.symm))
/-- a list that is not of the store changes -/
theorem RS.side {c : Cfg} {μ : List Addr} {s : Sto} {H : Hp} {D : Addr} {old new : List V} (r : RS c μ s H) (h : H D = some (.lst old)) (nD : D ∉ μ) : Tk c.K H (upd H D (.lst new)) ∧ RS c μ s (upd H D (.lst new)) := by
  have tk : Tk c.K H (upd H D (.lst new)) := fun a xs x => by
    rcases x with (x | ⟨o, x⟩) | x
    · exact .inl (.inl (by rw [upd_ne (ne_of x h (by intro z; cases z))]; exact x))
    · exact .inl (.inr ⟨o, by rw [upd_ne (ne_of x h (by intro z; cases z))]; exact x⟩)
    · exact .inr x
  refine ⟨tk, r.len, r.nd, fun k x e => ?_, r.scr.keep fun o h' => upd_ne (ne_of h' h (by intro z; cases z))⟩
  obtain ⟨b, hb, q2⟩ := r.cell k x e
  refine ⟨b, hb, q2.mono tk (fun _ _ h => h) ?_⟩
  rw [upd_ne]
  exact fun z => nD (by rw [← z]; exact List.mem_of_getElem? hb)
/-- a list that stands comes into the store -/
theorem RS.adopt {c : Cfg} {μ : List Addr} {s : Sto} {H : Hp} {D : Addr} {ws : List W} {vs : List V} (r : RS c μ s H) (h : H D = some (.lst vs)) (nD : D ∉ μ) (q : RVs c H μ ws vs) :
    RS c (μ ++ [D]) (s ++ [.lst ws]) H ∧ RV c H (μ ++ [D]) (.ref s.length) (.ref D) := by
  have at_ : (μ ++ [D])[s.length]? = some D := by rw [← r.len]; simp
  have up : ∀ (n : Nat) (a : Addr), μ[n]? = some a → (μ ++ [D])[n]? = some a := fun n a h => by
    rw [List.getElem?_append_left (List.getElem?_eq_some_iff.mp h).1]
    exact h
  refine ⟨⟨by simp [r.len], ?_, fun k x e => ?_, r.scr⟩, D, at_, rfl⟩
  · rw [List.nodup_append]
    exact ⟨r.nd, by simp, fun a h b h2 => by rw [List.mem_singleton.mp h2]; exact fun z => nD (by rw [← z]; exact h)⟩
  · by_cases hk : k < s.length
    · rw [List.getElem?_append_left hk] at e
      obtain ⟨a, h, q'⟩ := r.cell k x e
      exact ⟨a, up _ _ h, q'.mono (fun _ _ h => h) up rfl⟩
    · have : k = s.length := by
        have := (List.getElem?_eq_some_iff.mp e).1
        rw [List.length_append, List.length_singleton] at this
        omega
      subst this
      rw [List.getElem?_append_right (Nat.le_refl _), Nat.sub_self] at e
      cases e
      exact ⟨D, at_, vs, h, q.mono (fun _ _ h => h) up⟩
/-- slots -/
def RE (c : Cfg) (H : Hp) (μ : List Addr) (ρ : Env) (σ : L2.St) : Prop := ρ.length = σ.length ∧ ∀ (i : Nat) (w : W), ρ[i]? = some (some w) → ∃ v, σ[i]? = some (some v) ∧ RV c H μ w v
theorem RE.go {c : Cfg} {μ μ' : List Addr} {s : Sto} {H H' : Hp} {ρ : Env} {σ : L2.St} (h : RE c H μ ρ σ) (r : RS c μ s H) (g : Go μ H μ' H') : RE c H' μ' ρ σ :=
  ⟨h.1, fun i w e => (h.2 i w e).elim fun v q => ⟨v, q.1, q.2.go r g⟩⟩
theorem RE.set {c : Cfg} {H : Hp} {μ : List Addr} {ρ : Env} {σ : L2.St} {w : W} {v : V} (h : RE c H μ ρ σ) (i : Nat) (r : RV c H μ w v) : RE c H μ (ρ.set i (some w)) (σ.set i (some v)) := by
  refine ⟨by rw [List.length_set, List.length_set]; exact h.1, fun j w' e => ?_⟩
  have l := h.1
  rw [List.getElem?_set] at e
  by_cases z : i = j
  · rw [if_pos z] at e
    split at e
    · cases e
      refine ⟨v, ?_, r⟩
      rw [List.getElem?_set, if_pos z, if_pos (by omega)]
    · cases e
  · rw [if_neg z] at e
    obtain ⟨v', h1, h2⟩ := h.2 j w' e
    exact ⟨v', by rw [List.getElem?_set, if_neg z]; exact h1, h2⟩
/-- an exception -/
def RX (c : Cfg) (H : Hp) (μ : List Addr) (e : Er) (cls : Value) (d : Option Addr) : Prop := cls = .ref (c.cls e.k) ∧ match e.arg with
  | none => d = none
  | some w => ∃ a v, d = some a ∧ H a = some (.xd [("line", v)]) ∧ RV c H μ w v
def after {α : Type} (c : Cfg) (E : XK) (μ : List Addr) (H : Hp) (r : Res α) (Q : α → List Addr → Sto → Hp → Prop) : Prop := match r with
  | .ok a s' => ∀ μ' H', Go μ H μ' H' → RS c μ' s' H' → Q a μ' s' H'
  | .er e s' => ∀ μ' H' k d, Go μ H μ' H' → RS c μ' s' H' → RX c H' μ' e k d → E k d H'
  | .no => False
theorem after.imp {α : Type} {c : Cfg} {E : XK} {μ : List Addr} {H : Hp} {r : Res α} {Q Q' : α → List Addr → Sto → Hp → Prop} (h : after c E μ H r Q) (k : ∀ a μ' s' H', Go μ H μ' H' → RS c μ' s' H' → Q a μ' s' H' → Q' a μ' s' H') : after c E μ H r Q' := by
  cases r with
  | ok a s' => exact fun μ' H' g rs => k _ _ _ _ g rs (h μ' H' g rs)
  | er e s' => exact h
  | no => exact h
theorem after.bind {α β : Type} {c : Cfg} {E : XK} {μ : List Addr} {H : Hp} {m : M α} {f : α → M β} {s : Sto} {Q : β → List Addr → Sto → Hp → Prop} {Q2 : α → List Addr → Sto → Hp → Prop}
    (h : after c E μ H (bindM m f s) Q) (k : ∀ a μ' s' H', Go μ H μ' H' → RS c μ' s' H' → after c E μ' H' (f a s') Q → Q2 a μ' s' H') : after c E μ H (m s) Q2 := by
  unfold bindM at h
  cases q : m s with
  | no => rw [q] at h; exact h
  | er e s' => rw [q] at h; exact h
  | ok a s' =>
    rw [q] at h
    refine fun μ' H' g rs => k a μ' s' H' g rs ?_
    have h' : after c E μ H (f a s') Q := h
    cases q2 : f a s' with
    | no => rw [q2] at h'; exact h'
    | er e s2 => rw [q2] at h'; exact fun μ2 H2 k2 d2 g2 rs2 x2 => h' μ2 H2 k2 d2 (g.trans g2) rs2 x2
    | ok b s2 => rw [q2] at h'; exact fun μ2 H2 g2 rs2 => h' μ2 H2 (g.trans g2) rs2
theorem after.now {α : Type} {c : Cfg} {E : XK} {μ : List Addr} {H : Hp} {a : α} {s : Sto} {Q : α → List Addr → Sto → Hp → Prop} (h : after c E μ H (.ok a s) Q) (r : RS c μ s H) : Q a μ s H := h μ H (Go.refl μ H) r
end ME

set_option Elab.async false
set_option linter.all false
set_option maxRecDepth 100000
set_option maxHeartbeats 1000000
/-! ### expressions -/
namespace ME
open PySem PySem.Spec PyProof.Rows L2
abbrev O (α : Type) := Sto → Option (α × Sto)
def liftO {α : Type} (o : O α) : M α := fun s => match o s with
  | some (a, s') => .ok a s'
  | none => .no
structure Ctx (c : Cfg) (X : Cx) (E : L2.St → XK) : Prop where
  hK : c.K = X.K
  calm : X.calm = true
  lets : ∀ σ, Lets X σ (E σ)
  nd : X.N.Nodup
  hu : X.A.units + 65 < cLine
def tE (c : Cfg) (E : L2.St → XK) (m : Env → M W) : TE := fun σ H Q => ∃ ρ μ s, RE c H μ ρ σ ∧ RS c μ s H ∧ after c (E σ) μ H (m ρ s) fun w μ' _ H' => ∀ v, RV c H' μ' w v → Q v H'
def tT (c : Cfg) (E : L2.St → XK) (m : Env → M Bool) : TT := fun σ H Q => ∃ ρ μ s, RE c H μ ρ σ ∧ RS c μ s H ∧ after c (E σ) μ H (m ρ s) fun b _ _ H' => Q b H'
def tA (c : Cfg) (E : L2.St → XK) (m : Env → M (List W)) : TA := fun σ H Q => ∃ ρ μ s, RE c H μ ρ σ ∧ RS c μ s H ∧ after c (E σ) μ H (m ρ s) fun ws μ' _ H' => ∀ vs, RVs c H' μ' ws vs → Q vs H'
def tP (c : Cfg) (E : L2.St → XK) (m : Env → M (Option Int)) : TO := fun σ H Q => ∃ ρ μ s, RE c H μ ρ σ ∧ RS c μ s H ∧ after c (E σ) μ H (m ρ s) fun o _ _ H' => Q o H'
theorem _root_.L2.PE.w {X : Cx} {e : Expr} {t t' : TE} (h : PE X e t) (k : ∀ σ H Q, t' σ H Q → t σ H Q) : PE X e t' := ⟨fun pins s σ H Q I q => h.run pins s σ H Q I (k _ _ _ q)⟩
theorem _root_.L2.PT.w {X : Cx} {e : Expr} {t t' : TT} (h : PT X e t) (k : ∀ σ H Q, t' σ H Q → t σ H Q) : PT X e t' := ⟨fun pins s σ H Q I q => h.run pins s σ H Q I (k _ _ _ q)⟩
theorem _root_.L2.PW.w {X : Cx} {e : Expr} {t t' : TT} (h : PW X e t) (k : ∀ σ H Q, t' σ H Q → t σ H Q) : PW X e t' := ⟨fun w pins s σ H Q I q => h.run w pins s σ H Q I (k _ _ _ q)⟩
theorem _root_.L2.PA.w {X : Cx} {e : List Expr} {t t' : TA} (h : PA X e t) (k : ∀ σ H Q, t' σ H Q → t σ H Q) : PA X e t' := ⟨fun p pins s σ H Q I q => h.run p pins s σ H Q I (k _ _ _ q)⟩
theorem _root_.L2.PO.w {X : Cx} {e : Option Expr} {t t' : TO} (h : PO X e t) (k : ∀ σ H Q, t' σ H Q → t σ H Q) : PO X e t' := ⟨fun pins s σ H Q I q => h.run pins s σ H Q I (k _ _ _ q)⟩
/-! the mirrors -/
def eVar (i : Nat) : Env → M W := fun ρ s => match ρ[i]? with
  | some (some w) => .ok w s
  | _ => .no
def eC (w : W) : Env → M W := fun _ s => .ok w s
def e1 (g : W → O W) (a : Env → M W) : Env → M W := fun ρ => bindM (a ρ) fun x => liftO (g x)
def e2 (g : W → W → O W) (a b : Env → M W) : Env → M W := fun ρ => bindM (a ρ) fun x => bindM (b ρ) fun y => liftO (g x y)
def eN (g : List W → O W) (a : Env → M (List W)) : Env → M W := fun ρ => bindM (a ρ) fun x => liftO (g x)
def eCall (g : List W → M W) (a : Env → M (List W)) : Env → M W := fun ρ => bindM (a ρ) g
def aNil : Env → M (List W) := fun _ s => .ok [] s
def aCons (a : Env → M W) (b : Env → M (List W)) : Env → M (List W) := fun ρ => bindM (a ρ) fun x => bindM (b ρ) fun xs s => .ok (x :: xs) s
def getB : W → O Bool
  | .bl b => fun s => some (b, s)
  | _ => fun _ => none
def getI : W → O Int
  | .int b => fun s => some (b, s)
  | _ => fun _ => none
def xB (a : Env → M W) : Env → M Bool := fun ρ => bindM (a ρ) fun x => liftO (getB x)
def xTru (g : W → O Bool) (a : Env → M W) : Env → M Bool := fun ρ => bindM (a ρ) fun x => liftO (g x)
def xNot (a : Env → M Bool) : Env → M Bool := fun ρ => bindM (a ρ) fun b s => .ok (!b) s
def xAnd (a b : Env → M Bool) : Env → M Bool := fun ρ => bindM (a ρ) fun x => if x = true then b ρ else fun s => .ok false s
def xOr (a b : Env → M Bool) : Env → M Bool := fun ρ => bindM (a ρ) fun x => if x = true then fun s => .ok true s else b ρ
def eIf (t : Env → M Bool) (a b : Env → M W) : Env → M W := fun ρ => bindM (t ρ) fun x => if x = true then a ρ else b ρ
def eAnd (a b : Env → M W) : Env → M W := fun ρ => bindM (a ρ) fun x => bindM (liftO (getB x)) fun k => if k = true then b ρ else fun s => .ok (.bl false) s
def eOr (a b : Env → M W) : Env → M W := fun ρ => bindM (a ρ) fun x => bindM (liftO (getB x)) fun k => if k = true then fun s => .ok (.bl true) s else b ρ
def eNot (a : Env → M W) : Env → M W := fun ρ => bindM (a ρ) fun x => bindM (liftO (getB x)) fun k s => .ok (.bl (!k)) s
def eChain (g g' : W → W → O W) (a b d : Env → M W) : Env → M W := fun ρ => bindM (a ρ) fun x => bindM (b ρ) fun y => bindM (liftO (g x y)) fun z => bindM (liftO (getB z)) fun k =>
  if k = true then bindM (d ρ) fun u => liftO (g' y u) else fun s => .ok (.bl false) s
def eTup (a : Env → M (List W)) : Env → M W := fun ρ => bindM (a ρ) fun xs s => if xs.length ≤ sizeLine then .ok (.tup xs) s else .no
def eLst (a : Env → M (List W)) : Env → M W := fun ρ => bindM (a ρ) fun xs s => if xs.length ≤ sizeLine then .ok (.ref s.length) (s ++ [.lst xs]) else .no
def pNone : Env → M (Option Int) := fun _ s => .ok none s
def pSome (a : Env → M W) : Env → M (Option Int) := fun ρ => bindM (a ρ) fun x => bindM (liftO (getI x)) fun i s => .ok (some i) s
def eSl (g : W → Option Int → Option Int → O W) (a : Env → M W) (l h : Env → M (Option Int)) : Env → M W := fun ρ => bindM (a ρ) fun x => bindM (l ρ) fun i => bindM (h ρ) fun j => liftO (g x i j)
/-- what a value's operation must do -/
def post (c : Cfg) (μ : List Addr) (s : Sto) (H : Hp) (r : Option (W × Sto)) (Q : VK) : Prop := ∃ z s', r = some (z, s') ∧ ∀ μ' H' v, Go μ H μ' H' → RS c μ' s' H' → RV c H' μ' z v → Q v H'
def rO (c : Cfg) (g : W → W → O W) : R2 := fun x y H Q => ∃ μ s u w, RS c μ s H ∧ RV c H μ u x ∧ RV c H μ w y ∧ post c μ s H (g u w s) Q
def r1 (c : Cfg) (g : W → O W) : V → Hp → VK → Prop := fun x H Q => ∃ μ s u, RS c μ s H ∧ RV c H μ u x ∧ post c μ s H (g u s) Q
def rN (c : Cfg) (g : List W → O W) : List V → Hp → VK → Prop := fun xs H Q => ∃ μ s us, RS c μ s H ∧ RVs c H μ us xs ∧ post c μ s H (g us s) Q
theorem after.lift {α : Type} {c : Cfg} {E : XK} {μ : List Addr} {H : Hp} {o : O α} {s : Sto} {Q : α → List Addr → Sto → Hp → Prop} (h : after c E μ H (liftO o s) Q) : ∃ a s', o s = some (a, s') ∧ ∀ μ' H', Go μ H μ' H' → RS c μ' s' H' → Q a μ' s' H' := by
  unfold liftO at h
  cases q : o s with
  | none => rw [q] at h; exact h.elim
  | some p =>
    obtain ⟨a, s'⟩ := p
    rw [q] at h
    exact ⟨a, s', rfl, h⟩
theorem post.of {c : Cfg} {E : XK} {μ : List Addr} {H : Hp} {o : O W} {s : Sto} {Q : VK} (h : after c E μ H (liftO o s) fun w μ' _ H' => ∀ v, RV c H' μ' w v → Q v H') : post c μ s H (o s) Q := by
  obtain ⟨a, s', e, q⟩ := h.lift
  exact ⟨a, s', e, fun μ' H' v g rs rv => q μ' H' g rs v rv⟩
/-- nothing changes, the value is flat -/
theorem post.keep {c : Cfg} {μ : List Addr} {s : Sto} {H : Hp} {r : Option (W × Sto)} {Q : VK} {z : W} {v : V} (h : post c μ s H r Q) (e : r = some (z, s)) (rs : RS c μ s H) (rv : RV c H μ z v) : Q v H := by
  obtain ⟨z', s', e', q⟩ := h
  rw [e] at e'
  cases e'
  exact q μ H v (Go.refl _ _) rs rv
theorem post.ex {c : Cfg} {μ : List Addr} {s : Sto} {H : Hp} {r : Option (W × Sto)} {Q : VK} (h : post c μ s H r Q) : ∃ z s', r = some (z, s') := by
  obtain ⟨z, s', e, _⟩ := h
  exact ⟨z, s', e⟩
/-- a tuple is laid -/
theorem post.tup {c : Cfg} {μ : List Addr} {s : Sto} {H : Hp} {r : Option (W × Sto)} {Q : VK} {ws : List W} {vs : List V} (h : post c μ s H r Q) (e : r = some (.tup ws, s)) (rs : RS c μ s H) (rv : RVs c H μ ws vs) : ∀ p, H p = none → Q (.ref p) (upd H p (.tup vs)) := fun p n => by
  obtain ⟨z', s', e', q⟩ := h
  rw [e] at e'
  cases e'
  exact q μ _ _ (Go.new n) (rs.new n) ⟨p, vs, rfl, SqT.of upd_same, rv.go rs (Go.new n)⟩
/-- a list is laid -/
theorem post.lst {c : Cfg} {μ : List Addr} {s : Sto} {H : Hp} {r : Option (W × Sto)} {Q : VK} {ws : List W} {vs : List V} (h : post c μ s H r Q) (e : r = some (.ref s.length, s ++ [.lst ws])) (rs : RS c μ s H) (rv : RVs c H μ ws vs) : ∀ p, H p = none → Q (.ref p) (upd H p (.lst vs)) := fun p n => by
  obtain ⟨z', s', e', q⟩ := h
  rw [e] at e'
  cases e'
  obtain ⟨g, rs', rv'⟩ := rs.alloc n rv
  exact q _ _ _ g rs' rv'
/-- a list of the store is rewritten -/
theorem post.put {c : Cfg} {μ : List Addr} {s : Sto} {H : Hp} {r : Option (W × Sto)} {Q : VK} {n : Nat} {a : Addr} {xs ws : List W} {vs : List V} {z : W} {v : V} (h : post c μ s H r Q) (e : r = some (z, s.set n (.lst ws))) (rs : RS c μ s H) (ha : μ[n]? = some a) (hs : s[n]? = some (.lst xs))
    (rv : RVs c H μ ws vs) (rz : RV c H μ z v) : Q v (upd H a (.lst vs)) := by
  obtain ⟨z', s', e', q⟩ := h
  rw [e] at e'
  cases e'
  obtain ⟨g, rs'⟩ := rs.put ha hs rv
  exact q _ _ _ g rs' (rz.go rs g)
section
variable {c : Cfg} {X : Cx} {E : L2.St → XK} {e a b d : Expr}
theorem se_var {i : Nat} (h : PE X e (tVar i)) : PE X e (tE c E (eVar i)) := h.w fun σ H Q => by
  rintro ⟨ρ, μ, s, re, rs, h⟩
  unfold eVar at h
  split at h
  · rename_i w e
    obtain ⟨v, e1, rv⟩ := re.2 i w e
    exact ⟨v, e1, h.now rs v rv⟩
  · exact h.elim
theorem se_con {v : V} {w : W} (h : PE X e (tC v)) (hv : ∀ H μ, RV c H μ w v) : PE X e (tE c E (eC w)) := h.w fun σ H Q => by
  rintro ⟨ρ, μ, s, re, rs, h⟩
  exact h.now rs v (hv _ _)
theorem w_op {ma mb : Env → M W} {g : W → W → O W} {σ : L2.St} {H : Hp} {Q : VK} (h : tE c E (e2 g ma mb) σ H Q) : tOp (rO c g) (tE c E ma) (tE c E mb) σ H Q := by
  obtain ⟨ρ, μ, s, re, rs, h⟩ := h
  refine ⟨ρ, μ, s, re, rs, h.bind fun w μ1 s1 H1 g1 rs1 h1 v rv => ?_⟩
  refine ⟨ρ, μ1, s1, re.go rs g1, rs1, h1.bind fun w2 μ2 s2 H2 g2 rs2 h2 v2 rv2 => ?_⟩
  exact ⟨μ2, s2, w, w2, rs2, rv.go rs1 g2, rv2, post.of h2⟩
theorem se_op {g : W → W → O W} {ma mb : Env → M W} (h : PE X e (tOp (rO c g) (tE c E ma) (tE c E mb))) : PE X e (tE c E (e2 g ma mb)) := h.w fun _ _ _ => w_op
theorem st_op {g : W → W → O W} {ma mb : Env → M W} (h : PT X e (tTest (tOp (rO c g) (tE c E ma) (tE c E mb)))) : PT X e (tT c E (xB (e2 g ma mb))) := h.w fun σ H Q => by
  rintro ⟨ρ, μ, s, re, rs, h⟩
  refine w_op (E := E) ⟨ρ, μ, s, re, rs, h.bind fun w μ1 s1 H1 g1 rs1 h1 v rv => ?_⟩
  obtain ⟨k, s2, e, q⟩ := h1.lift
  unfold getB at e
  split at e
  · cases e
    exact ⟨_, rv, q _ _ (Go.refl _ _) rs1⟩
  · cases e
theorem se_un {g : W → O W} {ma : Env → M W} (h : PE X e (tUn (r1 c g) (tE c E ma))) : PE X e (tE c E (e1 g ma)) := h.w fun σ H Q => by
  rintro ⟨ρ, μ, s, re, rs, h⟩
  exact ⟨ρ, μ, s, re, rs, h.bind fun w μ1 s1 H1 g1 rs1 h1 v rv => ⟨μ1, s1, w, rs1, rv, post.of h1⟩⟩
theorem se_cb {g : List W → O W} {ma : Env → M (List W)} (h : PE X e (tCB (rN c g) (tA c E ma))) : PE X e (tE c E (eN g ma)) := h.w fun σ H Q => by
  rintro ⟨ρ, μ, s, re, rs, h⟩
  exact ⟨ρ, μ, s, re, rs, h.bind fun w μ1 s1 H1 g1 rs1 h1 v rv => ⟨μ1, s1, w, rs1, rv, post.of h1⟩⟩
theorem sa_nil : PA X [] (tA c E aNil) := pa_nil.w fun σ H Q => by
  rintro ⟨ρ, μ, s, re, rs, h⟩
  exact h.now rs _ rfl
theorem sa_cons {es : List Expr} {ma : Env → M W} {mr : Env → M (List W)} (h : PA X (e :: es) (tCons (tE c E ma) (tA c E mr))) : PA X (e :: es) (tA c E (aCons ma mr)) := h.w fun σ H Q => by
  rintro ⟨ρ, μ, s, re, rs, h⟩
  refine ⟨ρ, μ, s, re, rs, h.bind fun w μ1 s1 H1 g1 rs1 h1 v rv => ?_⟩
  refine ⟨ρ, μ1, s1, re.go rs g1, rs1, h1.bind fun ws μ2 s2 H2 g2 rs2 h2 vs rvs => ?_⟩
  exact h2.now rs2 _ (.cons (rv.go rs1 g2) rvs)
theorem st_val {ma : Env → M W} (h : PT X e (tB (tE c E ma))) : PT X e (tT c E (xB ma)) := h.w fun σ H Q => by
  rintro ⟨ρ, μ, s, re, rs, h⟩
  refine ⟨ρ, μ, s, re, rs, h.bind fun w μ1 s1 H1 g1 rs1 h1 v rv => ?_⟩
  obtain ⟨k, s2, e, q⟩ := h1.lift
  unfold getB at e
  split at e
  · cases e
    exact ⟨_, rv, q _ _ (Go.refl _ _) rs1⟩
  · cases e
theorem st_not {ma : Env → M Bool} (h : PT X e (tNot (tT c E ma))) : PT X e (tT c E (xNot ma)) := h.w fun σ H Q => by
  rintro ⟨ρ, μ, s, re, rs, h⟩
  exact ⟨ρ, μ, s, re, rs, h.bind fun w μ1 s1 H1 g1 rs1 h1 => h1.now rs1⟩
theorem w_and {ma mb : Env → M Bool} {σ : L2.St} {H : Hp} {Q : Bool → Hp → Prop} (h : tT c E (xAnd ma mb) σ H Q) : tAnd (tT c E ma) (tT c E mb) σ H Q := by
  obtain ⟨ρ, μ, s, re, rs, h⟩ := h
  refine ⟨ρ, μ, s, re, rs, h.bind fun w μ1 s1 H1 g1 rs1 h1 => ?_⟩
  cases w with
  | true => exact ⟨ρ, μ1, s1, re.go rs g1, rs1, h1⟩
  | false => exact h1.now rs1
theorem w_or {ma mb : Env → M Bool} {σ : L2.St} {H : Hp} {Q : Bool → Hp → Prop} (h : tT c E (xOr ma mb) σ H Q) : tOr (tT c E ma) (tT c E mb) σ H Q := by
  obtain ⟨ρ, μ, s, re, rs, h⟩ := h
  refine ⟨ρ, μ, s, re, rs, h.bind fun w μ1 s1 H1 g1 rs1 h1 => ?_⟩
  cases w with
  | false => exact ⟨ρ, μ1, s1, re.go rs g1, rs1, h1⟩
  | true => exact h1.now rs1
theorem sw_and {ma mb : Env → M Bool} (h : PW X e (tAnd (tT c E ma) (tT c E mb))) : PW X e (tT c E (xAnd ma mb)) := h.w fun _ _ _ => w_and
theorem sw_or {ma mb : Env → M Bool} (h : PW X e (tOr (tT c E ma) (tT c E mb))) : PW X e (tT c E (xOr ma mb)) := h.w fun _ _ _ => w_or
theorem se_ifExp {t : Env → M Bool} {ma mb : Env → M W} (h : PE X e (tIf (tT c E t) (tE c E ma) (tE c E mb))) : PE X e (tE c E (eIf t ma mb)) := h.w fun σ H Q => by
  rintro ⟨ρ, μ, s, re, rs, h⟩
  refine ⟨ρ, μ, s, re, rs, h.bind fun w μ1 s1 H1 g1 rs1 h1 => ?_⟩
  cases w with
  | true => exact ⟨ρ, μ1, s1, re.go rs g1, rs1, h1⟩
  | false => exact ⟨ρ, μ1, s1, re.go rs g1, rs1, h1⟩
theorem getB_ok {w : W} {k : Bool} {s s' : Sto} (h : getB w s = some (k, s')) : w = .bl k ∧ s' = s := by
  unfold getB at h
  split at h
  · cases h; exact ⟨rfl, rfl⟩
  · cases h
theorem se_and {ma mb : Env → M W} (h : PE X e (tAndV (tE c E ma) (tE c E mb))) : PE X e (tE c E (eAnd ma mb)) := h.w fun σ H Q => by
  rintro ⟨ρ, μ, s, re, rs, h⟩
  refine ⟨ρ, μ, s, re, rs, h.bind fun w μ1 s1 H1 g1 rs1 h1 v rv => ?_⟩
  obtain ⟨k, s2, e, q⟩ := (h1.bind (Q2 := fun k μ2 s2 H2 => after c (E σ) μ2 H2 _ _) fun _ _ _ _ _ _ h => h).lift
  obtain ⟨rfl, rfl⟩ := getB_ok e
  have q' := q _ _ (Go.refl _ _) rs1
  refine ⟨k, rv, ?_⟩
  cases k with
  | true => exact ⟨ρ, μ1, s2, re.go rs g1, rs1, q'⟩
  | false => exact q'.now rs1 _ rfl
theorem se_or {ma mb : Env → M W} (h : PE X e (tOrV (tE c E ma) (tE c E mb))) : PE X e (tE c E (eOr ma mb)) := h.w fun σ H Q => by
  rintro ⟨ρ, μ, s, re, rs, h⟩
  refine ⟨ρ, μ, s, re, rs, h.bind fun w μ1 s1 H1 g1 rs1 h1 v rv => ?_⟩
  obtain ⟨k, s2, e, q⟩ := (h1.bind (Q2 := fun k μ2 s2 H2 => after c (E σ) μ2 H2 _ _) fun _ _ _ _ _ _ h => h).lift
  obtain ⟨rfl, rfl⟩ := getB_ok e
  have q' := q _ _ (Go.refl _ _) rs1
  refine ⟨k, rv, ?_⟩
  cases k with
  | false => exact ⟨ρ, μ1, s2, re.go rs g1, rs1, q'⟩
  | true => exact q'.now rs1 _ rfl
theorem se_not {ma : Env → M W} (h : PE X e (tNotV (tE c E ma))) : PE X e (tE c E (eNot ma)) := h.w fun σ H Q => by
  rintro ⟨ρ, μ, s, re, rs, h⟩
  refine ⟨ρ, μ, s, re, rs, h.bind fun w μ1 s1 H1 g1 rs1 h1 v rv => ?_⟩
  obtain ⟨k, s2, e, q⟩ := (h1.bind (Q2 := fun k μ2 s2 H2 => after c (E σ) μ2 H2 _ _) fun _ _ _ _ _ _ h => h).lift
  obtain ⟨rfl, rfl⟩ := getB_ok e
  exact ⟨k, rv, (q _ _ (Go.refl _ _) rs1).now rs1 _ rfl⟩
theorem w_chain {g g' : W → W → O W} {ma mb md : Env → M W} {σ : L2.St} {H : Hp} {Q : VK} (h : tE c E (eChain g g' ma mb md) σ H Q) : tChain (rO c g) (rO c g') (tE c E ma) (tE c E mb) (tE c E md) σ H Q := by
  obtain ⟨ρ, μ, s, re, rs, h⟩ := h
  refine ⟨ρ, μ, s, re, rs, h.bind fun w μ1 s1 H1 g1 rs1 h1 v rv => ?_⟩
  refine ⟨ρ, μ1, s1, re.go rs g1, rs1, h1.bind fun w2 μ2 s2 H2 g2 rs2 h2 v2 rv2 => ?_⟩
  obtain ⟨z, s3, e, q⟩ := (h2.bind (Q2 := fun k μ2 s2 H2 => after c (E σ) μ2 H2 _ _) fun _ _ _ _ _ _ h => h).lift
  refine ⟨μ2, s2, w, w2, rs2, rv.go rs1 g2, rv2, z, s3, e, fun μ3 H3 v3 g3 rs3 rv3 => ?_⟩
  obtain ⟨k, s4, e4, q4⟩ := ((q μ3 H3 g3 rs3).bind (Q2 := fun k μ2 s2 H2 => after c (E σ) μ2 H2 _ _) fun _ _ _ _ _ _ h => h).lift
  obtain ⟨rfl, rfl⟩ := getB_ok e4
  have q5 := q4 _ _ (Go.refl _ _) rs3
  refine ⟨k, rv3, ?_⟩
  cases k with
  | false => exact q5.now rs3 _ rfl
  | true =>
    refine ⟨ρ, μ3, s4, (re.go rs g1).go rs1 (g2.trans g3), rs3, q5.bind fun u μ5 s5 H5 g5 rs5 h5 v5 rv5 => ?_⟩
    exact ⟨μ5, s5, w2, u, rs5, rv2.go rs2 (g3.trans g5), rv5, post.of h5⟩
theorem se_chain {g g' : W → W → O W} {ma mb md : Env → M W} (h : PE X e (tChain (rO c g) (rO c g') (tE c E ma) (tE c E mb) (tE c E md))) : PE X e (tE c E (eChain g g' ma mb md)) := h.w fun _ _ _ => w_chain
theorem st_chain {g g' : W → W → O W} {ma mb md : Env → M W} (h : PT X e (tTest (tChain (rO c g) (rO c g') (tE c E ma) (tE c E mb) (tE c E md)))) : PT X e (tT c E (xB (eChain g g' ma mb md))) := h.w fun σ H Q => by
  rintro ⟨ρ, μ, s, re, rs, h⟩
  refine w_chain (E := E) ⟨ρ, μ, s, re, rs, h.bind fun w μ1 s1 H1 g1 rs1 h1 v rv => ?_⟩
  obtain ⟨k, s2, e, q⟩ := h1.lift
  obtain ⟨rfl, rfl⟩ := getB_ok e
  exact ⟨_, rv, q _ _ (Go.refl _ _) rs1⟩
theorem se_tup {m : Env → M (List W)} (h : PE X e (tTup (tA c E m))) : PE X e (tE c E (eTup m)) := h.w fun σ H Q => by
  rintro ⟨ρ, μ, s, re, rs, h⟩
  refine ⟨ρ, μ, s, re, rs, h.bind fun ws μ1 s1 H1 g1 rs1 h1 vs rv => ?_⟩
  have l := rv.len
  by_cases z : ws.length ≤ sizeLine
  · rw [if_pos z] at h1
    refine ⟨by omega, fun p n => ?_⟩
    exact h1 μ1 _ (Go.new n) (rs1.new n) _ ⟨p, vs, rfl, SqT.of upd_same, rv.go rs1 (Go.new n)⟩
  · rw [if_neg z] at h1
    exact h1.elim
theorem se_lst {m : Env → M (List W)} (h : PE X e (tLst (tA c E m))) : PE X e (tE c E (eLst m)) := h.w fun σ H Q => by
  rintro ⟨ρ, μ, s, re, rs, h⟩
  refine ⟨ρ, μ, s, re, rs, h.bind fun ws μ1 s1 H1 g1 rs1 h1 vs rv => ?_⟩
  have l := rv.len
  by_cases z : ws.length ≤ sizeLine
  · rw [if_pos z] at h1
    refine ⟨by omega, fun p n => ?_⟩
    obtain ⟨g, rs', rv'⟩ := rs1.alloc n rv
    exact h1 _ _ g rs' _ rv'
  · rw [if_neg z] at h1
    exact h1.elim
theorem so_none : PO X none (tP c E pNone) := po_none.w fun σ H Q => by
  rintro ⟨ρ, μ, s, re, rs, h⟩
  exact h.now rs
theorem so_some {m : Env → M W} (h : PE X e (tE c E m)) : PO X (some e) (tP c E (pSome m)) := (po_some h).w fun σ H Q => by
  rintro ⟨ρ, μ, s, re, rs, h⟩
  refine ⟨ρ, μ, s, re, rs, h.bind fun w μ1 s1 H1 g1 rs1 h1 v rv => ?_⟩
  obtain ⟨k, s2, e, q⟩ := (h1.bind (Q2 := fun k μ2 s2 H2 => after c (E σ) μ2 H2 _ _) fun _ _ _ _ _ _ h => h).lift
  unfold getI at e
  split at e
  · cases e
    exact ⟨_, rv, (q _ _ (Go.refl _ _) rs1).now rs1⟩
  · cases e
def rSl (c : Cfg) (g : W → Option Int → Option Int → O W) : V → Option Int → Option Int → Hp → VK → Prop := fun x i j H Q => ∃ μ s u, RS c μ s H ∧ RV c H μ u x ∧ post c μ s H (g u i j s) Q
theorem se_sl {g : W → Option Int → Option Int → O W} {m : Env → M W} {l u : Env → M (Option Int)} (h : PE X e (tSl (rSl c g) (tE c E m) (tP c E l) (tP c E u))) : PE X e (tE c E (eSl g m l u)) := h.w fun σ H Q => by
  rintro ⟨ρ, μ, s, re, rs, h⟩
  refine ⟨ρ, μ, s, re, rs, h.bind fun w μ1 s1 H1 g1 rs1 h1 v rv => ?_⟩
  have re1 := re.go rs g1
  refine ⟨ρ, μ1, s1, re1, rs1, h1.bind fun i μ2 s2 H2 g2 rs2 h2 => ?_⟩
  have re2 := re1.go rs1 g2
  refine ⟨ρ, μ2, s2, re2, rs2, h2.bind fun j μ3 s3 H3 g3 rs3 h3 => ?_⟩
  exact ⟨μ3, s3, w, rs3, rv.go rs1 (g2.trans g3), post.of h3⟩
/-! calls of defs -/
def spM (c : Cfg) (g : List W → M W) : Sp := fun vs H Q E => ∃ ws μ s, RVs c H μ ws vs ∧ RS c μ s H ∧ after c E μ H (g ws s) fun w μ' _ H' => ∀ v, RV c H' μ' w v → Q v H'
theorem se_call {g : List W → M W} {m : Env → M (List W)} (h : PE X e (tCallS (spM c g) E (tA c E m))) : PE X e (tE c E (eCall g m)) := h.w fun σ H Q => by
  rintro ⟨ρ, μ, s, re, rs, h⟩
  exact ⟨ρ, μ, s, re, rs, h.bind fun ws μ1 s1 H1 g1 rs1 h1 vs rv => ⟨ws, μ1, s1, rv, rs1, h1⟩⟩
end
end ME

set_option Elab.async false
set_option linter.all false
set_option maxRecDepth 100000
set_option maxHeartbeats 4000000
/-! ### tuple times 0 and 1 -/
namespace ME
open PySem PySem.Spec PyProof.Rows L2
theorem tuple_mul0 (l : Addr) (items : Array Value) (n : Nat) (dd : Option Addr) (sl : Array (Option Value)) (x : Int) (u : Tok) (c0 : (decide (x < -(2 ^ 63)) || decide (x ≥ 2 ^ 63)) = false) (c1 : (items.isEmpty || x == 1) = false) (c2 : (decide (x ≤ 0) || items.isEmpty) = true) :
    Meets (Builtin.«tuple.__mul__» ⟨[.ref l, .int x u], []⟩) (fun _ R s => s.heap.get? l = some { cls := .type "tuple", dict := dd, data := .seq items n, slots := sl } ∧
      R (.ok (.ret (Value.ref s.heap.objs.size))) { s with heap := s.heap.push { cls := Value.type "tuple", data := Data.seq #[] }, toks := s.toks }) :=
  .of_wp fun prog w A R s h => by
    obtain ⟨hp, g, d, tk, os⟩ := s
    obtain ⟨hl, h⟩ := h
    have f1 := AutoSeq1.idx_int
    wp_walk using wpAny_loadPart' hl
    repeat (first
      | (refine wpAny_ite_false (decide_eq_false (by rw [c0]; exact Bool.false_ne_true)) ?_; wp_walk using wpAny_loadPart' hl)
      | (refine wpAny_ite_false (decide_eq_false (by rw [c1]; exact Bool.false_ne_true)) ?_; wp_walk using wpAny_loadPart' hl)
      | (refine wpAny_ite_true (decide_eq_true (by rw [c2])) ?_; wp_walk using wpAny_loadPart' hl))
    exact ⟨_, rfl, h⟩
theorem tuple_mul1 (l : Addr) (items : Array Value) (n : Nat) (dd : Option Addr) (sl : Array (Option Value)) (x : Int) (u : Tok) (c0 : (decide (x < -(2 ^ 63)) || decide (x ≥ 2 ^ 63)) = false) (c1 : (items.isEmpty || x == 1) = true) :
    Meets (Builtin.«tuple.__mul__» ⟨[.ref l, .int x u], []⟩) (fun _ R s => s.heap.get? l = some { cls := .type "tuple", dict := dd, data := .seq items n, slots := sl } ∧ R (.ok (.ret (Value.ref l))) s) :=
  .of_wp fun prog w A R s h => by
    obtain ⟨hp, g, d, tk, os⟩ := s
    obtain ⟨hl, h⟩ := h
    have f1 := AutoSeq1.idx_int
    wp_walk using wpAny_loadPart' hl
    repeat (first
      | (refine wpAny_ite_false (decide_eq_false (by rw [c0]; exact Bool.false_ne_true)) ?_; wp_walk using wpAny_loadPart' hl)
      | (refine wpAny_ite_true (decide_eq_true (by rw [c1])) ?_; wp_walk using wpAny_loadPart' hl))
    exact ⟨_, rfl, h⟩
def rRepT1 (K : PySem.W.Frag) : R2 := fun x y H Q => ∃ l k xs, x = .ref l ∧ y = .int k ∧ SqT K H l xs ∧ xs ≠ [] ∧ -(2 ^ 63) < k ∧ k ≤ 1 ∧ (k ≤ 0 → ∀ p, H p = none → Q (.ref p) (upd H p (.tup []))) ∧ (k = 1 → Q (.ref l) H)
theorem op_repT1 {X : Cx} : OpR X (binaryOp .Mult) (rRepT1 X.K) := by
  intro pins s σ H x y v u Q I rx ry h
  obtain ⟨l, k, xs, rfl, rfl, hT, hne, h1, h2, q0, q1⟩ := h
  cases rx
  obtain ⟨t, rfl⟩ := ry
  obtain ⟨its, r, ⟨⟨cls, dd, data, sl⟩, ho, hc, n, hd⟩, hs⟩ := I.tuple hT
  simp only at hc hd
  subst hc hd
  have hi : its.toArray.isEmpty = false := by
    cases its with
    | nil => exact absurd (List.length_eq_zero_iff.mp r.length) hne
    | cons a b => rfl
  have c0 : (decide (k < -(2 ^ 63)) || decide (k ≥ 2 ^ 63)) = false := by
    rw [decide_eq_false (by omega), decide_eq_false (by omega)] <;> rfl
  by_cases hk : k = 1
  · have c1 : (its.toArray.isEmpty || k == 1) = true := by rw [hk, hi]; rfl
    exact wpAny_binaryOp_repeat_ref (T := "tuple") (U := "int") (by decide) ⟨_, ho, rfl⟩ (fun s' => typeIs_int s' k t) noFill_tuple_mul F.fills_int_mul F.slot_int_rmul repeat_tuple F.slot_int_index.lookup
      (call_meets F.slot_int_rmul (typeIs_int s k t) F.entry_int_rmul (F.args_int_rmul_2 _ _) (int_rmul_tuple k t l its.toArray n dd sl)
        ⟨ho, rfl, ⟨_, ho, rfl⟩, call_meets F.slot_tuple_mul ⟨_, ho, rfl⟩ F.entry_tuple_mul (F.args_tuple_mul_2 _ _) (tuple_mul1 l its.toArray n dd sl k t c0 c1) ⟨ho, ⟨.ref l, H, I, rfl, q1 hk⟩⟩⟩)
  · have c1 : (its.toArray.isEmpty || k == 1) = false := by
      rw [hi, Bool.false_or]
      exact beq_eq_false_iff_ne.mpr hk
    have c2 : (decide (k ≤ 0) || its.toArray.isEmpty) = true := by rw [decide_eq_true (by omega)]; rfl
    refine wpAny_binaryOp_repeat_ref (T := "tuple") (U := "int") (by decide) ⟨_, ho, rfl⟩ (fun s' => typeIs_int s' k t) noFill_tuple_mul F.fills_int_mul F.slot_int_rmul repeat_tuple F.slot_int_index.lookup
      (call_meets F.slot_int_rmul (typeIs_int s k t) F.entry_int_rmul (F.args_int_rmul_2 _ _) (int_rmul_tuple k t l its.toArray n dd sl)
        ⟨ho, rfl, ⟨_, ho, rfl⟩, call_meets F.slot_tuple_mul ⟨_, ho, rfl⟩ F.entry_tuple_mul (F.args_tuple_mul_2 _ _) (tuple_mul0 l its.toArray n dd sl k t c0 c1 c2) ⟨ho, ?_⟩⟩)
    refine ⟨.ref s.heap.objs.size, _, I.laid (t' := s.toks) (o := .tup []) (fun b ob q => Heap.get?_push_of_some _ q) (Nat.le_refl _) ?_, rfl, q0 (by omega) _ (I.hok.fresh (Nat.le_refl _))⟩
    exact ⟨Nat.zero_le _, [], .nil, IsTup.new _ _⟩
end ME

set_option Elab.async false
set_option linter.all false
namespace FL
open PySem PySem.Spec PyProof.Rows L2
/-! ### texts as lists of codes -/
abbrev S (l : List Nat) : Str := ⟨l.toArray⟩
theorem S_of (x : Str) : S x.cps.toList = x := by
  obtain ⟨⟨l⟩⟩ := x
  rfl
theorem S_len (l : List Nat) : (S l).length = l.length := rfl
theorem S_list (l : List Nat) : (S l).cps.toList = l := rfl
theorem S_inj {a b : List Nat} (h : S a = S b) : a = b := by
  injection h with h
  injection h
theorem S_app (a b : List Nat) : S a ++ S b = S (a ++ b) := by
  show (⟨_⟩ : Str) = ⟨_⟩
  congr 1
  simp
def jn (a : List Nat) : List (List Nat) → List Nat
  | [] => []
  | [x] => x
  | x :: y :: r => x ++ a ++ jn a (y :: r)
theorem join_S (a : List Nat) : ∀ ys : List (List Nat), Str.join (S a) (ys.map S) = S (jn a ys)
  | [] => rfl
  | [x] => rfl
  | x :: y :: r => by
    show S x ++ S a ++ Str.join (S a) ((y :: r).map S) = S (x ++ a ++ jn a (y :: r))
    rw [join_S a (y :: r), S_app, S_app]
theorem join_txt (a : List Nat) (ys : List (List Nat)) : Txt.join (S a) (ys.map S) = S (jn a ys) := by rw [show Txt.join (S a) (ys.map S) = Str.join (S a) (ys.map S) from PySem.StrLaws.glued_eq_join _ _, join_S]
theorem jn_nil : ∀ ys : List (List Nat), jn [] ys = ys.flatten
  | [] => rfl
  | [x] => by simp [jn]
  | x :: y :: r => by
    show x ++ [] ++ jn [] (y :: r) = _
    rw [jn_nil (y :: r)]
    simp
/-- the sizes as join asks them -/
theorem sum_S (ys : List (List Nat)) : ((ys.map S).map fun x => x.length).sum = ys.flatten.length := by
  induction ys with
  | nil => rfl
  | cons y r ih =>
    rw [List.map_cons, List.map_cons, List.sum_cons, List.flatten_cons, List.length_append, ih]
    rfl
theorem flat_one {cs : List Nat} : (cs.map fun c => [c]).flatten = cs := by
  induction cs with
  | nil => rfl
  | cons c r ih =>
    rw [List.map_cons, List.flatten_cons, ih]
    rfl
end FL

set_option Elab.async false
set_option linter.all false
set_option maxRecDepth 100000
set_option maxHeartbeats 1000000
namespace FL
open PySem PySem.Spec PyProof.Rows L2

/-! ### the text by places -/
def topS (i : Nat) : Stmt := PySem.Challenge.pw_facetlore_k82_values_told_from_wrong_tex.main.body.getD i (.Pass ⟨0, 0, 0, 0⟩)

/-! ### what stands of a def -/
structure DefAt (K : PySem.W.Frag) (mg : Str → Option Value) (x : Str) (st : Stmt) (ps : List Str) (f : Addr) (fd : FuncData) : Prop where
  F : Fun K x x st f fd
  m : mg x = some (.ref f)
  b : Binds K fd ps []

/-! ### heaps: all but the object at c -/
def But (c : Addr) (H H' : Hp) : Prop := ∀ b o, b ≠ c → H b = some o → H' b = some o
theorem But.refl (c : Addr) (H : Hp) : But c H H := fun _ _ _ h => h
theorem But.trans {c : Addr} {H H1 H2 : Hp} (a : But c H H1) (b : But c H1 H2) : But c H H2 := fun x o n h => b x o n (a x o n h)
theorem But.put {c : Addr} {H H1 : Hp} {o : HO} (a : But c H H1) : But c H (upd H1 c o) := fun x u n h => by
  rw [upd_ne n]; exact a x u n h
theorem But.new {c p : Addr} {H H1 : Hp} {o : HO} (a : But c H H1) (n : H1 p = none) : But c H (upd H1 p o) := fun x u k h => by
  rw [upd_ne (ne_of_none (a x u k h) n)]; exact a x u k h
theorem But.of_same {c : Addr} {H H1 : Hp} (a : Same H H1) : But c H H1 := fun x u _ h => a x u h
theorem same_new {H H1 : Hp} {p : Addr} {o : HO} (a : Same H H1) (n : H1 p = none) : Same H (upd H1 p o) := fun b x e => by
  rw [upd_ne (ne_of_none (a b x e) n)]; exact a b x e
/-- an object that was not there before may change -/
theorem same_mut {H H1 : Hp} {p : Addr} {o : HO} (a : Same H H1) (n : H p = none) : Same H (upd H1 p o) := fun b x e => by
  rw [upd_ne (ne_of_none e n)]; exact a b x e

/-! ### the draws -/
structure CurD (H : Hp) (c a : Addr) (ns : List Int) (p acc k : Int) : Prop where
  hc : H c = some (.lst [.ref a, .int p, .int acc, .int k])
  ha : H a = some (.lst (ns.map V.int))
  hp : 0 ≤ p
  hacc : 0 ≤ acc
def Cur (H : Hp) (c a : Addr) (ns : List Int) : Prop := ∃ p acc k, CurD H c a ns p acc k
theorem CurD.ne {H : Hp} {c a : Addr} {ns : List Int} {p acc k : Int} (x : CurD H c a ns p acc k) : a ≠ c := fun e => by
  have h := x.ha
  rw [e, x.hc] at h
  injection h with h
  injection h with h
  cases ns with
  | nil => cases h
  | cons n r => injection h with h1 h2; cases h1
theorem CurD.put {H H' : Hp} {c a : Addr} {ns : List Int} {p acc k p' acc' k' : Int} (x : CurD H c a ns p acc k) (b : But c H H') (hp : 0 ≤ p') (hacc : 0 ≤ acc') :
    CurD (upd H' c (.lst [.ref a, .int p', .int acc', .int k'])) c a ns p' acc' k' :=
  ⟨upd_same, by rw [upd_ne x.ne]; exact b a _ x.ne x.ha, hp, hacc⟩
theorem CurD.keep {H H' : Hp} {c a : Addr} {ns : List Int} {p acc k : Int} (x : CurD H c a ns p acc k) (b : Same H H') : CurD H' c a ns p acc k :=
  ⟨b _ _ x.hc, b _ _ x.ha, x.hp, x.hacc⟩
theorem Cur.keep {H H' : Hp} {c a : Addr} {ns : List Int} (x : Cur H c a ns) (b : Same H H') : Cur H' c a ns := by
  obtain ⟨p, acc, k, d⟩ := x
  exact ⟨p, acc, k, d.keep b⟩
theorem ix4 {a b c d : V} : atI [a, b, c, d] 0 = some a ∧ atI [a, b, c, d] 1 = some b ∧ atI [a, b, c, d] 2 = some c ∧ atI [a, b, c, d] 3 = some d := ⟨rfl, rfl, rfl, rfl⟩

section
variable {P : Program} {w : World} {K : PySem.W.Frag} {mg : Str → Option Value} {base : Heap}

def spFill : Sp := fun vs H Q _ => ∃ c a ns, vs = [.ref c] ∧ Cur H c a ns ∧ ∀ H' n, But c H H' → Cur H' c a ns → 0 ≤ n → Q (.int n) H'
def spTake : Sp := fun vs H Q _ => ∃ c a ns m, vs = [.ref c, .int m] ∧ Cur H c a ns ∧ 0 < m ∧ m < 1073741824 ∧ ∀ H' n, But c H H' → Cur H' c a ns → 0 ≤ n → n < m → Q (.int n) H'

abbrev s_law_fill : Stmt := topS 38
abbrev N_law_fill : List Str := ["c", "number"]
theorem sc_law_fill : FnScope N_law_fill ["c"] (defScope s_law_fill) := ⟨rfl, rfl, rfl, by decide +kernel, rfl, by decide +kernel, by decide +kernel⟩
theorem ok_law_fill {f : Addr} {fd : FuncData} (D : DefAt K mg "_law_fill" s_law_fill ["c"] f fd) (z_len : mg "len" = none) (z_int : mg "int" = none) : FnOk P w K mg base CX0 1 f fd ["c"] spFill := by
  refine D.F.ok sc_law_fill (fun vs H Q E h => ?_) (fun cdv A outer s H vs Q E hr h => ?_)
  · obtain ⟨c, a, ns, rfl, _⟩ := h
    rfl
  obtain ⟨c, a, ns, rfl, hC, q⟩ := h
  refine ⟨_, (pss_cons (ps_asg (pe_op op_add (pe_ix ix_list (pv 0) pe_int (fun _ _ => rfl)) pe_int) (pg_sub (pv 0) pe_int set_list))
      (pss_cons (ps_set (i := 1) sc_law_fill.nd rfl (Or.inl rfl) (pe_op op_add (pe_op op_mul (pe_ix ix_list (pv 0) pe_int (fun _ _ => rfl)) pe_int) pe_int))
      (C8.pss_cut (ps_if (pt_cmpR op_lt (pe_ix ix_list (pv 0) pe_int (fun _ _ => rfl)) (pe_callB call_len_seq (by rfl) z_len (by decide +kernel) (pa_cons (pe_ix ix_list (pv 0) pe_int (fun _ _ => rfl)) pa_nil)) (nomark _)) (pss_cons (ps_set (i := 1) sc_law_fill.nd rfl (Or.inl rfl) (pe_ix ix_list (pe_ix ix_list (pv 0) pe_int (fun _ _ => rfl)) (pe_ix ix_list (pv 0) pe_int (fun _ _ => rfl)) (fun _ _ => rfl)))
        (pss_cons (ps_asg (pe_op op_add (pe_ix ix_list (pv 0) pe_int (fun _ _ => rfl)) pe_int) (pg_sub (pv 0) pe_int set_list))
        (C8.pss_cut (ps_if (pt_cmpR op_lt (pv 1) pe_int (nomark _)) (pss_one (ps_set (i := 1) sc_law_fill.nd rfl (Or.inl rfl) (pe_op op_sub (pe_op op_sub pe_int pe_int) (pv 1))))
          pss_nil)
        (pss_one (ps_if (pt_cmpR op_ge (pv 1) (pe_op op_pow pe_int pe_int) (nomark _)) (pss_one (ps_ret (pv 1)))
          pss_nil)))))
        pss_nil)
      (C8.pss_cut (ps_if (PW.pt (pw_and (pt_truth (pe_ix ix_list (pv 0) pe_int (fun _ _ => rfl)) (by intro _; rfl)) (pw_and1 (pt_cmpR op_ge (pe_ix ix_list (pv 0) pe_int (fun _ _ => rfl)) (pe_callB call_len_seq (by rfl) z_len (by decide +kernel) (pa_cons (pe_ix ix_list (pv 0) pe_int (fun _ _ => rfl)) pa_nil)) (nomark _))))) (pss_one (ps_set (i := 1) sc_law_fill.nd rfl (Or.inl rfl) (pe_op op_add (pv 1) (pe_op op_mod (pe_callTy call_int1 (by rfl) z_int (by decide +kernel) (pa_cons (pe_ix ix_list (pe_ix ix_list (pv 0) pe_int (fun _ _ => rfl)) (pe_un un_neg pe_int) (fun _ _ => rfl)) pa_nil)) pe_int))))
        pss_nil)
      (pss_cons (ps_set (i := 1) sc_law_fill.nd rfl (Or.inl rfl) (pe_op op_mod (pe_callTy call_int1 (by rfl) z_int (by decide +kernel) (pa_cons (pe_op op_add (pe_op op_mul (pv 1) pe_int) (pe_op op_mul (pe_ix ix_list (pv 0) pe_int (fun _ _ => rfl)) pe_int)) pa_nil)) pe_int))
      (pss_one (ps_ret (pe_op op_add (pe_op op_mod (pe_callTy call_int1 (by rfl) z_int (by decide +kernel) (pa_cons (pe_op op_add (pe_op op_add (pe_op op_mul (pv 1) (pv 1)) (pe_op op_mul (pe_ix ix_list (pv 0) pe_int (fun _ _ => rfl)) pe_int)) pe_int) pa_nil)) pe_int) pe_int)))))))), ?_⟩
  obtain ⟨p, acc, k, d⟩ := hC
  have hl := SqL.of (K := K) d.hc
  -- c[3] = c[3] + 1
  refine ⟨_, rfl, c, _, 3, _, rfl, rfl, hl, rfl, _, _, rfl, rfl, _, rfl, c, _, 3, 3, rfl, rfl, d.hc, rfl, ?_⟩
  have d1 := d.put (But.refl c H) d.hp d.hacc (p' := p) (acc' := acc) (k' := k + 1)
  have b1 : But c H _ := (But.refl c H).put (o := .lst [.ref a, .int p, .int acc, .int (k + 1)])
  show tSeq _ _ _ _ (upd H c (.lst [.ref a, .int p, .int acc, .int (k + 1)]))
  generalize upd H c (.lst [.ref a, .int p, .int acc, .int (k + 1)]) = H1 at d1 b1 ⊢
  have hl1 := SqL.of (K := K) d1.hc
  have ha1 := SqL.of (K := K) d1.ha
  -- number = c[3] * 69621 + 12345
  refine ⟨_, rfl, c, _, 3, _, rfl, rfl, hl1, rfl, _, _, rfl, rfl, .inr (by decide), _, _, rfl, rfl, ?_⟩
  -- if c[1] < len(c[0])
  refine ⟨fun σ' H' => ∃ n p', σ' = [some (.ref c), some (.int n)] ∧ CurD H' c a ns p' acc (k + 1) ∧ But c H H', ?_, ?_⟩
  · refine ⟨_, rfl, c, _, 1, _, rfl, rfl, hl1, rfl, _, rfl, c, _, 0, _, rfl, rfl, hl1, rfl, a, _, rfl, .inl ha1, _, _, rfl, rfl, _, rfl, ite2 (fun e => ?_) (fun e => ?_)⟩
    · have e' : p < ((ns.map V.int).length : Int) := of_decide_eq_true e
      rw [List.length_map] at e'
      obtain ⟨j, rfl⟩ := Int.eq_ofNat_of_zero_le d1.hp
      have hj : j < ns.length := by omega
      have g : (ns.map V.int)[j]? = some (.int ns[j]) := by rw [List.getElem?_map, List.getElem?_eq_getElem hj]; rfl
      generalize ns[j] = z at g
      -- number = c[0][c[1]]
      refine ⟨_, rfl, c, _, 0, _, rfl, rfl, hl1, rfl, _, rfl, c, _, 1, _, rfl, rfl, hl1, rfl, a, _, _, _, rfl, rfl, ha1, atI_nat g, ?_⟩
      -- c[1] = c[1] + 1
      refine ⟨_, rfl, c, _, 1, _, rfl, rfl, hl1, rfl, _, _, rfl, rfl, _, rfl, c, _, 1, 1, rfl, rfl, d1.hc, rfl, ?_⟩
      have d2 := d1.put (But.refl c H1) (show (0 : Int) ≤ (j : Int) + 1 by omega) d1.hacc (acc' := acc) (k' := k + 1)
      have b2 : But c H _ := b1.put (o := .lst [.ref a, .int ((j : Int) + 1), .int acc, .int (k + 1)])
      show tSeq _ _ _ _ (upd H1 c (.lst [.ref a, .int ((j : Int) + 1), .int acc, .int (k + 1)]))
      generalize upd H1 c (.lst [.ref a, .int ((j : Int) + 1), .int acc, .int (k + 1)]) = H2 at d2 b2 ⊢
      -- if number < 0
      refine ⟨fun σ' H' => ∃ n, σ' = [some (.ref c), some (.int n)] ∧ 0 ≤ n ∧ H' = H2, ?_, ?_⟩
      · refine ⟨_, rfl, _, _, rfl, rfl, _, rfl, ite2 (fun e => ?_) (fun e => ?_)⟩
        · have e' : z < 0 := of_decide_eq_true e
          exact ⟨_, _, rfl, rfl, _, rfl, _, _, rfl, rfl, _, rfl, by omega, rfl⟩
        · have e' : ¬ z < 0 := of_decide_eq_false (Bool.eq_false_iff.mpr e)
          exact ⟨_, rfl, by omega, rfl⟩
      · rintro σ' H' ⟨n, rfl, hn, rfl⟩
        -- if number >= 10 ** 18
        refine ⟨_, rfl, _, _, rfl, rfl, ⟨by decide, by decide, by decide⟩, _, _, rfl, rfl, _, rfl, ite2 (fun e => ?_) (fun e => ?_)⟩
        · exact ⟨_, rfl, q _ n b2 ⟨_, _, _, d2⟩ hn⟩
        · exact ⟨n, _, rfl, d2, b2⟩
    · exact ⟨_, p, rfl, d1, b1⟩
  · rintro σ' H' ⟨n, p', rfl, d', b'⟩
    have hl' := SqL.of (K := K) d'.hc
    have ha' := SqL.of (K := K) d'.ha
    -- if c[0] and c[1] >= len(c[0])
    refine ⟨fun σ'' H'' => ∃ n, σ'' = [some (.ref c), some (.int n)] ∧ H'' = H', ?_, ?_⟩
    · refine ⟨_, rfl, c, _, 0, _, rfl, rfl, hl', rfl, _, .inl ⟨_, ha', rfl⟩, ?_⟩
      refine ite2 (fun e => ?_) (fun e => ?_)
      · refine ⟨_, rfl, c, _, 1, _, rfl, rfl, hl', rfl, _, rfl, c, _, 0, _, rfl, rfl, hl', rfl, a, _, rfl, .inl ha', _, _, rfl, rfl, _, rfl, ite2 (fun e2 => ?_) (fun e2 => ?_)⟩
        · have hne : ns ≠ [] := by
            rintro rfl
            exact absurd e (by decide)
          have g : atI (ns.map V.int) (-1) = some (.int (ns.getLast hne)) := by
            have := atI_last (ns.dropLast.map V.int) (V.int (ns.getLast hne))
            rwa [← List.map_singleton, ← List.map_append, List.dropLast_concat_getLast] at this
          generalize ns.getLast hne = z at g
          refine ⟨_, rfl, _, rfl, c, _, 0, _, rfl, rfl, hl', rfl, _, rfl, a, _, _, _, rfl, rfl, ha', g, .inl ⟨_, rfl, ?_⟩⟩
          exact ⟨_, _, rfl, rfl, (show (0 : Int) < 1000003 by decide), _, _, rfl, rfl, _, rfl, rfl⟩
        · exact ⟨n, rfl, rfl⟩
      · exact ite2 (fun e => absurd e (by simp)) (fun e => ⟨n, rfl, rfl⟩)
    · rintro σ'' H'' ⟨n, rfl, rfl⟩
      -- number = int(number * 48271 + c[3] * 69621) % 2147483647
      refine ⟨_, rfl, _, _, rfl, rfl, .inr (by decide), _, rfl, c, _, 3, _, rfl, rfl, hl', rfl, _, _, rfl, rfl, .inr (by decide), _, _, rfl, rfl, .inl ⟨_, rfl, _, _, rfl, rfl, (show (0 : Int) < 2147483647 by decide), ?_⟩⟩
      dsimp only [gName, List.set]
      have m1 : 0 ≤ (n * 48271 + (k + 1) * 69621) % 2147483647 := Int.emod_nonneg _ (by decide)
      have m2 : (n * 48271 + (k + 1) * 69621) % 2147483647 < 2147483647 := Int.emod_lt_of_pos _ (by decide)
      generalize (n * 48271 + (k + 1) * 69621) % 2147483647 = x at m1 m2 ⊢
      -- return
      refine ⟨_, rfl, _, rfl, _, _, rfl, rfl, .inl ⟨by omega, by omega⟩, _, rfl, c, _, 3, _, rfl, rfl, hl', rfl, _, _, rfl, rfl, .inr (by decide), _, _, rfl, rfl, _, _, rfl, rfl, .inl ⟨_, rfl, _, _, rfl, rfl, (show (0 : Int) < 2305843009213693951 by decide), _, _, rfl, rfl, ?_⟩⟩
      refine q _ _ b' ⟨_, _, _, d'⟩ ?_
      have := Int.emod_nonneg (x * x + (k + 1) * 7919 + 11) (show (2305843009213693951 : Int) ≠ 0 by decide)
      omega
abbrev s_law_take : Stmt := topS 39
abbrev N_law_take : List Str := ["c", "many", "digit"]
theorem sc_law_take : FnScope N_law_take ["c", "many"] (defScope s_law_take) := ⟨rfl, rfl, rfl, by decide +kernel, rfl, by decide +kernel, by decide +kernel⟩
theorem ok_law_take {f g : Addr} {fd gd : FuncData} (D : DefAt K mg "_law_take" s_law_take ["c", "many"] f fd) (D_law_fill : DefAt K mg "_law_fill" s_law_fill ["c"] g gd) (z_len : mg "len" = none) (z_int : mg "int" = none) : FnOk P w K mg base CX0 2 f fd ["c", "many"] spTake := by
  have G_law_fill : FnOk P w K mg base CX0 1 g gd ["c"] spFill := ok_law_fill D_law_fill z_len z_int
  refine D.F.ok sc_law_take (fun vs H Q E h => ?_) (fun cdv A outer s H vs Q E hr h => ?_)
  · obtain ⟨c, a, ns, m, rfl, _⟩ := h
    rfl
  obtain ⟨c, a, ns, m, rfl, hC, hm, hm2, q⟩ := h
  refine ⟨_, (C8.pss_cut (ps_if (pt_cmpR op_lt (pe_ix ix_list (pv 0) pe_int (fun _ _ => rfl)) (pv 1) (nomark _)) (pss_one (ps_asg (pe_call G_law_fill (hr.mono (by first | decide | omega)) (by rfl) D_law_fill.m D_law_fill.F.kp D_law_fill.b .nil pass0 (pa_cons (pv 0) pa_nil)) (pg_sub (pv 0) pe_int set_list)))
        pss_nil)
      (pss_cons (ps_set (i := 2) sc_law_take.nd rfl (Or.inl rfl) (pe_op op_mod (pe_callTy call_int1 (by rfl) z_int (by decide +kernel) (pa_cons (pe_ix ix_list (pv 0) pe_int (fun _ _ => rfl)) pa_nil)) (pv 1)))
      (pss_cons (ps_asg (pe_op op_fdiv (pe_ix ix_list (pv 0) pe_int (fun _ _ => rfl)) (pv 1)) (pg_sub (pv 0) pe_int set_list))
      (pss_one (ps_ret (pv 2)))))), ?_⟩
  obtain ⟨p, acc, k, d⟩ := hC
  have hl := SqL.of (K := K) d.hc
  -- if c[2] < many
  refine ⟨fun σ' H' => ∃ v, σ' = [some (.ref c), some (.int m), v] ∧ Cur H' c a ns ∧ But c H H', ?_, ?_⟩
  · refine ⟨_, rfl, c, _, 2, _, rfl, rfl, hl, rfl, _, rfl, _, _, rfl, rfl, _, rfl, ite2 (fun e => ?_) (fun e => ?_)⟩
    · refine ⟨_, rfl, c, a, ns, rfl, ⟨_, _, _, d⟩, fun H' n b1 cu hn => ?_⟩
      obtain ⟨p', acc', k', d'⟩ := cu
      refine ⟨_, rfl, c, _, 2, 2, rfl, rfl, d'.hc, rfl, ?_⟩
      exact ⟨_, rfl, ⟨_, _, _, d'.put (But.refl c H') d'.hp hn⟩, b1.put⟩
    · exact ⟨_, rfl, ⟨_, _, _, d⟩, But.refl c H⟩
  · rintro σ' H' ⟨v, rfl, ⟨p', acc', k', d'⟩, b'⟩
    have hl' := SqL.of (K := K) d'.hc
    -- digit = int(c[2]) % many
    refine ⟨_, rfl, c, _, 2, _, rfl, rfl, hl', rfl, .inl ⟨_, rfl, _, rfl, _, _, rfl, rfl, hm, ?_⟩⟩
    -- c[2] = c[2] // many
    refine ⟨_, rfl, c, _, 2, _, rfl, rfl, hl', rfl, _, rfl, _, _, rfl, rfl, ⟨hm, hm2⟩, _, rfl, c, _, 2, 2, rfl, rfl, d'.hc, rfl, ?_⟩
    refine ⟨_, rfl, q _ _ b'.put ⟨_, _, _, d'.put (But.refl c H') d'.hp (Int.ediv_nonneg d'.hacc (by omega))⟩ (Int.emod_nonneg _ (by omega)) (Int.emod_lt_of_pos _ hm)⟩
end
end FL

set_option Elab.async false
set_option linter.all false
set_option maxRecDepth 100000
set_option maxHeartbeats 1000000
/-! ### an own error whose __init__ says super().__init__(text) and stores one field: what the text is, what its making leaves -/
namespace PySem
namespace TeX
open PySem.W PySem.Calls PyProof.Rows PySem.HandSPX
/-- TextError.__init__ in the text -/
abbrev s_te : Stmt := L2.inClass (FL.topS 5) 0
abbrev teFn (doc pm : Value) (an : Option Addr) (cda : Addr) (ct : Value) (cc : Addr) : FuncData := ksFn "__init__" "TextError.__init__" (L2.defArgs s_te) (L2.defBody s_te) (L2.defScope s_te) .none .none doc pm an (.ref cda) ct cc
abbrev teEnv (L fI cda cc : Addr) : Env := ksEnv "TextError.__init__" (L2.defScope s_te) L fI (.ref cda) cc
structure TeTxt (prog : Program) (K : Frag) (mg : Str → Option Value) (C fI : Addr) : Prop where
  gC : mg "TextError" = some (.ref C)
  cls : ∃ nm q N bs bm sn sub ab col dd k0 k1 k2 k3 k5, K.lookup C = some (excClassObj nm q C N bs bm true sn sub ab col dd k0 k1 k2 k3 k5 "ValueError.__new__") ∧ refsVE bm = true
  sa : findIn K (.ref C) "__setattr__" = some (some (.builtin "object.__setattr__"))
  ga : findIn K (.ref C) "__getattribute__" = some (some (.builtin "BaseException.__getattribute__"))
  gg : findIn K (.ref C) "__getattr__" = some none
  noN : findIn K (.ref C) "line" = some none
  iC : findIn K (.ref C) "__init__" = some (some (.ref fI))
  tC : typeIn K (.ref fI) = some (.type "function")
  kC : keepIn K (.ref C) = true
  exC : subIn K (.ref C) (.type "BaseException") = some true
  veC : subIn K (.ref C) (.type "ValueError") = some true
  tyC : typeIn K (.ref C) = some (.type "type")
  hdC : hasDictIn K C = true
  te : exmOne K (.ref C) (.ref C) = some true
  sup : ks_superIn K C C "__init__" = some (some (.builtin "ValueError.__init__"))
  tp : nsIn K cStatics "thirdparty.any" = some none
  noS : nsIn K mainGlobals "super" = some none
  top : (prog.main.scope.names.lookup ("super" : Str)).isSome = false
  fn : ∃ (oc : Value) (od : Option Addr) (doc pm : Value) (an : Option Addr) (cda cc : Addr) (ct : Value) (osl : Array (Option Value)) (ccl cl : Value) (cdd cld : Option Addr) (ccs csl : Array (Option Value)) (vs : Array Value) (file : Str) (tf : Tok),
    K.lookup fI = some ⟨oc, od, .func (teFn doc pm an cda ct cc), osl⟩ ∧ codeIn K (.ref cda) "TextError.__init__" = true ∧
    K.lookup cc = some ⟨cl, cld, .cell (some (.ref C)), csl⟩ ∧ K.lookup cda = some ⟨ccl, cdd, .fields vs, ccs⟩ ∧ vs[2]? = some (.str file tf) ∧ ((prog.main.file : Str) == file) = true
/-- what __init__ leaves of a fresh exception at x -/
structure InitEnd (h h' : Heap) (x C dx : Addr) (v : Value) : Prop where
  keep : ∀ b o, b ≠ x → h.get? b = some o → h'.get? b = some o
  obj : ∃ t1 : Addr, h'.get? x = some { cls := .ref C, dict := some dx, data := .fields #[.ref t1, .none, .none, .none, .bool false, .none] }
  dbig : h.objs.size ≤ dx
  dne : dx ≠ x
  ns : h'.Ns1 dx (fun y => if y = "line" then some v else none)
section
variable {prog : Program} {w : World} {A : Around} {E : Value → Shared → Prop} {R : Result → Shared → Prop} {s : Shared} {K : Frag} {mg mb : Str → Option Value} {C fI : Addr}
/-- the bound ValueError.__init__ called -/
theorem bound_call {u e t0 : Addr} {us : List Value} {Q : Value → Shared → Prop} {nm q : Str} {N : Addr} {bs bm : List Value} {hdct : Bool} {sn : List Str} {sub : List Value} {ab : Bool} {col : Option Bool} {dd : Option Addr} {k0 k1 k2 k3 k5 : Option Value}
    (hC : s.heap.get? C = some (excClassObj nm q C N bs bm hdct sn sub ab col dd k0 k1 k2 k3 k5 "ValueError.__new__")) (he : s.heap.get? e = some (excO C t0)) (hu : s.heap.get? u = some (kxs_mw "ValueError.__init__" e)) (hz : us.length ≤ sizeLine)
    (hq : ∀ h' t1, (∀ b o, b ≠ e → s.heap.get? b = some o → h'.get? b = some o) → h'.get? e = some (excO C t1) → Q .none { s with heap := h' }) : wpAny (model prog w) A (call (.ref u) us) Q E s := by
  obtain ⟨hp, g, d, tk, os⟩ := s
  refine wpAny_call (codeAny_of_tree (show wpAny _ A.in1 (callAny (.ref u) ⟨us, []⟩) _ _ _ from ?_))
  simp only [callAny]; refine wpAny_bind (wpAny_load hu ?_)
  have e1 : (Value.type "method-wrapper" == Value.type "method" || Value.type "method-wrapper" == Value.type "builtin_function_or_method" || Value.type "method-wrapper" == Value.type "method-wrapper") = true := by decide
  simp only [kxs_mw, e1, if_true]; refine KFB.if_so (by decide) (wpAny_bind (check_bound_init F.excBase_ValueError.toExcCallFacts hC he rfl (wpAny_bind (wpAny_pure (wpAny_pure ?_)))))
  refine ⟨plainId_quiet F.excBase_ValueError.init.plain _, codeAny_builtin F.excBase_ValueError.initEntry ?_⟩
  exact exc_init_tree (cls := .ref C) (t0 := t0) (dv := none) (c2 := .none) (c3 := .none) (b4 := .bool false) he hz fun h' k e' _ => hq h' _ k e'
theorem te_init (T : TeTxt prog K mg C fI) {x t0 : Addr} {v : Value} (X : K.In s.heap) (G : s.heap.Ns mainGlobals mg) (B : s.heap.Ns builtinsNs mb) (hb : ∀ x : Str, x ≠ "__name__" → mb x = bootBuiltins x) (hlim : s.heap.NoLimit)
    (hx : s.heap.get? x = some (excO C t0)) (hnx : K.lookup x = none) (hroom : A.depth < recursionLimit)
    (hq : ∀ h' tk dx, InitEnd s.heap h' x C dx v → R (.ok (.ret .none)) { s with heap := h', toks := tk }) :
    codeAny (model prog w) A (.call (.ref fI) ⟨[.ref x, v], []⟩) R s := by
  obtain ⟨oc, od, doc, pm, an, cda, cc, ct, osl, ccl, cl, cdd, cld, ccs, csl, vs, file, tf, ho, hcd, hcell, hcode, hvs, hfile⟩ := T.fn
  obtain ⟨nm, q, N, bs, bm, sn, sub, ab, col, dd, k0, k1, k2, k3, k5, hC, hbm⟩ := T.cls
  have hcl : clsIn K C = some { name := nm, bases := bs, mro := .ref C :: bm, ns := N, qualname := q, hasDict := true, slotNames := sn, subclasses := sub, abstract := ab, collection := col, hasDel := false } := by unfold clsIn; rw [hC] <;> rfl
  have hmro : mroIn K C (.ref C) = some true := by unfold mroIn; rw [hcl]; simp
  have hsup : alongIn K "__init__" bm = some (some (.builtin "ValueError.__init__")) := by
    have e := T.sup
    unfold ks_superIn at e
    rw [hcl] at e
    simpa [List.dropWhile_cons] using e
  refine ks_codeAny_call_defAt (fd := teFn doc pm an cda ct cc) (body := L2.defBody s_te) (binds := [("self", .ref x), ("line", v)]) hroom (X _ _ ho) rfl hlim (codeRec_of X hcd) rfl
    (BindsTo.of_eq (by first | rfl | with_unfolding_all rfl)) (show ∀ x ∈ (L2.defScope s_te).names, x.2 ≠ NameKind.cell by decide +kernel) (by
      intro y hy; simp only [List.mem_cons, List.not_mem_nil, or_false] at hy
      rcases hy with rfl | rfl
      · exact (show (L2.defScope s_te).names.lookup ("self" : Str) = some NameKind.local by decide +kernel)
      · exact (show (L2.defScope s_te).names.lookup ("line" : Str) = some NameKind.local by decide +kernel)) (fun h₁ hns hk₁ => ?_) rfl rfl rfl
  show _root_.PySem.wpAt (model prog w) (A.deeper (teEnv s.heap.objs.size fI cda cc)) (.func (L2.defBody s_te) (teEnv s.heap.objs.size fI cda cc)) (execs (L2.defBody s_te) (teEnv s.heap.objs.size fI cda cc)) _ _ _
  have X₁ : K.In h₁ := X.keeps hk₁
  have hx₁ := hk₁ _ _ hx
  have hnxC : x ≠ C := fun e => by rw [e, hC] at hnx; cases hnx
  -- super().__init__(text)
  refine ks_wpAt_execs_cons (ks_wpAt_Expr_any (ks_wpAt_MethodCall ?_))
  refine ks_wpAt_super_base (fd := teFn doc pm an cda ct cc) (f := fI) (cc := cda) (vs := vs) (file := file) (tf := tf)
    rfl rfl (by decide) rfl (X₁ _ _ ho) rfl rfl rfl (X₁ _ _ hcode) rfl hvs hfile T.top ?_
  refine ks_loadName_global rfl rfl (loadGlobal_builtin (G.keeps hk₁) (mg_none_of X G T.noS) (B.keeps hk₁) ((hb _ (by decide +kernel)).trans (by decide +kernel : bootBuiltins "super" = some (.type "super"))) ⟨rfl, ?_⟩)
  refine wpAny_loadName_free (c := cc) rfl rfl rfl ⟨_, X₁ _ _ hcell, rfl⟩ ?_
  refine wpAny_loadName_local (v := .ref x) rfl rfl hns (by first | rfl | with_unfolding_all rfl) ?_
  refine ks_wpAny_isType_cls (X₁ _ _ hC) rfl ⟨rfl, ?_⟩
  obtain ⟨hp, g, d, tk, os⟩ := s
  refine ks_wpAny_call_super (X₁ _ _ hC) rfl hx₁ rfl (fun c e => by cases e) (looks_mroIn X₁ hmro) (fun h₂ hso k₂ => ?_)
  have X₂ : K.In h₂ := X₁.keeps k₂
  have hx₂ := k₂ _ _ hx₁
  have I₂ : InstAt h₂ x (excO C t0) C none := ⟨hx₂, rfl, rfl, trivial⟩
  refine kxs_getMethod kxs_ValueError hso (looks_opaque X₂ T.tp) (l₀ := .ref C :: bm) (fun A Q E s k q => wpAny_bind ((looks_clsIn X₂ hcl) A _ E s k (wpAny_pure q))) (by simp [List.dropWhile_cons]) X₂ hsup (I₂.type.andThen (looks_subIn X₂ T.veC)) hnxC (by decide) ?_
  refine kxs_callWith (i := "ValueError.__init__") (x := x) (by rfl) (evalArgs_plain (Calls.spliced_cons ?_))
  rw [if_neg Bool.false_ne_true]
  refine Calls.Constant_str (Calls.spliced_nil ⟨?_, ?_⟩)
  · exact Heap.get?_push_at rfl rfl
  have kp : ∀ b o, h₂.get? b = some o → (h₂.push (kxs_mw "ValueError.__init__" x)).get? b = some o := fun b o e => Heap.get?_push_of_some _ e
  refine bound_call (kp _ _ (X₂ _ _ hC)) (kp _ _ hx₂) (Heap.get?_push_at rfl rfl) (by show 1 ≤ sizeLine; decide) (fun h₃ t1 k₃ hx₃ => ?_)
  have k₀₃ : ∀ b o, b ≠ x → hp.get? b = some o → h₃.get? b = some o := fun b o e z => k₃ b o e (kp b o (k₂ b o (hk₁ b o z)))
  have X₃ : K.In h₃ := fun a o e => k₀₃ a o (fun z => by rw [z, hnx] at e; cases e) (X a o e)
  have ns₃ : h₃.Ns hp.objs.size (fun y => ([("self", Value.ref x), ("line", v)] : List (Str × Value)).reverse.lookup y) := by
    obtain ⟨o, es, ep, e1, e2⟩ := hns
    exact ⟨o, es, ep, k₃ _ _ (fun z => absurd (Heap.lt_size hx) (by rw [← z]; exact Nat.lt_irrefl _)) (kp _ _ (k₂ _ _ e1)), e2⟩
  -- self.line = line
  refine wpAt_of_wpAny (wpAny_execs_cons (plainObj_wpAny_Assign_Attribute ?_))
  refine wpAny_Name (wpAny_loadName_local (v := v) rfl rfl ns₃ (by first | rfl | with_unfolding_all rfl) ?_) (by decide +kernel)
  refine wpAny_Name (wpAny_loadName_local (v := .ref x) rfl rfl ns₃ (by first | rfl | with_unfolding_all rfl) ?_) (by decide +kernel)
  refine set_plain X₃ (ox := excO C t1) (od := none) ⟨hx₃, rfl, rfl, trivial⟩ T.sa ?_
  refine exc_osa X₃ hx₃ hcl (show refsVE (.ref C :: bm) = true from hbm) rfl T.noN (fun h₄ tk₄ dx k₄ dn dne hx₄ hn₄ => ?_)
  have z : hp.objs.size < h₃.objs.size := ns₃.lt
  exact wpAny_execs_nil (hq h₄ tk₄ dx ⟨fun b o hb e => k₄ b o hb (k₀₃ b o hb e), ⟨t1, hx₄⟩, Nat.le_of_lt (Nat.lt_of_lt_of_le z dn), dne, hn₄⟩)
/-- what a made error leaves -/
structure TeMade (h h' : Heap) (e C d : Addr) (v : Value) : Prop where
  keep : ∀ b o, h.get? b = some o → h'.get? b = some o
  new : h.objs.size ≤ e
  obj : ∃ oe vs, h'.get? e = some oe ∧ oe.cls = .ref C ∧ oe.dict = some d ∧ oe.data = .fields vs ∧ vs[1]? = some .none
  dbig : h.objs.size ≤ d
  dne : d ≠ e
  ns : h'.Ns1 d (fun y => if y = "line" then some v else none)
theorem te_made (T : TeTxt prog K mg C fI) {v : Value} (X : K.In s.heap) (G : s.heap.Ns mainGlobals mg) (B : s.heap.Ns builtinsNs mb) (hb : ∀ x : Str, x ≠ "__name__" → mb x = bootBuiltins x) (hlim : s.heap.NoLimit) (hroom : A.depth + 1 < recursionLimit)
    (hq : ∀ h' tk e d, TeMade s.heap h' e C d v → R (.ok (.ret (.ref e))) { s with heap := h', toks := tk }) :
    codeAny (model prog w) A (.call (.ref C) ⟨[v], []⟩) R s := by
  obtain ⟨nm, q, N, bs, bm, sn, sub, ab, col, dd, k0, k1, k2, k3, k5, hC, hbm⟩ := T.cls
  obtain ⟨hp, g, dr, tk, os⟩ := s
  have k : ∀ b o, hp.get? b = some o → ((hp.push (kdv_tup [v])).push (excO C hp.objs.size)).get? b = some o := fun b o e => Heap.get?_push_of_some _ (Heap.get?_push_of_some _ e)
  have hget : ((hp.push (kdv_tup [v])).push (excO C hp.objs.size)).get? (hp.objs.size + 1) = some (excO C hp.objs.size) := by heap_get
  have hnx : K.lookup (hp.objs.size + 1) = none := by
    cases e : K.lookup (hp.objs.size + 1) with
    | none => rfl
    | some o =>
      have z : hp.get? (hp.objs.size + 1) = some o := X _ _ e
      exact absurd (Nat.lt_of_succ_lt (Heap.lt_size z)) (Nat.lt_irrefl _)
  refine call_own F.excBase_ValueError (fun X => refsVE_contains X bm hbm) (X _ _ hC) (looks_findIn X T.iC) (fun self => bind_fn X self T.tC) (by show 1 ≤ sizeLine; decide) ?_
  refine te_init (s := ⟨(hp.push (kdv_tup [v])).push (excO C hp.objs.size), g, dr, tk, os⟩) T (X.keeps k) (G.keeps k) (B.keeps k) hb (hlim.keeps k) hget hnx ?_ fun h' tk' dx ⟨k', hx, dn, dne, hns⟩ => ?_
  · show A.depth + 1 < recursionLimit
    exact hroom
  · have old : ∀ b o, hp.get? b = some o → h'.get? b = some o := fun b o e => k' b o (Nat.ne_of_lt (Nat.lt_succ_of_lt (Heap.lt_size e))) (k b o e)
    have z : hp.objs.size + 1 + 1 ≤ dx := by
      have q := dn
      rw [Heap.size_push, Heap.size_push] at q
      exact q
    obtain ⟨t1, hx⟩ := hx
    exact ⟨rfl, hq h' tk' (hp.objs.size + 1) dx ⟨old, Nat.le_succ _, ⟨_, _, hx, rfl, rfl, rfl, rfl⟩, Nat.le_trans (Nat.le_trans (Nat.le_succ _) (Nat.le_succ _)) z, dne, hns⟩⟩
end
end TeX
end PySem
namespace L2
open PySem PySem.Spec PyProof.Rows
theorem relO_te {v : V} {v' : Value} (r : RelV v v') (f : Str) : RelO (List.lookup f [(("line" : Str), v)]) (if f = "line" then some v' else none) := by
  by_cases hw : f = "line"
  · subst hw
    rw [if_pos rfl]
    have q : List.lookup ("line" : Str) [(("line" : Str), v)] = some v := by simp [List.lookup]
    rw [q]
    exact r
  · rw [if_neg hw]
    have qw : (f == ("line" : Str)) = false := by simpa using hw
    have q2 : List.lookup f [(("line" : Str), v)] = none := by simp [List.lookup, qw]
    rw [q2]
    trivial
section
variable {X : Cx} {C fI : Addr}
/-- TextError(e) -/
def tMkTe (C : Addr) (ta : TA) : St → Hp → XK → Prop := fun σ H Q => ta σ H fun vs H1 => ∃ v, vs = [v] ∧ ∀ d, H1 d = none → Q (.ref C) (some d) (upd H1 d (.xd [(("line" : Str), v)]))
theorem pmk_te {a : Expr} {ta : TA} {p pos : Pos} {k : Nat} (T : PySem.TeX.TeTxt X.prog X.K X.mg C fI) (hr : Room k X.A) (ha : PA X [a] ta) (hg : Gl X "TextError" := by rfl)
    (he : starEach (a :: []) X.env = (false, eval a X.env) :: starEach [] X.env := by rfl) (hpl : (backTo pos (starEach [] X.env)).any (·.1) = false := by rfl) :
    PMk X (.Call (.Name "TextError" p) [a] [] pos) (tMkTe C ta) := by
  intro pins s σ H Q I h
  refine wpAny_Call_Name_kw (ld_glob I hg T.gC ?_)
  refine PySem.W.callWith_K (h₀ := X.base) I.ok.mod.kin T.kC (thn (ha.run pos pins s σ H _ I h) fun us s1 hh => ?_) he hpl
  obtain ⟨vs, H1, I1, r1, v, ev, q1⟩ := hh
  subst ev
  refine ⟨I1.kIn, ?_⟩
  cases r1 with
  | cons rv rn =>
    rename_i v' us'
    cases rn
    show wpAny _ _ (call (.ref C) [v']) _ _ _
    have hlim := I1.nolimit
    have hglob := I1.mod.glob.keeps I1.bk
    obtain ⟨mb, hb1, hbt⟩ := I1.mod.blt
    have hblt := hb1.keeps I1.bk
    obtain ⟨hp, g, dr, tk, os⟩ := s1
    refine wpAny_call (PySem.TeX.te_made T I1.kIn hglob hblt hbt hlim (by have := hr.dp; omega) fun h' tk' e d M => ?_)
    show MkP X pins σ Q (.ref e) ⟨h', g, dr, tk', os⟩
    obtain ⟨oe, fv, hoe, hc, hd, hdat, h1⟩ := M.obj
    have hns := M.ns
    obtain ⟨G', g1, g2⟩ := restrict h' fun b => decide (b ≠ e)
    have gk : ∀ b, b ≠ e → G'.get? b = h'.get? b := fun b hb => g1 b (decide_eq_true hb)
    have ge : G'.get? e = none := g2 e (by simp)
    have old : ∀ b o, hp.get? b = some o → G'.get? b = some o := fun b o q => (gk b (Nat.ne_of_lt (Nat.lt_of_lt_of_le (Heap.lt_size q) M.new))).trans (M.keep b o q)
    have ob : ObjOk X.prog X.w (upd H1 d (.xd [(("line" : Str), v)])) G' d (.xd [(("line" : Str), v)]) :=
      ⟨_, hns.at (fun o q => (gk d M.dne).trans q), fun f => relO_te rv f⟩
    have J : Inv X pins σ (upd H1 d (.xd [(("line" : Str), v)])) ⟨G', g, dr, tk', os⟩ := I1.laid (t' := tk') old M.dbig ob
    refine ⟨e, oe, fv, ⟨G', g, dr, tk', os⟩, _, .ref C, some d, rfl, J, fun b o q => ?_, ge, hoe, ⟨hc, hd⟩, hdat, h1, ?_, rfl, I1.bare, raises_own T.exC T.tyC, q1 d (I1.hok.fresh M.dbig)⟩
    · by_cases hb : b = e
      · have q' : G'.get? b = some o := q
        rw [hb, ge] at q'; cases q'
      · exact (gk b hb).symm.trans q
    · rw [upd_ne (Ne.symm M.dne)]
      exact I1.hok.fresh M.new
/-- raise TextError(e) -/
def tRaiseTe (C : Addr) (W : WX) (ta : TA) : TS := fun _ σ H => tMkTe C ta σ H fun cls d H' => W cls d σ H'
theorem ps_raiseTe {a : Expr} {ta : TA} {W : WX} {p pos pos2 : Pos} {k : Nat} (hc : X.calm = true) (T : PySem.TeX.TeTxt X.prog X.K X.mg C fI) (hr : Room k X.A) (tk : Takes X W) (ha : PA X [a] ta) (hg : Gl X "TextError" := by rfl)
    (he : starEach (a :: []) X.env = (false, eval a X.env) :: starEach [] X.env := by rfl) (hpl : (backTo pos (starEach [] X.env)).any (·.1) = false := by rfl) :
    PS X (.Raise (some (.Call (.Name "TextError" p) [a] [] pos)) none pos2) (tRaiseTe C W ta) := ps_raise hc tk (pmk_te T hr ha hg he hpl)
/-- e.line, e the exception that the suite holds (at a; its class cls, its dict d) -/
def tLine (C : Addr) (a : Addr) (cls : Value) (d : Option Addr) (te : TE) : TE := fun σ H Q => te σ H fun x H1 => x = .ref a ∧ cls = .ref C ∧ ∃ (dd : Addr) (v : V), d = some dd ∧ H1 dd = some (.xd [(("line" : Str), v)]) ∧ Q v H1
theorem pe_line {a : Addr} {oe : Obj} {cls : Value} {d : Option Addr} {pn : List (Addr × Obj)} {e : Expr} {te : TE} {pos : Pos} (T : PySem.TeX.TeTxt X.prog X.K X.mg C fI) (hz : Zc cls d oe) (hf : ∃ vs, oe.data = .fields vs) (he : PE (X.suite a ((a, oe) :: pn)) e te)
    (hb : attributeBase e "line" X.env (eval e X.env) = eval e X.env := by rfl) :
    PE (X.suite a ((a, oe) :: pn)) (.Attribute e "line" pos) (tLine C a cls d te) := by
  refine ⟨fun pins s σ H Q I h => ?_⟩
  refine attr_of hb (thn (he.run pins s σ H _ I h) fun u s1 hh => ?_)
  obtain ⟨x, H1, I1, rx, ex, ec, dd, v, ed, ea, q⟩ := hh
  subst ex
  obtain rfl : u = Value.ref a := rx
  subst ec
  subst ed
  obtain ⟨ha, _⟩ := I1.pin (a, oe) (List.mem_append_left _ List.mem_cons_self)
  obtain ⟨vs, hd⟩ := hf
  have hx : ObjOk X.prog X.w H1 s1.heap dd (.xd [(("line" : Str), v)]) := I1.hok dd _ ea
  obtain ⟨mA, hns, hr⟩ := hx
  obtain ⟨od, ho, hl⟩ := lookIn_ns hns
  have l : List.lookup ("line" : Str) [(("line" : Str), v)] = some v := by simp [List.lookup]
  obtain ⟨u, hu, ru⟩ := RelO.some_of (v := v) (o := mA "line") (by rw [← l]; exact hr "line")
  have J : PySem.W.InstAt s1.heap a oe C (some od) := ⟨ha, hz.1, by unfold PySem.W.notCls; rw [hd] <;> rfl, by rw [hz.2]; exact ho⟩
  exact HandSPX.exc_get I1.kIn J T.ga T.gg T.exC (PySem.W.findObj_own T.hdC T.noN rfl (by rw [hl, hu])) (handed_of ru) ⟨v, H1, I1.tok _, ru, q⟩
end
end L2

set_option Elab.async false
set_option linter.all false
set_option maxRecDepth 100000
set_option maxHeartbeats 1000000
namespace FL
open PySem PySem.Spec PyProof.Rows L2
section
variable {X : Cx}
/-- text times int -/
theorem op_repS : OpR X (binaryOp .Mult) (fun x y H Q => ∃ (l : List Nat) (k : Nat), x = .str (S l) ∧ y = .int (k : Int) ∧ k < 2 ^ 30 ∧ l.length * k ≤ sizeLine ∧ Q (.str (S (List.replicate k l).flatten)) H) := by
  intro pins s σ H x y v u Q I rx ry h
  obtain ⟨l, k, rfl, rfl, hk, hz, q⟩ := h
  obtain ⟨t, rfl⟩ := rx
  obtain ⟨t', rfl⟩ := ry
  have sl := sizeLine_eq
  refine PySem.P.mul_str ?_ ?_ ?_ ?_
  · have h1 : ¬ ((k : Int) < -(2 ^ 63 : Int)) := by omega
    have h2 : ¬ ((k : Int) ≥ 2 ^ 63) := by omega
    rw [decide_eq_false h1, decide_eq_false h2]
    rfl
  · intro h1 h2 h3
    have hk0 : 0 < k := by omega
    have h4 := Int.mul_le_of_le_ediv (show (0 : Int) < (k : Int) by omega) (Int.le_of_lt_add_one (Int.lt_add_one_of_le (Int.le_refl ((2 ^ 63 - 1) / (k : Int)))))
    have h5 : ((2 ^ 63 - 1) / (k : Int) + 1) ≤ (l.length : Int) := h3
    have h6 : ((2 ^ 63 - 1) / (k : Int) + 1) * (k : Int) ≤ (l.length : Int) * (k : Int) := Int.mul_le_mul_of_nonneg_right h5 (by omega)
    have h7 : (2 ^ 63 - 1 : Int) < ((2 ^ 63 - 1) / (k : Int) + 1) * (k : Int) := Int.lt_ediv_add_one_mul_self _ (by omega)
    have h8 : ((l.length * k : Nat) : Int) ≤ 16777216 := by omega
    rw [Int.natCast_mul] at h8
    omega
  · intro h1 h2
    show decide (l.length * ((k : Nat) : Int).toNat > sizeLine) = false
    rw [Int.toNat_natCast]
    exact decide_eq_false (by omega)
  · by_cases h0 : k = 0
    · subst h0
      rw [if_pos (by decide)]
      exact ⟨by show 0 ≤ sizeLine; omega, .str _, H, I.tok _, ⟨_, rfl⟩, q⟩
    · rw [if_neg (by omega)]
      by_cases h1 : k = 1
      · subst h1
        rw [if_pos (by rfl)]
        refine ⟨.str _, H, I, ⟨_, rfl⟩, ?_⟩
        rw [show (List.replicate 1 l).flatten = l by simp] at q
        exact q
      · by_cases h2 : l = []
        · subst h2
          rw [if_pos (by rw [S_len]; simp)]
          refine ⟨.str _, H, I, ⟨_, rfl⟩, ?_⟩
          rw [show (List.replicate k ([] : List Nat)).flatten = [] by simp] at q
          exact q
        · have h3 : ((k : Int) == 1 || (S l).length == 0) = false := by
            rw [S_len, Bool.or_eq_false_iff]
            refine ⟨?_, ?_⟩
            · rw [beq_eq_false_iff_ne]
              omega
            · rw [beq_eq_false_iff_ne]
              exact fun z => h2 (List.length_eq_zero_iff.mp z)
          rw [h3, if_neg Bool.false_ne_true]
          have fold : ∀ (k : Nat) (a : List Nat), (List.replicate k l.toArray).foldl (· ++ ·) a.toArray = (a ++ (List.replicate k l).flatten).toArray := by
            intro k
            induction k with
            | zero => intro a; simp
            | succ k ih =>
              intro a
              rw [List.replicate_succ, List.replicate_succ, List.foldl_cons, List.flatten_cons]
              rw [show a.toArray ++ l.toArray = (a ++ l).toArray by simp, ih, List.append_assoc]
          have e : (⟨(List.replicate ((k : Nat) : Int).toNat (S l).cps).foldl (· ++ ·) #[]⟩ : Str) = S (List.replicate k l).flatten := by
            have := fold k []
            rw [List.nil_append] at this
            rw [Int.toNat_natCast]
            exact congrArg (fun x => (⟨x⟩ : Str)) this
          rw [e]
          refine ⟨?_, .str _, H, I.tok _, ⟨_, rfl⟩, q⟩
          rw [S_len]
          have : (List.replicate k l).flatten.length = k * l.length := by simp
          rw [this, Nat.mul_comm]
          exact hz
end
section
variable {X : Cx}
/-- what the kit's isinstance asks of the class of an exception -/
structure IsiE (K : PySem.W.Frag) (C : Addr) : Prop where
  hcl : (PySem.W.clsIn K C).isSome = true
  hga : PySem.W.findIn K (.ref C) "__getattribute__" = some (some (.builtin "BaseException.__getattribute__"))
  hgt : PySem.W.findIn K (.ref C) "__getattr__" = some none
  hsub : PySem.W.subIn K (.ref C) (.type "BaseException") = some true
  ha : PySem.W.findIn K (.ref C) "__class__" = some (some (.builtin "object.__class__"))
  hn : PySem.W.specialIn K (.builtin "object.__class__") "__get__" = some (some (.builtin "getset_descriptor.__get__"))
  htk : PySem.W.takesIn K (.builtin "object.__class__") = some true
  hm : PySem.W.mroIn K C (.type "object") = some true
theorem inst_e {a C : Addr} {oe : Obj} {d : Option Addr} {pn pins : List (Addr × Obj)} {σ : L2.St} {H : Hp} {s : Shared} (hz : Zc (.ref C) d oe) (hf : ∃ vs, oe.data = .fields vs) {dd : Addr} {v : V} (ed : d = some dd) (I : L2.Inv (X.suite a ((a, oe) :: pn)) pins σ H s) (ea : H dd = some (.xd [(("line" : Str), v)])) :
    ∃ od, PySem.W.InstAt s.heap a oe C od := by
  subst ed
  obtain ⟨ha, _⟩ := I.pin (a, oe) (List.mem_append_left _ List.mem_cons_self)
  obtain ⟨vs, hd⟩ := hf
  have hx : ObjOk X.prog X.w H s.heap dd (.xd [(("line" : Str), v)]) := I.hok dd _ ea
  obtain ⟨mA, hns, hr⟩ := hx
  obtain ⟨od, ho, hl⟩ := lookIn_ns hns
  exact ⟨some od, ha, hz.1, by unfold PySem.W.notCls; rw [hd] <;> rfl, by rw [hz.2]; exact ho⟩
theorem call_isiE {a C : Addr} {oe : Obj} {cls : Value} {d : Option Addr} {pn : List (Addr × Obj)} (hz : Zc cls d oe) (hf : ∃ vs, oe.data = .fields vs) (F : IsiE X.K C) :
    CallR (X.suite a ((a, oe) :: pn)) (.builtin "isinstance") (fun xs H Q => ∃ (c : V) (u : Value) (b : Bool) (dd : Addr) (v : V), xs = [.ref a, c] ∧ cls = .ref C ∧ d = some dd ∧ H dd = some (.xd [(("line" : Str), v)]) ∧ ClsV c u ∧ PySem.W.kitOne X.K (.ref C) u = some b ∧ Q (.bl b) H) := by
  intro pins s σ H xs us Q I r h
  obtain ⟨c, u, b, dd, v, rfl, ec, ed, ea, k, e, q⟩ := h
  subst ec
  obtain ⟨u1, u2, rfl, r1, r2⟩ := vals2 r
  cases (show u1 = Value.ref a from r1)
  cases k.eq r2
  obtain ⟨od, J⟩ := inst_e hz hf ed I ea
  exact PySem.W.kia_one (PySem.W.kitx_exc F.hcl F.hga F.hgt F.hsub F.ha F.hn F.htk F.hm) I.kIn J e (fun z => nomatch z) fun tk => ⟨.bl b, H, I.tok tk, rfl, q⟩
theorem call_isiET {a C : Addr} {oe : Obj} {cls : Value} {d : Option Addr} {pn : List (Addr × Obj)} (hz : Zc cls d oe) (hf : ∃ vs, oe.data = .fields vs) (F : IsiE X.K C) :
    CallR (X.suite a ((a, oe) :: pn)) (.builtin "isinstance") (fun xs H Q => ∃ (tp : Addr) (cs : List V) (us : List Value) (b : Bool) (dd : Addr) (v : V), xs = [.ref a, .ref tp] ∧ cls = .ref C ∧ d = some dd ∧ H dd = some (.xd [(("line" : Str), v)]) ∧ H tp = some (.tup cs) ∧ Paired ClsV cs us ∧ PySem.W.kitAny X.K (.ref C) us = some b ∧ Q (.bl b) H) := by
  intro pins s σ H xs us Q I r h
  obtain ⟨tp, cs, ws, b, dd, v, rfl, ec, ed, ea, hT, k, e, q⟩ := h
  subst ec
  obtain ⟨u1, u2, rfl, r1, r2⟩ := vals2 r
  cases (show u1 = Value.ref a from r1)
  cases (show u2 = Value.ref tp from r2)
  obtain ⟨od, J⟩ := inst_e hz hf ed I ea
  obtain ⟨_, its, rv, o, h1, h2, n, h3⟩ := (show ObjOk X.prog X.w H s.heap tp (.tup cs) from I.hok tp _ hT)
  have e3 := ClsV.all k rv
  subst e3
  obtain ⟨oc, od2, dt, sl⟩ := o
  simp only at h2 h3
  subst h2 h3
  exact PySem.W.kia_tup (PySem.W.kitx_exc F.hcl F.hga F.hgt F.hsub F.ha F.hn F.htk F.hm) I.kIn J h1 e (fun z => nomatch z) fun tk => ⟨.bl b, H, I.tok tk, rfl, q⟩
end
end FL

set_option Elab.async false
set_option linter.all false
set_option maxRecDepth 100000
set_option maxHeartbeats 1000000
namespace FL
open PySem PySem.Spec PyProof.Rows L2

/-! ### data that never changes: None, bools, ints, texts, tuples of these -/
mutual
def Rp (K : PySem.W.Frag) (H : Hp) : PyData → V → Prop
  | .none, v => v = .non
  | .bool b, v => v = .bl b
  | .int i, v => v = .int i
  | .str x, v => v = .str x
  | .tuple ds, v => ∃ a xs, v = .ref a ∧ SqT K H a xs ∧ RpAll K H ds xs
  | .list _, _ => False
  | .dict _, _ => False
def RpAll (K : PySem.W.Frag) (H : Hp) : List PyData → List V → Prop
  | [], xs => xs = []
  | d :: ds, xs => ∃ v vs, xs = v :: vs ∧ Rp K H d v ∧ RpAll K H ds vs
end
/-- the tuples stand -/
def Tk (K : PySem.W.Frag) (H H' : Hp) : Prop := ∀ a xs, SqT K H a xs → SqT K H' a xs
theorem Tk.same {K : PySem.W.Frag} {H H' : Hp} (h : Same H H') : Tk K H H' := fun a xs x => by
  rcases x with (x | ⟨o, x⟩) | x
  · exact .inl (.inl (h _ _ x))
  · exact .inl (.inr ⟨o, h _ _ x⟩)
  · exact .inr x
theorem Tk.but {K : PySem.W.Frag} {H H' : Hp} {c : Addr} {l : List V} (h : But c H H') (hc : H c = some (.lst l)) : Tk K H H' := fun a xs x => by
  rcases x with (x | ⟨o, x⟩) | x
  · exact .inl (.inl (h _ _ (fun e => by rw [e, hc] at x; cases x) x))
  · exact .inl (.inr ⟨o, h _ _ (fun e => by rw [e, hc] at x; cases x) x⟩)
  · exact .inr x
theorem Tk.mut {K : PySem.W.Frag} {H : Hp} {c : Addr} {l : List V} {o : HO} (hc : H c = some (.lst l)) : Tk K H (upd H c o) := Tk.but (But.refl c H).put hc
theorem Tk.trans {K : PySem.W.Frag} {H H1 H2 : Hp} (a : Tk K H H1) (b : Tk K H1 H2) : Tk K H H2 := fun x xs h => b x xs (a x xs h)
mutual
theorem Rp.tk {K : PySem.W.Frag} {H H' : Hp} (t : Tk K H H') : ∀ (d : PyData) (v : V), Rp K H d v → Rp K H' d v
  | .none, _, h => h
  | .bool _, _, h => h
  | .int _, _, h => h
  | .str _, _, h => h
  | .tuple ds, v, h => by
    obtain ⟨a, xs, e, s, r⟩ := h
    exact ⟨a, xs, e, t _ _ s, RpAll.tk t ds xs r⟩
  | .list _, _, h => h
  | .dict _, _, h => h
theorem RpAll.tk {K : PySem.W.Frag} {H H' : Hp} (t : Tk K H H') : ∀ (ds : List PyData) (xs : List V), RpAll K H ds xs → RpAll K H' ds xs
  | [], _, h => h
  | d :: ds, xs, h => by
    obtain ⟨v, vs, e, r, rs⟩ := h
    exact ⟨v, vs, e, Rp.tk t d v r, RpAll.tk t ds vs rs⟩
end
theorem RpAll.len {K : PySem.W.Frag} {H : Hp} : ∀ {ds : List PyData} {xs : List V}, RpAll K H ds xs → xs.length = ds.length
  | [], _, h => by rw [show _ = [] from h]; rfl
  | d :: ds, xs, h => by
    obtain ⟨v, vs, rfl, _, rs⟩ := h
    simp [RpAll.len rs]
theorem RpAll.snoc {K : PySem.W.Frag} {H : Hp} {d : PyData} {v : V} (r : Rp K H d v) : ∀ {ds : List PyData} {xs : List V}, RpAll K H ds xs → RpAll K H (ds ++ [d]) (xs ++ [v])
  | [], _, h => by rw [show _ = [] from h]; exact ⟨v, [], rfl, r, rfl⟩
  | e :: ds, xs, h => by
    obtain ⟨u, us, rfl, q, qs⟩ := h
    exact ⟨u, us ++ [v], rfl, q, RpAll.snoc r qs⟩
theorem RpAll.get {K : PySem.W.Frag} {H : Hp} : ∀ {ds : List PyData} {xs : List V} {i : Nat} {d : PyData}, RpAll K H ds xs → ds[i]? = some d → ∃ v, xs[i]? = some v ∧ Rp K H d v
  | [], _, _, _, _, e => by simp at e
  | d :: ds, xs, 0, _, h, e => by
    obtain ⟨v, vs, rfl, r, _⟩ := h
    simp at e; subst e
    exact ⟨v, rfl, r⟩
  | d :: ds, xs, i + 1, _, h, e => by
    obtain ⟨v, vs, rfl, _, rs⟩ := h
    obtain ⟨w, e1, r⟩ := RpAll.get (i := i) rs (by simpa using e)
    exact ⟨w, by simpa using e1, r⟩
mutual
theorem Rp.dp {K : PySem.W.Frag} {H : Hp} : ∀ (d : PyData) (v : V), Rp K H d v → Dp K H v d
  | .none, v, h => by rw [show v = .non from h]; exact .non
  | .bool b, v, h => by rw [show v = .bl b from h]; exact .bl b
  | .int i, v, h => by rw [show v = .int i from h]; exact .int i
  | .str x, v, h => by rw [show v = .str x from h]; exact .str x
  | .tuple ds, v, h => by
    obtain ⟨a, xs, rfl, s, r⟩ := h
    exact .tup s (RpAll.dp ds xs r)
  | .list _, _, h => h.elim
  | .dict _, _, h => h.elim
theorem RpAll.dp {K : PySem.W.Frag} {H : Hp} : ∀ (ds : List PyData) (xs : List V), RpAll K H ds xs → DpAll K H xs ds
  | [], xs, h => by rw [show xs = [] from h]; exact .nil
  | d :: ds, xs, h => by
    obtain ⟨v, vs, rfl, r, rs⟩ := h
    exact .cons (Rp.dp d v r) (RpAll.dp ds vs rs)
end
theorem But.back {c D : Addr} {H H1 : Hp} {o : HO} (b : But c H H1) (hc : H1 c = some o) (n : H1 D = none) : H D = none ∧ D ≠ c := by
  have ne : D ≠ c := fun e => by rw [e, hc] at n; cases n
  refine ⟨?_, ne⟩
  cases q : H D with
  | none => rfl
  | some u => rw [b _ _ ne q] at n; cases n
theorem But.mut {c p : Addr} {H H1 : Hp} {o : HO} (a : But c H H1) (n : H p = none) : But c H (upd H1 p o) := fun x u k h => by
  rw [upd_ne (ne_of_none h n)]; exact a x u k h
theorem CurD.upd {H : Hp} {c a D : Addr} {ns : List Int} {p acc k : Int} {o : HO} (x : CurD H c a ns p acc k) (h1 : D ≠ c) (h2 : D ≠ a) : CurD (upd H D o) c a ns p acc k :=
  ⟨by rw [upd_ne h1.symm]; exact x.hc, by rw [upd_ne h2.symm]; exact x.ha, x.hp, x.hacc⟩
/-- a new object; an object that came new behind it changes -/
theorem Cur.new {H : Hp} {c a D : Addr} {ns : List Int} {o : HO} (x : Cur H c a ns) (n : H D = none) : Cur (upd H D o) c a ns := x.keep fun b u e => by
  rw [upd_ne (ne_of_none e n)]; exact e
theorem Cur.ne {H : Hp} {c a D : Addr} {ns : List Int} (x : Cur H c a ns) (n : H D = none) : D ≠ c ∧ D ≠ a := by
  obtain ⟨p, acc, k, d⟩ := x
  exact ⟨fun e => (by rw [e, d.hc] at n; cases n), fun e => (by rw [e, d.ha] at n; cases n)⟩
theorem Cur.upd {H : Hp} {c a D : Addr} {ns : List Int} {o : HO} (x : Cur H c a ns) (h : D ≠ c ∧ D ≠ a) : Cur (upd H D o) c a ns := by
  obtain ⟨p, acc, k, d⟩ := x
  exact ⟨p, acc, k, d.upd h.1 h.2⟩
theorem Cur.at {H : Hp} {c a : Addr} {ns : List Int} (x : Cur H c a ns) : ∃ l, H c = some (.lst l) := by
  obtain ⟨p, acc, k, d⟩ := x
  exact ⟨_, d.hc⟩
theorem Cur.back {c a D : Addr} {ns : List Int} {H H1 : Hp} (x : Cur H1 c a ns) (b : But c H H1) (n : H1 D = none) : H D = none := by
  obtain ⟨l, h⟩ := x.at
  exact (b.back h n).1
theorem Cur.tk {c a : Addr} {ns : List Int} {K : PySem.W.Frag} {H H1 : Hp} (x : Cur H c a ns) (b : But c H H1) : Tk K H H1 := by
  obtain ⟨l, h⟩ := x.at
  exact Tk.but b h

/-! ### the law's values -/
/-- the letters that the law draws from -/
def lawLetters : List Nat := [97, 98, 99, 32, 120, 121, 122, 65, 66, 90]
mutual
def Good : Nat → PyData → Prop
  | _, .none => True
  | _, .bool _ => True
  | _, .int i => i.natAbs < 10 ^ 41
  | _, .str x => x.cps.size ≤ 6 ∧ ∀ c ∈ x.cps.toList, c ∈ lawLetters
  | n, .tuple ds => ∃ m, n = m + 1 ∧ ds.length ≤ 4 ∧ GoodAll m ds
  | _, .list _ => False
  | _, .dict _ => False
def GoodAll : Nat → List PyData → Prop
  | _, [] => True
  | n, d :: ds => Good n d ∧ GoodAll n ds
end
theorem GoodAll.snoc {n : Nat} {d : PyData} (h : Good n d) : ∀ {ds : List PyData}, GoodAll n ds → GoodAll n (ds ++ [d])
  | [], _ => ⟨h, True.intro⟩
  | _ :: _, q => ⟨q.1, GoodAll.snoc h q.2⟩

theorem none_left {P : Program} {w : World} {K : PySem.W.Frag} {mg : Str → Option Value} {base : Heap} {b : Bool} {f : Addr} {fd : FuncData} {ps : List Str} {sp : Sp} (hl : ∀ vs H Q E, ¬ sp vs H Q E) : FnOk P w K mg base CX0 0 f fd ps sp :=
  ⟨fun vs H Q E h => absurd h (hl vs H Q E), fun A outer s H args us vs Q E _ _ _ _ h => absurd h (hl vs H Q E)⟩
end FL

set_option Elab.async false
set_option linter.all false
set_option maxRecDepth 10000
set_option maxHeartbeats 1000000
/-! ### the plain law: what is written, what is read, over lists of codes -/
namespace FL
open PySem PySem.NumText

/-! #### integers -/
def dg (n : Nat) : List Nat := (Nat.toDigits 10 n).map Char.toNat
def ic (i : Int) : List Nat := if i < 0 then 45 :: dg i.natAbs else dg i.natAbs
def isDig (c : Nat) : Bool := decide (48 ≤ c) && decide (c ≤ 57)
theorem isDig_iff {c : Nat} : isDig c = true ↔ 48 ≤ c ∧ c ≤ 57 := by simp [isDig]
theorem all_digits {t : List Nat} : t.all isDig = true ↔ AllDigits t := by
  rw [List.all_eq_true]
  exact ⟨fun h c hc => isDig_iff.mp (h c hc), fun h c hc => isDig_iff.mpr (h c hc)⟩
theorem dg_digits (n : Nat) : AllDigits (dg n) := by
  intro c hc
  obtain ⟨ch, hch, e⟩ := List.mem_map.mp hc
  rw [← e]
  exact PyProof.Rows.digit_range (Nat.isDigit_of_mem_toDigits (by decide) (by decide) hch)
theorem dg_val (n : Nat) : digitsVal (dg n) = n := PySem.W.KIN.val_back n
theorem dg_ne (n : Nat) : dg n ≠ [] := by
  intro e
  have h := PySem.toDigits_len_ge 10 n
  rw [List.map_eq_nil_iff.mp e] at h
  exact absurd h (by decide)
theorem dg_len {n k : Nat} (hk : 1 ≤ k) (h : n < 10 ^ k) : (dg n).length ≤ k := by
  unfold dg
  rw [List.length_map]
  exact PySem.toDigits_len_pow (by decide) hk h
/-- a digit list without a leading nought is the text of its value -/
theorem dg_back {t : List Nat} (h : AllDigits t) (h0 : t ≠ []) (h1 : t.length = 1 ∨ t.head? ≠ some 48) : dg (digitsVal t) = t := by
  cases t with
  | nil => exact absurd rfl h0
  | cons c r =>
    have e := toDigits_digitsVal r.length (c :: r) rfl h (by
      rcases h1 with h1 | h1
      · left
        simpa using h1
      · right
        refine ⟨c, r, rfl, ?_⟩
        have := h.head
        have : c ≠ 48 := fun z => h1 (by rw [z]; rfl)
        omega)
    unfold dg
    rw [e, List.map_map]
    have : ∀ l : List Nat, AllDigits l → l.map (Char.toNat ∘ Char.ofNat) = l := by
      intro l
      induction l with
      | nil => intro _; rfl
      | cons a l ih =>
        intro hl
        have ha := hl.head
        rw [List.map_cons, ih hl.tail]
        congr 1
        show (Char.ofNat a).toNat = a
        have : a.isValidChar := Or.inl (by omega)
        simp [Char.ofNat, this, Char.toNat, Char.ofNatAux]
    exact this _ h
theorem digitsVal_lt : ∀ (t : List Nat), AllDigits t → digitsVal t < 10 ^ t.length := by
  intro t
  have key : ∀ (t : List Nat) (a k : Nat), AllDigits t → a < 10 ^ k → t.foldl (fun acc c => acc * 10 + (c - 48)) a < 10 ^ (k + t.length) := by
    intro t
    induction t with
    | nil => intro a k _ h; simpa using h
    | cons c r ih =>
      intro a k h ha
      have hc := h.head
      have : a * 10 + (c - 48) < 10 ^ (k + 1) := by
        rw [Nat.pow_succ]
        omega
      have := ih _ (k + 1) h.tail this
      rw [List.length_cons, show k + (r.length + 1) = k + 1 + r.length by omega]
      exact this
  intro h
  have := key t 0 0 h (by decide)
  rw [Nat.zero_add] at this
  exact this
/-- the text of a positive number has no leading nought -/
theorem dg_head {n : Nat} (h : 0 < n) : (dg n).head? ≠ some 48 := by
  intro e
  cases q : dg n with
  | nil => exact dg_ne n q
  | cons c r =>
    rw [q] at e
    have hc : c = 48 := by simpa using e
    subst hc
    have hv := dg_val n
    rw [q, digitsVal_zero] at hv
    have hd : AllDigits r := by
      have := dg_digits n
      rw [q] at this
      exact this.tail
    have lt := digitsVal_lt r hd
    rw [hv] at lt
    by_cases hr : r = []
    · subst hr
      simp at lt
      omega
    · have : (dg n).length ≤ r.length := dg_len (by cases r with | nil => exact absurd rfl hr | cons _ _ => simp) lt
      rw [q, List.length_cons] at this
      omega
theorem str_nat (n : Nat) : (PySem.Str.ofString (toString ((n : Nat) : Int))) = S (dg n) := by
  rw [← S_of (PySem.Str.ofString _), PySem.W.KIN.signs_num]
  rfl
theorem str_int (i : Int) : (PySem.Str.ofString (toString i)) = S (ic i) := by
  unfold ic
  by_cases h : i < 0
  · rw [if_pos h]
    cases i with
    | ofNat m => exact absurd h (by simp)
    | negSucc m =>
      rw [← S_of (PySem.Str.ofString _)]
      congr 1
      show _ = 45 :: dg (m + 1)
      rw [PyProof.Rows.signs_ofString]
      show (("-" : String) ++ Nat.repr (m + 1)).toList.map Char.toNat = _
      rw [String.toList_append, List.map_append, Nat.toList_repr]
      rfl
  · rw [if_neg h]
    obtain ⟨m, rfl⟩ := Int.eq_ofNat_of_zero_le (Int.not_lt.mp h)
    exact str_nat m

/-! #### words, claims -/
def isSep (c : Nat) : Bool := c == 32 || c == 40 || c == 41 || c == 34
def isLet (c : Nat) : Bool := decide (97 ≤ c ∧ c ≤ 122) || decide (65 ≤ c ∧ c ≤ 90) || c == 32
/-- read_natural, read_integer, read_word -/
def rNat (t : List Nat) : Option Nat := if t = [] ∨ (1 < t.length ∧ t.head? = some 48) ∨ ¬ t.all isDig = true then none else some (digitsVal t)
def rInt (t : List Nat) : Option Int :=
  if t.head? = some 45 then (match rNat t.tail with | some n => if n = 0 then none else some (-(n : Int)) | none => none)
  else (match rNat t with | some n => some (n : Int) | none => none)
def rWord (t : List Nat) : Option PyData :=
  if t = [45] then some .none else if t = [84] then some (.bool true) else if t = [70] then some (.bool false) else (rInt t).map .int
mutual
def wr : PyData → List Nat
  | .none => [45]
  | .bool b => if b then [84] else [70]
  | .int i => ic i
  | .str x => 34 :: x.cps.toList ++ [34]
  | .tuple ds => 40 :: jn [32] (wrs ds) ++ [41]
  | .list _ => []
  | .dict _ => []
def wrs : List PyData → List (List Nat)
  | [] => []
  | d :: ds => wr d :: wrs ds
end
theorem wrs_map : ∀ ds : List PyData, wrs ds = ds.map wr
  | [] => rfl
  | d :: ds => by rw [wrs, wrs_map ds]; rfl
theorem rNat_dg (n : Nat) : rNat (dg n) = some n := by
  unfold rNat
  rw [if_neg, dg_val]
  rintro (h | ⟨h1, h2⟩ | h)
  · exact dg_ne n h
  · by_cases h0 : 0 < n
    · exact dg_head h0 h2
    · have : n = 0 := by omega
      subst this
      exact absurd h1 (by decide)
  · exact h (all_digits.mpr (dg_digits n))
theorem rInt_ic (i : Int) : rInt (ic i) = some i := by
  unfold rInt ic
  by_cases h : i < 0
  · rw [if_pos h, if_pos (show (45 :: dg i.natAbs).head? = some 45 from rfl), List.tail_cons, rNat_dg]
    show (if i.natAbs = 0 then none else some (-(i.natAbs : Int))) = some i
    rw [if_neg (by omega)]
    congr 1
    omega
  · rw [if_neg h, if_neg, rNat_dg]
    · show some (i.natAbs : Int) = some i
      congr 1
      omega
    · intro e
      cases q : dg i.natAbs with
      | nil => exact dg_ne _ q
      | cons c r =>
        rw [q] at e
        have hc : c = 45 := by simpa using e
        have := dg_digits i.natAbs c (by rw [q]; exact List.mem_cons_self ..)
        omega
/-- the text of an int is a word: no separator, not one of the three signs -/
theorem ic_signs (i : Int) : ∀ c ∈ ic i, c = 45 ∨ (48 ≤ c ∧ c ≤ 57) := by
  intro c hc
  unfold ic at hc
  split at hc
  · rcases List.mem_cons.mp hc with h | h
    · exact .inl h
    · exact .inr (dg_digits _ c h)
  · exact .inr (dg_digits _ c hc)
theorem ic_ne (i : Int) : ic i ≠ [] ∧ ic i ≠ [45] ∧ ic i ≠ [84] ∧ ic i ≠ [70] := by
  refine ⟨?_, ?_, ?_, ?_⟩
  · unfold ic
    split
    · exact List.cons_ne_nil _ _
    · exact dg_ne _
  · unfold ic
    split
    · intro e
      injection e with _ e
      exact dg_ne _ e
    · intro e
      have := dg_digits i.natAbs 45 (by rw [e]; exact List.mem_cons_self ..)
      omega
  · intro e
    have := ic_signs i 84 (by rw [e]; exact List.mem_cons_self ..)
    omega
  · intro e
    have := ic_signs i 70 (by rw [e]; exact List.mem_cons_self ..)
    omega
theorem rWord_ic (i : Int) : rWord (ic i) = some (.int i) := by
  obtain ⟨_, h1, h2, h3⟩ := ic_ne i
  unfold rWord
  rw [if_neg h1, if_neg h2, if_neg h3, rInt_ic]
  rfl
/-- what a read int's text is -/
theorem ic_back {t : List Nat} {i : Int} (h : rInt t = some i) : ic i = t := by
  have nat : ∀ {t : List Nat} {n : Nat}, rNat t = some n → dg n = t := by
    intro t n h
    unfold rNat at h
    split at h
    · cases h
    · rename_i hc
      have e : digitsVal t = n := Option.some.inj h
      rw [← e]
      refine dg_back (all_digits.mp ?_) (fun z => hc (.inl z)) ?_
      · cases q : t.all isDig with
        | true => rfl
        | false => exact absurd (.inr (.inr (by simp [q]))) hc
      · by_cases h1 : t.length = 1
        · exact .inl h1
        · refine .inr fun z => hc (.inr (.inl ⟨?_, z⟩))
          have : t ≠ [] := fun z => hc (.inl z)
          have : 0 < t.length := List.length_pos_iff.mpr this
          omega
  unfold rInt at h
  split at h
  · rename_i h0
    cases q : rNat t.tail with
    | none => rw [q] at h; cases h
    | some n =>
      rw [q] at h
      simp only at h
      split at h
      · cases h
      · rename_i hn
        have e : -(n : Int) = i := Option.some.inj h
        subst e
        unfold ic
        rw [if_pos (by omega), Int.natAbs_neg, Int.natAbs_natCast, nat q]
        cases t with
        | nil => simp at h0
        | cons c r =>
          have : c = 45 := by simpa using h0
          subst this
          rfl
  · cases q : rNat t with
    | none => rw [q] at h; cases h
    | some n =>
      rw [q] at h
      have e : (n : Int) = i := Option.some.inj h
      subst e
      unfold ic
      rw [if_neg (by omega), Int.natAbs_natCast, nat q]

/-! #### the reader: the levels (the inmost first), the rest of the text -/
def push (L : List (List PyData)) (d : PyData) : List (List PyData) := match L with
  | top :: ls => (top ++ [d]) :: ls
  | [] => []
/-- one turn -/
inductive Turn where
  | fail | go (L : List (List PyData)) (t : List Nat)
def turn (L : List (List PyData)) (c : Nat) (r : List Nat) : Turn :=
  if c = 40 then .go ([] :: L) r
  else if c = 41 then (match L with | top :: nx :: ls => .go (push (nx :: ls) (.tuple top)) r | _ => .fail)
  else if c = 32 then .go L r
  else if c = 34 then (match r.dropWhile isLet with | 34 :: r' => .go (push L (.str (S (r.takeWhile isLet)))) r' | _ => .fail)
  else (match rWord ((c :: r).takeWhile fun x => !isSep x) with | some d => .go (push L d) ((c :: r).dropWhile fun x => !isSep x) | none => .fail)
def rd : Nat → List (List PyData) → List Nat → Option (List (List PyData))
  | _, L, [] => some L
  | 0, _, _ :: _ => none
  | n + 1, L, c :: r => match turn L c r with | .fail => none | .go L' t => rd n L' t
theorem rd_turn (n : Nat) (L : List (List PyData)) (c : Nat) (r : List Nat) : rd (n + 1) L (c :: r) = (match turn L c r with | .fail => none | .go L' t => rd n L' t) := rfl
theorem dropWhile_len {p : Nat → Bool} : ∀ l : List Nat, (l.dropWhile p).length ≤ l.length
  | [] => Nat.le_refl _
  | c :: r => by
    rw [List.dropWhile_cons]
    split
    · exact Nat.le_trans (dropWhile_len r) (Nat.le_succ _)
    · exact Nat.le_refl _
theorem turn_len {L L' : List (List PyData)} {c : Nat} {r t : List Nat} (h : turn L c r = .go L' t) : t.length ≤ r.length := by
  unfold turn at h
  by_cases h1 : c = 40
  · rw [if_pos h1] at h
    injection h with _ h
    rw [← h]; exact Nat.le_refl _
  rw [if_neg h1] at h
  by_cases h2 : c = 41
  · rw [if_pos h2] at h
    match L, h with
    | _ :: _ :: _, h =>
      injection h with _ h
      rw [← h]; exact Nat.le_refl _
  rw [if_neg h2] at h
  by_cases h3 : c = 32
  · rw [if_pos h3] at h
    injection h with _ h
    rw [← h]; exact Nat.le_refl _
  rw [if_neg h3] at h
  by_cases h4 : c = 34
  · rw [if_pos h4] at h
    split at h
    · rename_i r' e
      injection h with _ h
      have := dropWhile_len (p := isLet) r
      rw [e, List.length_cons] at this
      rw [← h]; omega
    · cases h
  rw [if_neg h4] at h
  split at h
  · injection h with _ h
    have e : isSep c = false := by
      unfold isSep
      simp [h1, h2, h3, h4]
    rw [List.dropWhile_cons, if_pos (by rw [e]; rfl)] at h
    rw [← h]
    exact dropWhile_len r
  · cases h
theorem rd_fuel : ∀ (n m : Nat) (L : List (List PyData)) (t : List Nat), t.length ≤ n → t.length ≤ m → rd n L t = rd m L t
  | n, m, L, [], _, _ => by rw [rd, rd]
  | 0, _, _, _ :: _, h, _ => absurd h (by simp)
  | _ + 1, 0, _, _ :: _, _, h => absurd h (by simp)
  | n + 1, m + 1, L, c :: r, h1, h2 => by
    rw [rd_turn, rd_turn]
    cases e : turn L c r with
    | fail => rfl
    | go L' t =>
      have := turn_len e
      rw [List.length_cons] at h1 h2
      exact rd_fuel n m L' t (by omega) (by omega)
def RD (L : List (List PyData)) (t : List Nat) : Option (List (List PyData)) := rd t.length L t
theorem RD_nil (L : List (List PyData)) : RD L [] = some L := by unfold RD; rw [rd]
theorem RD_cons (L : List (List PyData)) (c : Nat) (r : List Nat) : RD L (c :: r) = (match turn L c r with | .fail => none | .go L' t => RD L' t) := by
  show rd (r.length + 1) L (c :: r) = _
  rw [rd_turn]
  cases e : turn L c r with
  | fail => rfl
  | go L' t => exact rd_fuel _ _ _ _ (turn_len e) (Nat.le_refl _)
end FL

set_option Elab.async false
set_option linter.all false
set_option maxRecDepth 100000
set_option maxHeartbeats 1000000
namespace FL
open PySem PySem.Spec PyProof.Rows L2 PySem.NumText

/-! ### rules of one's own -/
section
variable {X : Cx}
/-- x is True, x is False: x of any kind -/
theorem op_isB : OpR X (compareOp .Is) (fun x y H Q => ∃ b : Bool, y = .bl b ∧ Q (.bl (decide (x = .bl b))) H) := by
  intro pins s σ H x y v u Q I rx ry h
  obtain ⟨b, rfl, q⟩ := h
  cases (show u = Value.bool b from ry)
  have fin : ∀ k : Bool, decide (x = .bl b) = k → EP X pins σ Q (.bool k) s := fun k e => ⟨.bl k, H, I, rfl, by rw [← e]; exact q⟩
  cases x with
  | non => cases (show v = Value.none from rx); exact wpAny_is_plain rfl (fin _ rfl)
  | bl c =>
    cases (show v = Value.bool c from rx)
    refine wpAny_is_plain rfl (fin _ ?_)
    cases b <;> cases c <;> rfl
  | int i => obtain ⟨t, rfl⟩ := (show ∃ t, v = Value.int i t from rx); exact wpAny_is_plain rfl (fin _ rfl)
  | str z => obtain ⟨t, rfl⟩ := (show ∃ t, v = Value.str z t from rx); exact wpAny_is_plain rfl (fin _ rfl)
  | byt z => obtain ⟨t, rfl⟩ := (show ∃ t, v = Value.bytes z t from rx); exact wpAny_is_plain rfl (fin _ rfl)
  | flt z => obtain ⟨t, rfl⟩ := (show ∃ t, v = Value.float z t from rx); exact wpAny_is_plain rfl (fin _ rfl)
  | ref a => cases (show v = Value.ref a from rx); exact wpAny_is_plain rfl (fin _ rfl)
  | ty n => cases (show v = Value.type n from rx); exact wpAny_is_plain rfl (fin _ rfl)
theorem op_notB : OpR X (compareOp .IsNot) (fun x y H Q => ∃ b : Bool, y = .bl b ∧ Q (.bl (!decide (x = .bl b))) H) := by
  intro pins s σ H x y v u Q I rx ry h
  obtain ⟨b, rfl, q⟩ := h
  cases (show u = Value.bool b from ry)
  have fin : ∀ k : Bool, decide (x = .bl b) = k → EP X pins σ Q (.bool (!k)) s := fun k e => ⟨.bl (!k), H, I, rfl, by rw [← e]; exact q⟩
  cases x with
  | non => cases (show v = Value.none from rx); exact wpAny_isNot_plain rfl (fin false rfl)
  | bl c =>
    cases (show v = Value.bool c from rx)
    refine wpAny_isNot_plain rfl (fin _ ?_)
    cases b <;> cases c <;> rfl
  | int i => obtain ⟨t, rfl⟩ := (show ∃ t, v = Value.int i t from rx); exact wpAny_isNot_plain rfl (fin false rfl)
  | str z => obtain ⟨t, rfl⟩ := (show ∃ t, v = Value.str z t from rx); exact wpAny_isNot_plain rfl (fin false rfl)
  | byt z => obtain ⟨t, rfl⟩ := (show ∃ t, v = Value.bytes z t from rx); exact wpAny_isNot_plain rfl (fin false rfl)
  | flt z => obtain ⟨t, rfl⟩ := (show ∃ t, v = Value.float z t from rx); exact wpAny_isNot_plain rfl (fin false rfl)
  | ref a => cases (show v = Value.ref a from rx); exact wpAny_isNot_plain rfl (fin false rfl)
  | ty n => cases (show v = Value.type n from rx); exact wpAny_isNot_plain rfl (fin false rfl)
/-- s.rjust(n, fill) -/
theorem mt_rjustF : MtR X "str.rjust" (fun x xs H Q => ∃ (a : Str) (i : Int) (f : Str), x = .str a ∧ xs = [.int i, .str f] ∧ PadOk i = true ∧ f.length = 1 ∧ Q (.str (Txt.rjustF a i (f.cps.getD 0 0))) H) := by
  intro pins s σ H x xs v us Q I rx rv h
  obtain ⟨a, i, f, rfl, rfl, hp, hf, q⟩ := h
  obtain ⟨t, rfl⟩ := rx
  obtain ⟨u1, u2, rfl, ⟨t1, rfl⟩, ⟨t2, rfl⟩⟩ := vals2 rv
  exact rjust_fill hp hf fun t' k => ⟨.str _, H, I.tok _, ⟨_, rfl⟩, q⟩
end
/-- for c in text -/
theorem for_txt {z : Str} {g : TG} {tb : TS} {D : Ends} {σ : L2.St} {H : Hp} (Pv : Nat → L2.St → Hp → Prop) (h0 : Pv 0 σ H)
    (hs : ∀ i c σ H, z.cps[i]? = some c → Pv i σ H → g (.str ⟨#[c]⟩) σ H fun σ2 H2 => tb { D with nx := Pv (i + 1), ct := Pv (i + 1), bk := D.nx } σ2 H2) (hd : ∀ σ H, Pv z.cps.size σ H → D.nx σ H) :
    ∃ W : Nat → Nat → L2.St → Hp → Prop, (∃ m, W 0 m σ H) ∧ ∀ i m σ H, W i m σ H →
      ((Its z).stop i H ∧ D.nx σ H) ∨ ((Its z).go i H ∧ ∃ N : L2.St → Hp → Prop, (∀ σ' H', N σ' H' → ∃ m', m' < m ∧ W (i + 1) m' σ' H') ∧ ∀ x H', (Its z).yld i H x H' → g x σ H' fun σ2 H2 => tb { D with nx := N, ct := N, bk := D.nx } σ2 H2) := by
  refine ⟨fun i m σ H => m = z.cps.size - i ∧ i ≤ z.cps.size ∧ Pv i σ H, ⟨z.cps.size, by simp, Nat.zero_le _, h0⟩, ?_⟩
  rintro i m σ H ⟨rfl, hi, p⟩
  by_cases hlt : i < z.cps.size
  · refine .inr ⟨hlt, Pv (i + 1), fun σ' H' p' => ⟨z.cps.size - (i + 1), by omega, rfl, hlt, p'⟩, fun x H' y => ?_⟩
    obtain ⟨rfl, c, hc, rfl⟩ := y
    exact hs i c σ _ hc p
  · have e : i = z.cps.size := by omega
    subst e
    exact .inl ⟨Nat.le_refl _, hd σ H p⟩
/-! ### slices of texts -/
theorem cut_from (l : List Nat) (i : Nat) : cutS (S l) (some (i : Int)) none = S (l.drop i) := by
  show S _ = S _
  congr 1
  rw [HT.sIx_nat, HT.sIx_none]
  show (l.drop (min i l.length)).take (l.length - min i l.length) = l.drop i
  by_cases h : i ≤ l.length
  · rw [Nat.min_eq_left h]
    exact List.take_of_length_le (by rw [List.length_drop]; exact Nat.le_refl _)
  · rw [Nat.min_eq_right (by omega), Nat.sub_self, List.take_zero, List.drop_of_length_le (by omega)]
theorem cut_to (l : List Nat) (j : Nat) : cutS (S l) none (some (j : Int)) = S (l.take j) := by
  show S _ = S _
  congr 1
  rw [HT.sIx_nat, HT.sIx_none]
  show (l.drop 0).take (min j l.length - 0) = l.take j
  rw [List.drop_zero, Nat.sub_zero]
  by_cases h : j ≤ l.length
  · rw [Nat.min_eq_left h]
  · rw [Nat.min_eq_right (by omega), List.take_of_length_le (Nat.le_refl _), List.take_of_length_le (by omega)]
theorem cut_in (l : List Nat) (i j : Nat) : cutS (S l) (some (i : Int)) (some (j : Int)) = S ((l.drop i).take (j - i)) := by
  show S _ = S _
  congr 1
  rw [HT.sIx_nat, HT.sIx_nat]
  show (l.drop (min i l.length)).take (min j l.length - min i l.length) = (l.drop i).take (j - i)
  by_cases h : i ≤ l.length
  · rw [Nat.min_eq_left h]
    by_cases h2 : j ≤ l.length
    · rw [Nat.min_eq_left h2]
    · rw [Nat.min_eq_right (by omega), List.take_of_length_le (by rw [List.length_drop]; exact Nat.le_refl _), List.take_of_length_le (by rw [List.length_drop]; omega)]
  · rw [Nat.min_eq_right (show l.length ≤ i by omega), List.drop_of_length_le (Nat.le_refl _), List.drop_of_length_le (show l.length ≤ i by omega), List.take_nil, List.take_nil]
theorem starts_minus (l : List Nat) : Txt.startswith (S l) (S [45]) = decide (l.head? = some 45) := by
  cases l with
  | nil => rfl
  | cons c r =>
    unfold Txt.startswith
    have h1 : decide (0 + (S [45]).length ≤ (S (c :: r)).length) = true := by
      refine decide_eq_true ?_
      show 0 + 1 ≤ r.length + 1
      omega
    rw [h1, Bool.true_and]
    show Builtin.Str.subAt (S (c :: r)) (S [45]) 0 = _
    unfold Builtin.Str.subAt
    show ((c :: r).toArray.extract 0 (0 + 1) == #[45]) = _
    have : (c :: r).toArray.extract 0 (0 + 1) = #[c] := by simp
    rw [this]
    by_cases h : c = 45
    · subst h
      simp
    · simp [h]
theorem log_ok {n : Nat} (h : n < 10 ^ 500) : n.log2 < 1920 := by
  by_cases h0 : n = 0
  · subst h0; decide
  · rw [Nat.log2_lt h0]
    exact Nat.lt_trans h (by decide +kernel)

section
variable {P : Program} {w : World} {K : PySem.W.Frag} {mg : Str → Option Value} {base : Heap}
def spBase : Sp := fun vs H Q _ => vs = [] ∧ Q (.int ((10 ^ 1024 : Nat) : Int)) H
abbrev s_piece_base : Stmt := topS 25
abbrev N_piece_base : List Str := ["base", "_"]
theorem sc_piece_base : FnScope N_piece_base [] (defScope s_piece_base) := ⟨rfl, rfl, rfl, by decide +kernel, rfl, by decide +kernel, by decide +kernel⟩
theorem ok_piece_base {f : Addr} {fd : FuncData} (D : DefAt K mg "piece_base" s_piece_base [] f fd) (z_range : mg "range" = none) : FnOk P w K mg base CX0 1 f fd [] spBase := by
  refine D.F.ok sc_piece_base (fun vs H Q E h => ?_) (fun cdv A outer s H vs Q E hr h => ?_)
  · obtain ⟨rfl, _⟩ := h
    rfl
  obtain ⟨rfl, q⟩ := h
  refine ⟨_, (pss_cons (ps_set (i := 0) sc_piece_base.nd rfl (Or.inl rfl) pe_int)
      (pss_cons (ps_for PassesOwn.never rfl (pi_range1 (by rfl) z_range (pa_cons pe_int pa_nil)) (pg_name (i := 1) sc_piece_base.nd rfl (Or.inl rfl))
        (pss_one (ps_set (i := 0) sc_piece_base.nd rfl (Or.inl rfl) (pe_op op_mulW (pv 0) (pv 0)))))
      (pss_one (ps_ret (pv 0))))), ?_⟩
  refine ⟨10, rfl, by decide, by decide, for_range (lo := 0) (n := 10) (fun i σ H' => ∃ v, σ = [some (.int ((10 ^ (2 ^ i) : Nat) : Int)), v] ∧ H' = H) ⟨none, rfl, rfl⟩ ?_ ?_⟩
  · rintro i σ H' hi ⟨v, rfl, rfl⟩
    have hb : (((10 ^ (2 ^ i) : Nat) : Int)).natAbs < 2 ^ 4000 := by
      rw [Int.natAbs_natCast]
      have h1 : 2 ^ i ≤ 2 ^ 10 := Nat.pow_le_pow_right (by decide) (by omega)
      exact Nat.lt_of_le_of_lt (Nat.pow_le_pow_right (by decide) h1) (by decide +kernel)
    refine ⟨_, rfl, _, rfl, _, _, rfl, rfl, wide_mul hb hb (by decide) (by decide) (by decide), some (.int (0 + i)), ?_, rfl⟩
    dsimp only [List.set]
    rw [← Int.natCast_mul, ← Nat.pow_add, Nat.pow_succ, Nat.mul_two]
  · rintro σ H' ⟨v, rfl, rfl⟩
    exact ⟨_, rfl, q⟩
end
end FL

set_option Elab.async false
set_option linter.all false
set_option maxRecDepth 100000
set_option maxHeartbeats 1000000
/-! ### operations -/
namespace ME
open PySem PySem.Spec PyProof.Rows L2
abbrev R := Option (W × Sto)
def rep (k : Nat) {α : Type} (l : List α) : List α := (List.replicate k l).flatten
def addW (a b : W) (s : Sto) : R := match a, b with
  | .int i, .int j => some (.int (i + j), s)
  | .str x, .str y => if x.length + y.length ≤ sizeLine then some (.str (x ++ y), s) else none
  | .tup xs, .tup ys => if xs ≠ [] ∧ xs.length + ys.length ≤ sizeLine then some (.tup (xs ++ ys), s) else none
  | .ref n, .ref m => match s[n]?, s[m]? with
    | some (.lst xs), some (.lst ys) => if xs.length + ys.length ≤ sizeLine then some (.ref s.length, s ++ [.lst (xs ++ ys)]) else none
    | _, _ => none
  | _, _ => none
def subW (a b : W) (s : Sto) : R := match a, b with
  | .int i, .int j => some (.int (i - j), s)
  | _, _ => none
def mulW (a b : W) (s : Sto) : R := match a, b with
  | .int i, .int j => if i.natAbs < 2 ^ 64 ∨ j.natAbs < 2 ^ 64 ∨ i.natAbs.log2 + j.natAbs.log2 < 1000000 then some (.int (i * j), s) else none
  | .str x, .int k => if 0 ≤ k ∧ k < 2 ^ 30 ∧ x.length * k.toNat ≤ sizeLine then some (.str (rep k.toNat x), s) else none
  | .tup xs, .int k => if xs ≠ [] ∧ xs.length ≤ 1000 ∧ 0 ≤ k ∧ k ≤ 1000 then some (.tup (rep k.toNat xs), s) else none
  | .ref n, .int k => match s[n]? with
    | some (.lst xs) => if -(2 ^ 63) ≤ k ∧ k < 2 ^ 63 ∧ xs.length * k.toNat ≤ sizeLine then some (.ref s.length, s ++ [.lst (rep k.toNat xs)]) else none
    | _ => none
  | _, _ => none
def divW (a b : W) (s : Sto) : R := match a, b with
  | .int i, .int j => if j ≠ 0 ∧ j.natAbs.log2 < 9000 then some (.int (i.fdiv j), s) else none
  | _, _ => none
def modW (a b : W) (s : Sto) : R := match a, b with
  | .int i, .int j => if j ≠ 0 then some (.int (i.fmod j), s) else none
  | _, _ => none
def powW (a b : W) (s : Sto) : R := match a, b with
  | .int i, .int j => if 0 ≤ j ∧ j ≤ 1000000 ∧ i.natAbs < 2 ^ 64 then some (.int (i ^ j.toNat), s) else none
  | _, _ => none
def negW (a : W) (s : Sto) : R := match a with
  | .int i => some (.int (-i), s)
  | _ => none
def cmpW (f : Int → Int → Bool) (a b : W) (s : Sto) : R := match a, b with
  | .int i, .int j => some (.bl (f i j), s)
  | _, _ => none
abbrev ltW := cmpW fun i j => decide (i < j)
abbrev leW := cmpW fun i j => decide (i ≤ j)
abbrev gtW := cmpW fun i j => decide (j < i)
abbrev geW := cmpW fun i j => decide (j ≤ i)
mutual
/-- as data -/
def pD : W → Option PyData
  | .non => some .none
  | .bl b => some (.bool b)
  | .int i => some (.int i)
  | .str x => some (.str (S x))
  | .tup xs => (pDs xs).map .tuple
  | .ref _ => none
  | .scr _ => none
def pDs : List W → Option (List PyData)
  | [] => some []
  | x :: xs => match pD x with
    | none => none
    | some d => match pDs xs with
      | none => none
      | some ds => some (d :: ds)
end
def lD (s : Sto) (w : W) : Option PyData := match w with
  | .ref n => match s[n]? with
    | some (.lst xs) => (pDs xs).map .list
    | _ => none
  | w => pD w
def flatEq (a b : W) : Option Bool := match a, b with
  | .int i, .int j => some (decide (i = j))
  | .str i, .str j => some (decide (i = j))
  | .bl i, .bl j => some (decide (i = j))
  | .non, .non => some true
  | .non, .int _ => some false
  | .int _, .non => some false
  | .non, .bl _ => some false
  | .bl _, .non => some false
  | .non, .str _ => some false
  | .str _, .non => some false
  | .int _, .str _ => some false
  | .str _, .int _ => some false
  | .bl _, .str _ => some false
  | .str _, .bl _ => some false
  | _, _ => none
def sameD (s : Sto) (a b : W) : Option Bool := match flatEq a b with
  | some k => some k
  | none => match lD s a, lD s b with
    | some d, some e => if SeqAt.shaped d = true ∧ SeqAt.shaped e = true then some (PyData.eqv d e) else none
    | _, _ => none
def eqW (a b : W) (s : Sto) : R := (sameD s a b).map fun k => (.bl k, s)
def neW (a b : W) (s : Sto) : R := (sameD s a b).map fun k => (.bl (!k), s)
def isNon : W → Bool
  | .non => true
  | _ => false
def isBl (k : Bool) : W → Bool
  | .bl j => decide (j = k)
  | _ => false
/-- is: the right side None, True, False -/
def isW (a b : W) (s : Sto) : R := match b with
  | .non => some (.bl (isNon a), s)
  | .bl k => some (.bl (isBl k a), s)
  | _ => none
def isnW (a b : W) (s : Sto) : R := match b with
  | .non => some (.bl (!isNon a), s)
  | .bl k => some (.bl (!isBl k a), s)
  | _ => none
def flatW : W → Bool
  | .non => true
  | .bl _ => true
  | .int _ => true
  | .str _ => true
  | _ => false
def flV : W → V
  | .bl b => .bl b
  | .int i => .int i
  | .str x => .str (S x)
  | _ => .non
def inD (s : Sto) (a b : W) : Option Bool := match a, b with
  | .str [k], .str z => some (decide (k ∈ z))
  | a, .ref n => match s[n]? with
    | some (.lst xs) => if (flatW a && xs.all flatW) = true then some (inV (flV a) (xs.map flV)) else match pD a, pDs xs with
      | some d, some ds => if SeqAt.shaped d = true ∧ SeqAt.shaped (.list ds) = true then some (ds.any fun z => PyData.eqv z d) else none
      | _, _ => none
    | _ => none
  | _, _ => none
def inW (a b : W) (s : Sto) : R := (inD s a b).map fun k => (.bl k, s)
def truW (w : W) (s : Sto) : Option (Bool × Sto) := match w with
  | .non => some (false, s)
  | .bl b => some (b, s)
  | .int i => some (i != 0, s)
  | .str x => if x.length ≤ sizeLine then some (!x.isEmpty, s) else none
  | .tup xs => some (!xs.isEmpty, s)
  | .ref n => match s[n]? with
    | some (.lst xs) => some (!xs.isEmpty, s)
    | _ => none
  | _ => none
def ixW (a b : W) (s : Sto) : R := match a, b with
  | .tup xs, .int i => (atI xs i).map fun w => (w, s)
  | .str x, .int i => if x.length ≤ sizeLine then (atI x i).map fun k => (.str [k], s) else none
  | .ref n, .int i => match s[n]? with
    | some (.lst xs) => (atI xs i).map fun w => (w, s)
    | _ => none
  | _, _ => none
def cut {α : Type} (xs : List α) (lo hi : Option Int) : List α := (xs.drop (HT.sIx xs.length 0 lo)).take (HT.sIx xs.length xs.length hi - HT.sIx xs.length 0 lo)
def slW (a : W) (lo hi : Option Int) (s : Sto) : R := match a with
  | .tup xs => if ¬ (HT.sIx xs.length 0 lo = 0 ∧ HT.sIx xs.length xs.length hi = xs.length) then some (.tup (cut xs lo hi), s) else none
  | .str x => if x.length ≤ sizeLine then some (.str (cut x lo hi), s) else none
  | .ref n => match s[n]? with
    | some (.lst xs) => some (.ref s.length, s ++ [.lst (cut xs lo hi)])
    | _ => none
  | .scr ns => some (.ref s.length, s ++ [.lst (cut (ns.map .int) lo hi)])
  | _ => none
section
variable {c : Cfg} {X : Cx} {E : L2.St → XK}
theorem RV.fresh {c : Cfg} {H : Hp} {μ : List Addr} {n : Nat} {v : V} (h : RV c H μ (.ref n) v) {s : Sto} {xs : List W} (rs : RS c μ s H) (hs : s[n]? = some (.lst xs)) : ∃ a vs, v = .ref a ∧ μ[n]? = some a ∧ H a = some (.lst vs) ∧ RVs c H μ xs vs := by
  obtain ⟨a, h1, rfl⟩ := h
  obtain ⟨a', h2, vs, h3, h4⟩ := rs.cell n _ hs
  rw [h1] at h2
  cases h2
  exact ⟨a, vs, rfl, h1, h3, h4⟩
theorem S_app (a b : List Nat) : S a ++ S b = S (a ++ b) := by
  show (⟨_⟩ : Str) = ⟨_⟩
  congr 1
  simp
theorem S_inj {a b : List Nat} (h : S a = S b) : a = b := by
  injection h with h
  injection h
theorem post.no {c : Cfg} {μ : List Addr} {s : Sto} {H : Hp} {Q : VK} (h : post c μ s H none Q) : False := by
  obtain ⟨_, _, e, _⟩ := h
  cases e
theorem op_add' (hK : c.K = X.K) : OpR X (binaryOp .Add) (rO c addW) := by
  intro pins s σ H x y v u Q I rx ry h
  obtain ⟨μ, st, a, b, rs, ra, rb, h⟩ := h
  unfold addW at h
  split at h
  · exact op_add pins s σ H x y v u Q I rx ry ⟨_, _, ra, rb, h.keep rfl rs rfl⟩
  · split at h
    · rename_i p q hz
      refine op_add_str pins s σ H x y v u Q I rx ry ⟨_, _, ra, rb, hz, ?_⟩
      rw [S_app]
      exact h.keep rfl rs rfl
    · exact h.no.elim
  · split at h
    · rename_i xs ys hz
      obtain ⟨a, vs, rfl, q1, r1⟩ := ra
      obtain ⟨b, us, rfl, q2, r2⟩ := rb
      have l1 := r1.len
      have l2 := r2.len
      rw [hK] at q1 q2
      refine op_catT pins s σ H _ _ v u Q I rx ry ⟨a, b, vs, us, rfl, rfl, q1, q2, ?_, by omega, fun e => ?_, fun _ => h.tup rfl rs (r1.app r2)⟩
      · rintro rfl
        exact hz.1 (List.length_eq_zero_iff.mp l1.symm)
      · subst e
        have : ys = [] := List.length_eq_zero_iff.mp l2.symm
        subst this
        rw [List.append_nil] at h
        exact h.keep rfl rs ⟨a, vs, rfl, by rw [hK]; exact q1, r1⟩
    · exact h.no.elim
  · split at h
    · rename_i n m xs ys e1 e2
      split at h
      · rename_i hz
        obtain ⟨a, vs, rfl, _, h1, r1⟩ := ra.fresh rs e1
        obtain ⟨b, us, rfl, _, h2, r2⟩ := rb.fresh rs e2
        have l1 := r1.len
        have l2 := r2.len
        exact op_cat pins s σ H _ _ v u Q I rx ry ⟨a, b, vs, us, rfl, rfl, h1, h2, by omega, h.lst rfl rs (r1.app r2)⟩
      · exact h.no.elim
    · exact h.no.elim
  · exact h.no.elim
theorem op_sub' : OpR X (binaryOp .Sub) (rO c subW) := by
  intro pins s σ H x y v u Q I rx ry h
  obtain ⟨μ, st, a, b, rs, ra, rb, h⟩ := h
  unfold subW at h
  split at h
  · exact op_sub pins s σ H x y v u Q I rx ry ⟨_, _, ra, rb, h.keep rfl rs rfl⟩
  · exact h.no.elim
theorem op_repS' : OpR X (binaryOp .Mult) (fun x y H Q => ∃ (l : List Nat) (k : Nat), x = .str (S l) ∧ y = .int (k : Int) ∧ k < 2 ^ 30 ∧ l.length * k ≤ sizeLine ∧ Q (.str (S (List.replicate k l).flatten)) H) := FL.op_repS
theorem RVs.reps {H : Hp} {μ : List Addr} {xs : List W} {vs : List V} (r1 : RVs c H μ xs vs) : ∀ m : Nat, RVs c H μ (rep m xs) (List.replicate m vs).flatten := fun m => by
  unfold rep
  induction m with
  | zero => exact rfl
  | succ m ih =>
    rw [List.replicate_succ, List.replicate_succ, List.flatten_cons, List.flatten_cons]
    exact r1.app ih
theorem op_mul' (hK : c.K = X.K) : OpR X (binaryOp .Mult) (rO c mulW) := by
  intro pins s σ H x y v u Q I rx ry h
  obtain ⟨μ, st, a, b, rs, ra, rb, h⟩ := h
  unfold mulW at h
  split at h
  · split at h
    · rename_i hz
      rcases hz with hz | hz | hz
      · exact op_mul pins s σ H x y v u Q I rx ry ⟨_, _, ra, rb, .inl ⟨by omega, by omega⟩, h.keep rfl rs rfl⟩
      · exact op_mul pins s σ H x y v u Q I rx ry ⟨_, _, ra, rb, .inr ⟨by omega, by omega⟩, h.keep rfl rs rfl⟩
      · exact op_mulW pins s σ H x y v u Q I rx ry ⟨_, _, ra, rb, hz, h.keep rfl rs rfl⟩
    · exact h.no.elim
  · split at h
    · rename_i x k hz
      obtain ⟨j, rfl⟩ := Int.eq_ofNat_of_zero_le hz.1
      exact op_repS' pins s σ H _ _ v u Q I rx ry ⟨x, j, ra, rb, by omega, hz.2.2, h.keep rfl rs rfl⟩
    · exact h.no.elim
  · split at h
    · rename_i xs k hz
      have ra0 := ra
      obtain ⟨a, vs, rfl, q1, r1⟩ := ra
      have l1 := r1.len
      have hne : vs ≠ [] := fun e => hz.1 (List.length_eq_zero_iff.mp (by rw [e] at l1; exact l1.symm))
      rw [hK] at q1
      have k0 : k ≤ 0 → rep k.toNat xs = [] := fun e => by
        rw [show k.toNat = 0 by omega]
        rfl
      by_cases h2 : 2 ≤ k
      · exact op_repT pins s σ H _ _ v u Q I rx ry ⟨a, k, vs, rfl, rb, q1, hne, h2, hz.2.2.2, by omega, h.tup rfl rs (r1.reps _)⟩
      · refine op_repT1 pins s σ H _ _ v u Q I rx ry ⟨a, k, vs, rfl, rb, q1, hne, by omega, by omega, fun e => ?_, fun e => ?_⟩
        · exact h.tup rfl rs (by rw [k0 e]; exact rfl)
        · subst e
          exact h.keep rfl rs (by rw [show rep (1 : Int).toNat xs = xs by unfold rep; simp]; exact ra0)
    · exact h.no.elim
  · split at h
    · rename_i n k _ xs e1
      split at h
      · rename_i hz
        obtain ⟨a, vs, rfl, _, h1, r1⟩ := ra.fresh rs e1
        have l1 := r1.len
        refine op_rep pins s σ H _ _ v u Q I rx ry ⟨a, k, vs, rfl, rb, h1, hz.1, hz.2.1, by rw [l1]; exact hz.2.2, h.lst rfl rs (r1.reps _)⟩
      · exact h.no.elim
    · exact h.no.elim
  · exact h.no.elim
theorem op_div' : OpR X (binaryOp .FloorDiv) (rO c divW) := by
  intro pins s σ H x y v u Q I rx ry h
  obtain ⟨μ, st, a, b, rs, ra, rb, h⟩ := h
  unfold divW at h
  split at h
  · split at h
    · rename_i i j hz
      have q := h.keep rfl rs (v := .int (i.fdiv j)) rfl
      cases (show x = .int i from ra)
      cases (show y = .int j from rb)
      obtain ⟨t, rfl⟩ := rx
      obtain ⟨t', rfl⟩ := ry
      exact floordiv_int hz.1 ⟨.int (i.fdiv j), H, I.tok _, ⟨_, rfl⟩, q⟩ (.inl (PyProof.noPylong_of_log2 hz.2))
    · exact h.no.elim
  · exact h.no.elim
theorem op_mod' : OpR X (binaryOp .Mod) (rO c modW) := by
  intro pins s σ H x y v u Q I rx ry h
  obtain ⟨μ, st, a, b, rs, ra, rb, h⟩ := h
  unfold modW at h
  split at h
  · split at h
    · rename_i hz
      exact op_modN pins s σ H x y v u Q I rx ry ⟨_, _, ra, rb, hz, h.keep rfl rs rfl⟩
    · exact h.no.elim
  · exact h.no.elim
theorem op_pow' : OpR X (binaryOp .Pow) (rO c powW) := by
  intro pins s σ H x y v u Q I rx ry h
  obtain ⟨μ, st, a, b, rs, ra, rb, h⟩ := h
  unfold powW at h
  split at h
  · split at h
    · rename_i hz
      exact op_pow pins s σ H x y v u Q I rx ry ⟨_, _, ra, rb, hz, h.keep rfl rs rfl⟩
    · exact h.no.elim
  · exact h.no.elim
theorem un_neg' : UnR X (unaryOp .USub) (r1 c negW) := by
  intro pins s σ H x v Q I rx h
  obtain ⟨μ, st, a, rs, ra, h⟩ := h
  unfold negW at h
  split at h
  · exact un_neg pins s σ H x v Q I rx ⟨_, ra, h.keep rfl rs rfl⟩
  · exact h.no.elim
theorem cmp_of {op : CmpOp} {f : Int → Int → Bool} (ho : OpR X (compareOp op) (rI0 fun i j => .bl (f i j))) : OpR X (compareOp op) (rO c (cmpW f)) := by
  intro pins s σ H x y v u Q I rx ry h
  obtain ⟨μ, st, a, b, rs, ra, rb, h⟩ := h
  unfold cmpW at h
  split at h
  · exact ho pins s σ H x y v u Q I rx ry ⟨_, _, ra, rb, h.keep rfl rs rfl⟩
  · exact h.no.elim
theorem op_lt' : OpR X (compareOp .Lt) (rO c ltW) := cmp_of op_lt
theorem op_le' : OpR X (compareOp .LtE) (rO c leW) := cmp_of op_le
theorem op_gt' : OpR X (compareOp .Gt) (rO c gtW) := cmp_of op_gt
theorem op_ge' : OpR X (compareOp .GtE) (rO c geW) := cmp_of op_ge
mutual
theorem pD_dp {H : Hp} {μ : List Addr} : ∀ {w : W} {v : V} {d : PyData}, RV c H μ w v → pD w = some d → Dp c.K H v d
  | .non, v, d, r, e => by cases (show v = .non from r); rw [pD] at e; cases e; exact .non
  | .bl b, v, d, r, e => by cases (show v = .bl b from r); rw [pD] at e; cases e; exact .bl b
  | .int b, v, d, r, e => by cases (show v = .int b from r); rw [pD] at e; cases e; exact .int b
  | .str b, v, d, r, e => by cases (show v = .str (S b) from r); rw [pD] at e; cases e; exact .str _
  | .scr _, v, d, r, e => by rw [pD] at e; cases e
  | .ref n, v, d, r, e => by rw [pD] at e; cases e
  | .tup xs, v, d, r, e => by
    obtain ⟨a, vs, rfl, q, r⟩ := r
    rw [pD] at e
    obtain ⟨ds, h1, rfl⟩ := Option.map_eq_some_iff.mp e
    exact .tup q (pDs_dp r h1)
theorem pDs_dp {H : Hp} {μ : List Addr} : ∀ {ws : List W} {vs : List V} {ds : List PyData}, RVs c H μ ws vs → pDs ws = some ds → DpAll c.K H vs ds
  | [], vs, ds, r, e => by cases (show vs = [] from r); rw [pDs] at e; cases e; exact .nil
  | w :: ws, vs, ds, r, e => by
    obtain ⟨v, vs', rfl, r1, r2⟩ := r
    rw [pDs] at e
    split at e
    · cases e
    · rename_i d h1
      split at e
      · cases e
      · rename_i ds' h2
        cases e
        exact .cons (pD_dp r1 h1) (pDs_dp r2 h2)
end
theorem lD_dp {H : Hp} {μ : List Addr} {s : Sto} {w : W} {v : V} {d : PyData} (rs : RS c μ s H) (r : RV c H μ w v) (e : lD s w = some d) : Dp c.K H v d := by
  unfold lD at e
  split at e
  · split at e
    · rename_i n xs hs
      obtain ⟨ds, h1, rfl⟩ := Option.map_eq_some_iff.mp e
      obtain ⟨a, vs, rfl, _, h2, h3⟩ := r.fresh rs hs
      exact .lst (SqL.of h2) (pDs_dp h3 h1)
    · cases e
  · exact pD_dp r e
theorem flat_eq {H : Hp} {μ : List Addr} {a b : W} {x y : V} {k : Bool} (ra : RV c H μ a x) (rb : RV c H μ b y) (h : flatEq a b = some k) : scal x y = true ∧ decide (x = y) = k := by
  unfold flatEq at h
  split at h
  all_goals first
    | (cases h; done)
    | (simp only [RV] at ra rb; subst ra rb; cases h; exact ⟨rfl, by simp⟩)
theorem op_eq' (hu : X.A.units + 64 < cLine) (hK : c.K = X.K) : OpR X (compareOp .Eq) (rO c eqW) := by
  intro pins s σ H x y v u Q I rx ry h
  obtain ⟨μ, st, a, b, rs, ra, rb, h⟩ := h
  unfold eqW at h
  cases e : sameD st a b with
  | none => rw [e] at h; exact h.no.elim
  | some k =>
    rw [e] at h
    have q : Q (.bl k) H := h.keep rfl rs rfl
    unfold sameD at e
    split at e
    · rename_i k' e1
      cases e
      obtain ⟨h1, h2⟩ := flat_eq ra rb e1
      exact op_eq pins s σ H x y v u Q I rx ry ⟨h1, by rw [h2]; exact q⟩
    · split at e
      · rename_i d d' e1 e2
        split at e
        · rename_i sh
          cases e
          refine op_eqD hu pins s σ H x y v u Q I rx ry ⟨d, d', ?_, ?_, sh.1, sh.2, q⟩
          · rw [← hK]; exact lD_dp rs ra e1
          · rw [← hK]; exact lD_dp rs rb e2
        · cases e
      · cases e
theorem op_ne' (hu : X.A.units + 64 < cLine) (hK : c.K = X.K) : OpR X (compareOp .NotEq) (rO c neW) := by
  intro pins s σ H x y v u Q I rx ry h
  obtain ⟨μ, st, a, b, rs, ra, rb, h⟩ := h
  unfold neW at h
  cases e : sameD st a b with
  | none => rw [e] at h; exact h.no.elim
  | some k =>
    rw [e] at h
    have q : Q (.bl (!k)) H := h.keep rfl rs rfl
    unfold sameD at e
    split at e
    · rename_i k' e1
      cases e
      obtain ⟨h1, h2⟩ := flat_eq ra rb e1
      exact op_ne pins s σ H x y v u Q I rx ry ⟨h1, by rw [h2]; exact q⟩
    · split at e
      · rename_i d d' e1 e2
        split at e
        · rename_i sh
          cases e
          refine op_neD hu pins s σ H x y v u Q I rx ry ⟨d, d', ?_, ?_, sh.1, sh.2, q⟩
          · rw [← hK]; exact lD_dp rs ra e1
          · rw [← hK]; exact lD_dp rs rb e2
        · cases e
      · cases e
theorem is_non {H : Hp} {μ : List Addr} {a : W} {x : V} (ra : RV c H μ a x) : decide (x = .non) = isNon a := by
  cases a <;> simp only [RV] at ra
  all_goals first
    | (subst ra; simp [isNon, isBl]; done)
    | (obtain ⟨_, _, rfl, _⟩ := ra; simp [isNon, isBl]; done)
    | (obtain ⟨_, _, rfl⟩ := ra; simp [isNon, isBl]; done)
    | (obtain ⟨rfl, _⟩ := ra; simp [isNon, isBl]; done)
theorem is_bl {H : Hp} {μ : List Addr} {a : W} {x : V} (k : Bool) (ra : RV c H μ a x) : decide (x = .bl k) = isBl k a := by
  cases a <;> simp only [RV] at ra
  all_goals first
    | (subst ra; simp [isNon, isBl]; done)
    | (obtain ⟨_, _, rfl, _⟩ := ra; simp [isNon, isBl]; done)
    | (obtain ⟨_, _, rfl⟩ := ra; simp [isNon, isBl]; done)
    | (obtain ⟨rfl, _⟩ := ra; simp [isNon, isBl]; done)
theorem op_is' : OpR X (compareOp .Is) (rO c isW) := by
  intro pins s σ H x y v u Q I rx ry h
  obtain ⟨μ, st, a, b, rs, ra, rb, h⟩ := h
  unfold isW at h
  split at h
  · cases (show y = .non from rb)
    refine op_isN pins s σ H _ _ v u Q I rx ry ⟨rfl, ?_⟩
    rw [is_non ra]
    exact h.keep rfl rs rfl
  · rename_i k
    refine FL.op_isB pins s σ H _ _ v u Q I rx ry ⟨k, rb, ?_⟩
    rw [is_bl k ra]
    exact h.keep rfl rs rfl
  · exact h.no.elim
theorem op_isn' : OpR X (compareOp .IsNot) (rO c isnW) := by
  intro pins s σ H x y v u Q I rx ry h
  obtain ⟨μ, st, a, b, rs, ra, rb, h⟩ := h
  unfold isnW at h
  split at h
  · cases (show y = .non from rb)
    refine op_notN pins s σ H _ _ v u Q I rx ry ⟨rfl, ?_⟩
    rw [is_non ra]
    exact h.keep rfl rs rfl
  · rename_i k
    refine FL.op_notB pins s σ H _ _ v u Q I rx ry ⟨k, rb, ?_⟩
    rw [is_bl k ra]
    exact h.keep rfl rs rfl
  · exact h.no.elim
theorem flat_rv {H : Hp} {μ : List Addr} {a : W} {x : V} (r : RV c H μ a x) (h : flatW a = true) : x = flV a ∧ flatV x = true := by
  cases a with
  | non => cases (show x = _ from r); exact ⟨rfl, rfl⟩
  | bl b => cases (show x = _ from r); exact ⟨rfl, rfl⟩
  | int b => cases (show x = _ from r); exact ⟨rfl, rfl⟩
  | str b => cases (show x = _ from r); exact ⟨rfl, rfl⟩
  | _ => cases h
theorem flats_rv {H : Hp} {μ : List Addr} : ∀ {ws : List W} {vs : List V}, RVs c H μ ws vs → ws.all flatW = true → vs = ws.map flV
  | [], vs, r, _ => r
  | w :: ws, vs, r, h => by
    obtain ⟨v, vs', rfl, r1, r2⟩ := r
    rw [List.all_cons, Bool.and_eq_true] at h
    rw [(flat_rv r1 h.1).1, flats_rv r2 h.2]
    rfl
theorem op_in' (hu : X.A.units + 65 < cLine) (hK : c.K = X.K) : OpR X (compareOp .In) (rO c inW) := by
  intro pins s σ H x y v u Q I rx ry h
  obtain ⟨μ, st, a, b, rs, ra, rb, h⟩ := h
  unfold inW at h
  cases e : inD st a b with
  | none => rw [e] at h; exact h.no.elim
  | some k =>
    rw [e] at h
    have q : Q (.bl k) H := h.keep rfl rs rfl
    unfold inD at e
    split at e
    · rename_i k' z
      cases e
      exact op_in_sign pins s σ H x y v u Q I rx ry ⟨k', S z, ra, rb, q⟩
    · split at e
      · rename_i n _ xs e1
        split at e
        · rename_i hf
          cases e
          obtain ⟨p, vs, rfl, _, h2, h3⟩ := rb.fresh rs e1
          rw [Bool.and_eq_true] at hf
          have fa := flat_rv ra hf.1
          have fs := flats_rv h3 hf.2
          subst fs
          rw [← fa.1] at q
          refine op_in_seq pins s σ H x _ v u Q I rx ry ⟨p, _, rfl, .inl (SqL.of h2), fa.2, ?_, q⟩
          rw [List.all_eq_true]
          intro z hz
          obtain ⟨y, _, rfl⟩ := List.mem_map.mp hz
          cases y <;> rfl
        split at e
        · rename_i d ds e2 e3
          split at e
          · rename_i sh
            cases e
            obtain ⟨p, vs, rfl, _, h2, h3⟩ := rb.fresh rs e1
            refine op_inD hu pins s σ H x _ v u Q I rx ry ⟨d, ds, ?_, .lst (SqL.of h2) ?_, sh.1, sh.2, q⟩
            · rw [← hK]; exact pD_dp ra e2
            · rw [← hK]; exact pDs_dp h3 e3
          · cases e
        · cases e
      · cases e
    · cases e
theorem RVs.emp {H : Hp} {μ : List Addr} {ws : List W} {vs : List V} (r : RVs c H μ ws vs) : (!ws.isEmpty) = !vs.isEmpty := by
  have l := r.len
  cases ws <;> cases vs <;> first | rfl | cases l
theorem tru_ok' (hK : c.K = X.K) {m : Env → M W} {e : Expr} (h : PT X e (fun σ H Q => tE c E m σ H fun x H' => ∃ k, TruV X.K x H' k ∧ Q k H')) : PT X e (tT c E (xTru truW m)) := h.w fun σ H Q => by
  rintro ⟨ρ, μ, s, re, rs, h⟩
  refine ⟨ρ, μ, s, re, rs, h.bind fun w μ1 s1 H1 g1 rs1 h1 v rv => ?_⟩
  obtain ⟨k, s2, e, q⟩ := h1.lift
  have e0 := e
  unfold truW at e
  refine ⟨k, ?_, ?_⟩
  · split at e
    · cases (show v = _ from rv); cases e; exact rfl
    · cases (show v = _ from rv); cases e; exact rfl
    · cases (show v = _ from rv); cases e; exact rfl
    · split at e
      · rename_i l hl
        cases (show v = _ from rv); cases e
        refine ⟨hl, ?_⟩
        cases l with
        | nil => rfl
        | cons a l =>
          show true = (((a :: l).length : Int) != 0)
          rw [List.length_cons]
          exact (bne_iff_ne.mpr (by omega)).symm
      · cases e
    · obtain ⟨p, vs, rfl, q1, r1⟩ := rv
      cases e
      rw [hK] at q1
      have l := r1.len
      exact .inr (.inl ⟨vs, q1, r1.emp⟩)
    · split at e
      · rename_i e1
        cases e
        obtain ⟨p, vs, rfl, _, h2, r1⟩ := rv.fresh rs1 e1
        have l := r1.len
        exact .inl ⟨vs, SqL.of h2, r1.emp⟩
      · cases e
    · cases e
  · have : s2 = s1 := by
      repeat' split at e
      all_goals first
        | (cases e; rfl)
        | cases e
    subst this
    exact q _ _ (Go.refl _ _) rs1
theorem atI_rv {H : Hp} {μ : List Addr} {ws : List W} {vs : List V} {i : Int} {w : W} (r : RVs c H μ ws vs) (e : atI ws i = some w) : ∃ v, atI vs i = some v ∧ RV c H μ w v := by
  unfold atI at e ⊢
  rw [r.len]
  obtain ⟨j, h1, h2⟩ := Option.bind_eq_some_iff.mp e
  obtain ⟨v, h3, h4⟩ := r.get h2
  exact ⟨v, by rw [h1]; exact h3, h4⟩
theorem ix_ok' (hK : c.K = X.K) : IxR X (rO c ixW) := by
  intro ea eb pins s σ H x y v u Q I rx ry h
  obtain ⟨μ, st, a, b, rs, ra, rb, h⟩ := h
  unfold ixW at h
  split at h
  · rename_i xs i
    cases e : atI xs i with
    | none => rw [e] at h; exact h.no.elim
    | some w =>
      rw [e] at h
      obtain ⟨p, vs, rfl, q1, r1⟩ := ra
      obtain ⟨z, h1, h2⟩ := atI_rv r1 e
      rw [hK] at q1
      exact ix_tup ea eb pins s σ H _ y v u Q I rx ry ⟨p, vs, i, z, rfl, rb, q1, h1, h.keep rfl rs h2⟩
  · rename_i x' i
    split at h
    · rename_i hl
      cases e : atI x' i with
      | none => rw [e] at h; exact h.no.elim
      | some w =>
        rw [e] at h
        exact ix_str ea eb pins s σ H _ y v u Q I rx ry ⟨S x', i, w, ra, rb, hl, e, h.keep rfl rs rfl⟩
    · exact h.no.elim
  · split at h
    · rename_i n i _ xs e1
      cases e : atI xs i with
      | none => rw [e] at h; exact h.no.elim
      | some w =>
        rw [e] at h
        obtain ⟨p, vs, rfl, _, q1, r1⟩ := ra.fresh rs e1
        obtain ⟨z, h1, h2⟩ := atI_rv r1 e
        exact ix_list ea eb pins s σ H _ y v u Q I rx ry ⟨p, vs, i, z, rfl, rb, SqL.of q1, h1, h.keep rfl rs h2⟩
    · exact h.no.elim
  · exact h.no.elim
theorem cut_rv {H : Hp} {μ : List Addr} {ws : List W} {vs : List V} {lo hi : Option Int} (r : RVs c H μ ws vs) : RVs c H μ (cut ws lo hi) (cutV vs lo hi) := by
  unfold cut cutV
  rw [r.len]
  exact (r.drop _).take _
theorem sl_ok' (hK : c.K = X.K) : SlR X (rSl c slW) := by
  intro pins s σ H x v vl vu lo hi sl Q I rx hs pl pu h
  obtain ⟨μ, st, a, rs, ra, h⟩ := h
  unfold slW at h
  split at h
  · split at h
    · rename_i xs hw
      obtain ⟨p, vs, rfl, q1, r1⟩ := ra
      have l := r1.len
      rw [hK] at q1
      exact sl_tup pins s σ H _ v vl vu lo hi sl Q I rx hs pl pu ⟨p, vs, rfl, q1, by rw [l]; exact hw, h.tup rfl rs (cut_rv r1)⟩
    · exact h.no.elim
  · split at h
    · rename_i x' hl
      refine sl_str pins s σ H _ v vl vu lo hi sl Q I rx hs pl pu ⟨S x', ra, hl, ?_⟩
      exact h.keep rfl rs rfl
    · exact h.no.elim
  · split at h
    · rename_i n _ xs e1
      obtain ⟨p, vs, rfl, _, q1, r1⟩ := ra.fresh rs e1
      exact sl_list pins s σ H _ v vl vu lo hi sl Q I rx hs pl pu ⟨p, vs, rfl, SqL.of q1, h.lst rfl rs (cut_rv r1)⟩
    · exact h.no.elim
  · obtain ⟨rfl, rfl⟩ := ra
    have q1 := rs.scr.sq
    rw [hK] at q1
    have r1 : ∀ ns : List Int, RVs c H μ (ns.map .int) (ns.map V.int) := fun ns => by
      induction ns with
      | nil => exact rfl
      | cons n ns ih => exact ⟨_, _, rfl, rfl, ih⟩
    exact sl_list pins s σ H _ v vl vu lo hi sl Q I rx hs pl pu ⟨_, _, rfl, q1, h.lst rfl rs (cut_rv (r1 _))⟩
  · exact h.no.elim
end
end ME

set_option Elab.async false
set_option linter.all false
set_option maxRecDepth 100000
set_option maxHeartbeats 1000000
/-! ### built-ins, methods -/
namespace ME
open PySem PySem.Spec PyProof.Rows L2
def lenW (us : List W) (s : Sto) : R := match us with
  | [.str x] => if x.length ≤ sizeLine then some (.int x.length, s) else none
  | [.tup xs] => some (.int xs.length, s)
  | [.ref n] => match s[n]? with
    | some (.lst xs) => some (.int xs.length, s)
    | _ => none
  | _ => none
def intW (us : List W) (s : Sto) : R := match us with
  | [.int i] => some (.int i, s)
  | [.bl b] => some (.int (if b then 1 else 0), s)
  | [.str x] => if x.length ≤ 640 then (intText? (S x)).map fun n => (.int n, s) else none
  | _ => none
def strW (us : List W) (s : Sto) : R := match us with
  | [.int i] => if i.natAbs.log2 < 1920 then some (.str (Str.ofString (toString i)).cps.toList, s) else none
  | _ => none
def tupleW (us : List W) (s : Sto) : R := match us with
  | [.tup xs] => some (.tup xs, s)
  | [.ref n] => match s[n]? with
    | some (.lst xs) => some (.tup xs, s)
    | _ => none
  | _ => none
def listW (us : List W) (s : Sto) : R := match us with
  | [.tup xs] => some (.ref s.length, s ++ [.lst xs])
  | [.ref n] => match s[n]? with
    | some (.lst xs) => some (.ref s.length, s ++ [.lst xs])
    | _ => none
  | _ => none
def absW (us : List W) (s : Sto) : R := match us with
  | [.int i] => some (.int (if i < 0 then -i else i), s)
  | _ => none
def getInts : List W → Option (List Int)
  | [] => some []
  | .int i :: r => (getInts r).map (i :: ·)
  | _ => none
def getBls : List W → Option (List Bool)
  | [] => some []
  | .bl i :: r => (getBls r).map (i :: ·)
  | _ => none
def getStrs : List W → Option (List (List Nat))
  | [] => some []
  | .str i :: r => (getStrs r).map (i :: ·)
  | _ => none
def inList (s : Sto) : List W → Option (List W)
  | [.ref n] => match s[n]? with
    | some (.lst xs) => some xs
    | _ => none
  | _ => none
def inSeq (s : Sto) : List W → Option (List W)
  | [.ref n] => match s[n]? with
    | some (.lst xs) => some xs
    | _ => none
  | [.tup xs] => some xs
  | _ => none
def sumW (us : List W) (s : Sto) : R := ((inList s us).bind getInts).map fun ns => (.int ns.sum, s)
def anyW (us : List W) (s : Sto) : R := ((inList s us).bind getBls).map fun ns => (.bl (ns.any id), s)
def allW (us : List W) (s : Sto) : R := ((inList s us).bind getBls).map fun ns => (.bl (ns.all id), s)
def maxL : List Int → Option Int
  | [] => none
  | x :: r => some (r.foldl (fun a b => if b > a then b else a) x)
def minL : List Int → Option Int
  | [] => none
  | x :: r => some (r.foldl (fun a b => if b < a then b else a) x)
def maxW (us : List W) (s : Sto) : R := match us with
  | [.int i, .int j] => some (.int (if j > i then j else i), s)
  | _ => (((inList s us).bind getInts).bind maxL).map fun n => (.int n, s)
def minW (us : List W) (s : Sto) : R := match us with
  | [.int i, .int j] => some (.int (if j < i then j else i), s)
  | _ => (((inList s us).bind getInts).bind minL).map fun n => (.int n, s)
def tyN (s : Sto) : W → Option String
  | .non => some "NoneType"
  | .bl _ => some "bool"
  | .int _ => some "int"
  | .str _ => some "str"
  | .tup _ => some "tuple"
  | .ref n => match s[n]? with
    | some (.lst _) => some "list"
    | _ => none
  | .scr _ => none
def isiW (T : String) (w : W) (s : Sto) : R := (tyN s w).bind fun a => (kitB a T).map fun b => (.bl b, s)
/-- a method's call -/
def isT (s : Sto) (T : String) : W → Bool
  | .str _ => T = "str"
  | .ref n => match s[n]? with
    | some (.lst _) => T = "list"
    | _ => false
  | _ => false
def eM (T : String) (g : W → List W → O W) (o : Env → M W) (a : Env → M (List W)) : Env → M W := fun ρ => bindM (o ρ) fun x s => if isT s T x = true then bindM (a ρ) (fun ws => liftO (g x ws)) s else .no
def appendW (u : W) (us : List W) (s : Sto) : R := match u, us with
  | .ref n, [w] => match s[n]? with
    | some (.lst xs) => if xs.length < sizeLine then some (.non, s.set n (.lst (xs ++ [w]))) else none
    | _ => none
  | _, _ => none
def popW (u : W) (us : List W) (s : Sto) : R := match u, us with
  | .ref n, [] => match s[n]? with
    | some (.lst xs) => (xs[xs.length - 1]?).map fun w => (w, s.set n (.lst xs.dropLast))
    | _ => none
  | .ref n, [.int i] => match s[n]? with
    | some (.lst xs) => if -(2 ^ 63) ≤ i ∧ i < 2 ^ 63 then (seqIndex? i xs.length).bind fun k => (xs[k]?).map fun w => (w, s.set n (.lst (xs.eraseIdx k))) else none
    | _ => none
  | _, _ => none
def reverseW (u : W) (us : List W) (s : Sto) : R := match u, us with
  | .ref n, [] => match s[n]? with
    | some (.lst xs) => some (.non, s.set n (.lst xs.reverse))
    | _ => none
  | _, _ => none
def extendW (u : W) (us : List W) (s : Sto) : R := match u, us with
  | .ref n, [.ref m] => match s[n]?, s[m]? with
    | some (.lst xs), some (.lst ys) => if xs.length + ys.length ≤ sizeLine then some (.non, s.set n (.lst (xs ++ ys))) else none
    | _, _ => none
  | _, _ => none
def insertW (u : W) (us : List W) (s : Sto) : R := match u, us with
  | .ref n, [.int i, w] => match s[n]? with
    | some (.lst xs) => if xs.length < sizeLine ∧ 0 ≤ i ∧ i < 2 ^ 63 then some (.non, s.set n (.lst (xs.take i.toNat ++ [w] ++ xs.drop i.toNat))) else none
    | _ => none
  | _, _ => none
def joinW (u : W) (us : List W) (s : Sto) : R := match u with
  | .str a => match (inSeq s us).bind getStrs with
    | some ys => if (ys.map List.length).sum + ys.length * a.length ≤ 16777216 then some (.str (TL.joinL a ys), s) else none
    | none => none
  | _ => none
def splitW (u : W) (us : List W) (s : Sto) : R := match u, us with
  | .str a, [.str b] => if b ≠ [] ∧ b.all (· < 256) = true ∧ a.length + 2 ≤ sizeLine then some (.ref s.length, s ++ [.lst ((TL.spl b 0 [] a).map .str)]) else none
  | _, _ => none
def startsW (u : W) (us : List W) (s : Sto) : R := match u, us with
  | .str a, [.str b] => some (.bl (Txt.startswith (S a) (S b)), s)
  | _, _ => none
def rjustW (u : W) (us : List W) (s : Sto) : R := match u, us with
  | .str a, [.int i, .str [f]] => if PadOk i = true then some (.str (Txt.rjustF (S a) i f).cps.toList, s) else none
  | _, _ => none
section
variable {c : Cfg} {X : Cx} {E : L2.St → XK} {H : Hp} {μ : List Addr}
theorem RVs.one' {w : W} {vs : List V} (r : RVs c H μ [w] vs) : ∃ v, vs = [v] ∧ RV c H μ w v := by
  obtain ⟨v, vs', rfl, h, h2⟩ := r
  cases (show vs' = [] from h2)
  exact ⟨v, rfl, h⟩
theorem RVs.two' {w u : W} {vs : List V} (r : RVs c H μ [w, u] vs) : ∃ v v', vs = [v, v'] ∧ RV c H μ w v ∧ RV c H μ u v' := by
  obtain ⟨v, vs', rfl, h, h2⟩ := r
  obtain ⟨v', rfl, h3⟩ := h2.one'
  exact ⟨v, v', rfl, h, h3⟩
theorem cr_len' (hK : c.K = X.K) : CallR X (.builtin "len") (rN c lenW) := by
  intro pins s σ H xs us Q I rv h
  obtain ⟨μ, st, ws, rs, r, h⟩ := h
  unfold lenW at h
  split at h
  · split at h
    · rename_i hl
      obtain ⟨v, rfl, rx⟩ := r.one'
      exact call_len_str pins s σ H _ us Q I rv ⟨_, congrArg (fun v => [v]) rx, hl, h.keep rfl rs rfl⟩
    · exact h.no.elim
  · obtain ⟨v, rfl, p, vs, rfl, q1, r1⟩ := r.one'
    have l := r1.len
    rw [hK] at q1
    exact call_len_seq pins s σ H _ us Q I rv ⟨p, vs, rfl, .inr q1, by rw [l]; exact h.keep rfl rs rfl⟩
  · split at h
    · rename_i n _ xs e1
      obtain ⟨v, rfl, rx⟩ := r.one'
      obtain ⟨p, vs, rfl, _, q1, r1⟩ := rx.fresh rs e1
      have l := r1.len
      exact call_len_seq pins s σ H _ us Q I rv ⟨p, vs, rfl, .inl (SqL.of q1), by rw [l]; exact h.keep rfl rs rfl⟩
    · exact h.no.elim
  · exact h.no.elim
theorem cr_int' : CallR X (.type "int") (rN c intW) := by
  intro pins s σ H xs us Q I rv h
  obtain ⟨μ, st, ws, rs, r, h⟩ := h
  unfold intW at h
  split at h
  · obtain ⟨v, rfl, rx⟩ := r.one'
    exact call_int1 pins s σ H _ us Q I rv (.inl ⟨_, congrArg (fun v => [v]) rx, h.keep rfl rs rfl⟩)
  · obtain ⟨v, rfl, rx⟩ := r.one'
    exact call_int1 pins s σ H _ us Q I rv (.inr ⟨_, congrArg (fun v => [v]) rx, h.keep rfl rs rfl⟩)
  · split at h
    · rename_i x hl
      obtain ⟨v, rfl, rx⟩ := r.one'
      cases e : intText? (S x) with
      | none => rw [e] at h; exact h.no.elim
      | some n =>
        rw [e] at h
        exact call_int_str pins s σ H _ us Q I rv ⟨S x, n, congrArg (fun v => [v]) rx, e, hl, h.keep rfl rs rfl⟩
    · exact h.no.elim
  · exact h.no.elim
theorem S_of (x : Str) : S x.cps.toList = x := by
  obtain ⟨⟨l⟩⟩ := x
  rfl
theorem cr_str' : CallR X (.type "str") (rN c strW) := by
  intro pins s σ H xs us Q I rv h
  obtain ⟨μ, st, ws, rs, r, h⟩ := h
  unfold strW at h
  split at h
  · split at h
    · rename_i i hl
      obtain ⟨v, rfl, rx⟩ := r.one'
      exact call_str_int pins s σ H _ us Q I rv ⟨i, congrArg (fun v => [v]) rx, hl, h.keep rfl rs (show V.str _ = V.str _ from congrArg V.str (S_of _).symm)⟩
    · exact h.no.elim
  · exact h.no.elim
theorem cr_tuple' (hK : c.K = X.K) : CallR X (.type "tuple") (rN c tupleW) := by
  intro pins s σ H xs us Q I rv h
  obtain ⟨μ, st, ws, rs, r, h⟩ := h
  unfold tupleW at h
  split at h
  · obtain ⟨v, rfl, p, vs, rfl, q1, r1⟩ := r.one'
    have q2 := q1
    rw [hK] at q2
    exact call_tuple_of pins s σ H _ us Q I rv ⟨p, vs, rfl, .inr ⟨q2, h.keep rfl rs ⟨p, vs, rfl, q1, r1⟩⟩⟩
  · split at h
    · rename_i n _ xs e1
      obtain ⟨v, rfl, rx⟩ := r.one'
      obtain ⟨p, vs, rfl, _, q1, r1⟩ := rx.fresh rs e1
      exact call_tuple_of pins s σ H _ us Q I rv ⟨p, vs, rfl, .inl ⟨SqL.of q1, h.tup rfl rs r1⟩⟩
    · exact h.no.elim
  · exact h.no.elim
theorem cr_list' (hK : c.K = X.K) : CallR X (.type "list") (rN c listW) := by
  intro pins s σ H xs us Q I rv h
  obtain ⟨μ, st, ws, rs, r, h⟩ := h
  unfold listW at h
  split at h
  · obtain ⟨v, rfl, p, vs, rfl, q1, r1⟩ := r.one'
    rw [hK] at q1
    exact call_list_of pins s σ H _ us Q I rv ⟨p, vs, rfl, .inr q1, h.lst rfl rs r1⟩
  · split at h
    · rename_i n _ xs e1
      obtain ⟨v, rfl, rx⟩ := r.one'
      obtain ⟨p, vs, rfl, _, q1, r1⟩ := rx.fresh rs e1
      exact call_list_of pins s σ H _ us Q I rv ⟨p, vs, rfl, .inl (SqL.of q1), h.lst rfl rs r1⟩
    · exact h.no.elim
  · exact h.no.elim
theorem cr_abs' : CallR X (.builtin "abs") (rN c absW) := by
  intro pins s σ H xs us Q I rv h
  obtain ⟨μ, st, ws, rs, r, h⟩ := h
  unfold absW at h
  split at h
  · obtain ⟨v, rfl, rx⟩ := r.one'
    exact call_abs pins s σ H _ us Q I rv ⟨_, congrArg (fun v => [v]) rx, h.keep rfl rs rfl⟩
  · exact h.no.elim
theorem ints_rv : ∀ {ws : List W} {vs : List V} {ns : List Int}, RVs c H μ ws vs → getInts ws = some ns → vs = ns.map V.int
  | [], vs, ns, r, e => by rw [getInts] at e; cases e; exact r
  | w :: ws, vs, ns, r, e => by
    cases w with
    | int i =>
      rw [getInts] at e
      obtain ⟨ns', e1, rfl⟩ := Option.map_eq_some_iff.mp e
      obtain ⟨v, vs', rfl, rx, rr⟩ := r
      cases (show v = .int i from rx)
      rw [ints_rv rr e1]
      rfl
    | _ => cases e
theorem bls_rv : ∀ {ws : List W} {vs : List V} {ns : List Bool}, RVs c H μ ws vs → getBls ws = some ns → vs = ns.map V.bl
  | [], vs, ns, r, e => by rw [getBls] at e; cases e; exact r
  | w :: ws, vs, ns, r, e => by
    cases w with
    | bl i =>
      rw [getBls] at e
      obtain ⟨ns', e1, rfl⟩ := Option.map_eq_some_iff.mp e
      obtain ⟨v, vs', rfl, rx, rr⟩ := r
      cases (show v = .bl i from rx)
      rw [bls_rv rr e1]
      rfl
    | _ => cases e
theorem strs_rv : ∀ {ws : List W} {vs : List V} {ns : List (List Nat)}, RVs c H μ ws vs → getStrs ws = some ns → vs = (ns.map S).map V.str
  | [], vs, ns, r, e => by rw [getStrs] at e; cases e; exact r
  | w :: ws, vs, ns, r, e => by
    cases w with
    | str i =>
      rw [getStrs] at e
      obtain ⟨ns', e1, rfl⟩ := Option.map_eq_some_iff.mp e
      obtain ⟨v, vs', rfl, rx, rr⟩ := r
      cases (show v = .str (S i) from rx)
      rw [strs_rv rr e1]
      rfl
    | _ => cases e
theorem inList_rv {s : Sto} {us xs : List W} {vs : List V} (rs : RS c μ s H) (r : RVs c H μ us vs) (e : inList s us = some xs) : ∃ p ys, vs = [.ref p] ∧ H p = some (.lst ys) ∧ RVs c H μ xs ys := by
  unfold inList at e
  split at e
  · split at e
    · rename_i n _ zs e1
      cases e
      obtain ⟨v, rfl, rx⟩ := r.one'
      obtain ⟨p, ys, rfl, _, q1, r1⟩ := rx.fresh rs e1
      exact ⟨p, ys, rfl, q1, r1⟩
    · cases e
  · cases e
theorem inSeq_rv {s : Sto} {us xs : List W} {vs : List V} (rs : RS c μ s H) (r : RVs c H μ us vs) (e : inSeq s us = some xs) : ∃ p ys, vs = [.ref p] ∧ (SqL c.K H p ys ∨ SqT c.K H p ys) ∧ RVs c H μ xs ys := by
  unfold inSeq at e
  split at e
  · split at e
    · rename_i n _ zs e1
      cases e
      obtain ⟨v, rfl, rx⟩ := r.one'
      obtain ⟨p, ys, rfl, _, q1, r1⟩ := rx.fresh rs e1
      exact ⟨p, ys, rfl, .inl (SqL.of q1), r1⟩
    · cases e
  · cases e
    obtain ⟨v, rfl, p, ys, rfl, q1, r1⟩ := r.one'
    exact ⟨p, ys, rfl, .inr q1, r1⟩
  · cases e
theorem cr_sum' (hc : X.calm = true) : CallR X (.builtin "sum") (rN c sumW) := by
  intro pins s σ H xs us Q I rv h
  obtain ⟨μ, st, ws, rs, r, h⟩ := h
  obtain ⟨z, s', e⟩ := h.ex
  unfold sumW at e h
  obtain ⟨ns, e1, e2⟩ := Option.map_eq_some_iff.mp e
  obtain ⟨ys, e3, e4⟩ := Option.bind_eq_some_iff.mp e1
  rw [e1] at h
  obtain ⟨p, vs, rfl, q1, r1⟩ := inList_rv rs r e3
  rw [ints_rv r1 e4] at q1
  exact cr_sum hc pins s σ H _ us Q I rv ⟨p, ns, rfl, SqL.of q1, h.keep rfl rs rfl⟩
theorem cr_any' (hc : X.calm = true) : CallR X (.builtin "any") (rN c anyW) := by
  intro pins s σ H xs us Q I rv h
  obtain ⟨μ, st, ws, rs, r, h⟩ := h
  obtain ⟨z, s', e⟩ := h.ex
  unfold anyW at e h
  obtain ⟨ns, e1, e2⟩ := Option.map_eq_some_iff.mp e
  obtain ⟨ys, e3, e4⟩ := Option.bind_eq_some_iff.mp e1
  rw [e1] at h
  obtain ⟨p, vs, rfl, q1, r1⟩ := inList_rv rs r e3
  rw [bls_rv r1 e4] at q1
  exact cr_any hc pins s σ H _ us Q I rv ⟨p, ns, rfl, SqL.of q1, h.keep rfl rs rfl⟩
theorem cr_all' (hc : X.calm = true) : CallR X (.builtin "all") (rN c allW) := by
  intro pins s σ H xs us Q I rv h
  obtain ⟨μ, st, ws, rs, r, h⟩ := h
  obtain ⟨z, s', e⟩ := h.ex
  unfold allW at e h
  obtain ⟨ns, e1, e2⟩ := Option.map_eq_some_iff.mp e
  obtain ⟨ys, e3, e4⟩ := Option.bind_eq_some_iff.mp e1
  rw [e1] at h
  obtain ⟨p, vs, rfl, q1, r1⟩ := inList_rv rs r e3
  rw [bls_rv r1 e4] at q1
  exact cr_all hc pins s σ H _ us Q I rv ⟨p, ns, rfl, SqL.of q1, h.keep rfl rs rfl⟩
theorem max_is : ∀ (r : List Int) (x m : Int), m = r.foldl (fun a b => if b > a then b else a) x → m ∈ x :: r ∧ ∀ y ∈ x :: r, y ≤ m
  | [], x, m, e => by subst e; simp
  | z :: r, x, m, e => by
    rw [List.foldl_cons] at e
    obtain ⟨h1, h2⟩ := max_is r _ m e
    by_cases q : z > x
    · rw [if_pos q] at h1 h2
      refine ⟨List.mem_cons_of_mem _ h1, fun y hy => ?_⟩
      rcases List.mem_cons.mp hy with rfl | hy
      · have := h2 z (List.mem_cons_self ..)
        omega
      · exact h2 y hy
    · rw [if_neg q] at h1 h2
      refine ⟨?_, fun y hy => ?_⟩
      · rcases List.mem_cons.mp h1 with rfl | h1
        · exact List.mem_cons_self ..
        · exact List.mem_cons_of_mem _ (List.mem_cons_of_mem _ h1)
      · rcases List.mem_cons.mp hy with rfl | hy
        · exact h2 _ (List.mem_cons_self ..)
        · rcases List.mem_cons.mp hy with rfl | hy
          · have := h2 x (List.mem_cons_self ..)
            omega
          · exact h2 y (List.mem_cons_of_mem _ hy)
theorem min_is : ∀ (r : List Int) (x m : Int), m = r.foldl (fun a b => if b < a then b else a) x → m ∈ x :: r ∧ ∀ y ∈ x :: r, m ≤ y
  | [], x, m, e => by subst e; simp
  | z :: r, x, m, e => by
    rw [List.foldl_cons] at e
    obtain ⟨h1, h2⟩ := min_is r _ m e
    by_cases q : z < x
    · rw [if_pos q] at h1 h2
      refine ⟨List.mem_cons_of_mem _ h1, fun y hy => ?_⟩
      rcases List.mem_cons.mp hy with rfl | hy
      · have := h2 z (List.mem_cons_self ..)
        omega
      · exact h2 y hy
    · rw [if_neg q] at h1 h2
      refine ⟨?_, fun y hy => ?_⟩
      · rcases List.mem_cons.mp h1 with rfl | h1
        · exact List.mem_cons_self ..
        · exact List.mem_cons_of_mem _ (List.mem_cons_of_mem _ h1)
      · rcases List.mem_cons.mp hy with rfl | hy
        · exact h2 _ (List.mem_cons_self ..)
        · rcases List.mem_cons.mp hy with rfl | hy
          · have := h2 x (List.mem_cons_self ..)
            omega
          · exact h2 y (List.mem_cons_of_mem _ hy)
theorem cr_max' (hc : X.calm = true) : CallR X (.builtin "max") (rN c maxW) := by
  intro pins s σ H xs us Q I rv h
  obtain ⟨μ, st, ws, rs, r, h⟩ := h
  obtain ⟨z, s', e⟩ := h.ex
  unfold maxW at e h
  split at h
  · obtain ⟨v, v', rfl, rx, ry⟩ := r.two'
    cases (show v = _ from rx)
    cases (show v' = _ from ry)
    exact call_max2 hc pins s σ H _ us Q I rv ⟨_, _, rfl, h.keep rfl rs rfl⟩
  · rename_i h0
    split at e
    · exact absurd rfl (h0 _ _)
    · obtain ⟨m, e1, e2⟩ := Option.map_eq_some_iff.mp e
      rw [e1] at h
      obtain ⟨ns, e1, e5⟩ := Option.bind_eq_some_iff.mp e1
      obtain ⟨ys, e3, e4⟩ := Option.bind_eq_some_iff.mp e1
      obtain ⟨p, vs, rfl, q1, r1⟩ := inList_rv rs r e3
      rw [ints_rv r1 e4] at q1
      have q : Q (.int m) H := h.keep rfl rs rfl
      cases ns with
      | nil => cases e5
      | cons x l =>
        obtain ⟨h1, h2⟩ := max_is l x m (by unfold maxL at e5; cases e5; rfl)
        refine cr_max hc pins s σ H _ us Q I rv ⟨p, x :: l, rfl, SqL.of q1, Nat.succ_pos _, fun m' k1 k2 => ?_⟩
        have a1 := h2 m' k1
        have a2 := k2 m h1
        rw [show m' = m by omega]
        exact q
theorem cr_min' (hc : X.calm = true) : CallR X (.builtin "min") (rN c minW) := by
  intro pins s σ H xs us Q I rv h
  obtain ⟨μ, st, ws, rs, r, h⟩ := h
  obtain ⟨z, s', e⟩ := h.ex
  unfold minW at e h
  split at h
  · obtain ⟨v, v', rfl, rx, ry⟩ := r.two'
    cases (show v = _ from rx)
    cases (show v' = _ from ry)
    exact call_min2 hc pins s σ H _ us Q I rv ⟨_, _, rfl, h.keep rfl rs rfl⟩
  · rename_i h0
    split at e
    · exact absurd rfl (h0 _ _)
    · obtain ⟨m, e1, e2⟩ := Option.map_eq_some_iff.mp e
      rw [e1] at h
      obtain ⟨ns, e1, e5⟩ := Option.bind_eq_some_iff.mp e1
      obtain ⟨ys, e3, e4⟩ := Option.bind_eq_some_iff.mp e1
      obtain ⟨p, vs, rfl, q1, r1⟩ := inList_rv rs r e3
      rw [ints_rv r1 e4] at q1
      have q : Q (.int m) H := h.keep rfl rs rfl
      cases ns with
      | nil => cases e5
      | cons x l =>
        obtain ⟨h1, h2⟩ := min_is l x m (by unfold minL at e5; cases e5; rfl)
        refine cr_min hc pins s σ H _ us Q I rv ⟨p, x :: l, rfl, SqL.of q1, Nat.succ_pos _, fun m' k1 k2 => ?_⟩
        have a1 := h2 m' k1
        have a2 := k2 m h1
        rw [show m' = m by omega]
        exact q
theorem ty_tup {K : PySem.W.Frag} {a : Addr} {xs : List V} (h : SqT K H a xs) : TyX K H (.ref a) (.type "tuple") := by
  rcases h with (h | ⟨o, h⟩) | ⟨o, its, n, h1, h2, _⟩
  · exact .base (.tup h)
  · exact .fTuple h
  · exact .kTuple h1 h2
theorem tyN_ok {s : Sto} {w : W} {v : V} {n : String} (rs : RS c μ s H) (r : RV c H μ w v) (e : tyN s w = some n) : TyX c.K H v (.type n) := by
  unfold tyN at e
  split at e
  · cases e; cases (show v = _ from r); exact .base .non
  · cases e; cases (show v = _ from r); exact .base (.bl _)
  · cases e; cases (show v = _ from r); exact .base (.int _)
  · cases e; cases (show v = _ from r); exact .base (.str _)
  · cases e
    obtain ⟨p, vs, rfl, q1, r1⟩ := r
    exact ty_tup q1
  · split at e
    · rename_i e1
      cases e
      obtain ⟨p, vs, rfl, _, q1, r1⟩ := r.fresh rs e1
      exact .base (.lst q1)
    · cases e
  · cases e
theorem se_isi (hK : c.K = X.K) {T : String} {e : Expr} {m : Env → M W} (h : PE X e (tCB (rIsi X.K) (tCons (tE c E m) (tCons (tC (.ty T)) tNil)))) : PE X e (tE c E (e1 (isiW T) m)) := h.w fun σ H Q => by
  rintro ⟨ρ, μ, s, re, rs, h⟩
  refine ⟨ρ, μ, s, re, rs, h.bind fun w μ1 s1 H1 g1 rs1 h1 v rv => ?_⟩
  have h2 := post.of h1
  obtain ⟨z, s', e⟩ := h2.ex
  unfold isiW at e h2
  obtain ⟨a, e1, e2⟩ := Option.bind_eq_some_iff.mp e
  obtain ⟨b, e3, e4⟩ := Option.map_eq_some_iff.mp e2
  rw [e1] at h2
  refine ⟨v, .ty T, .type a, .type T, b, rfl, .ty T, ?_, kit_ty e3, h2.keep (z := .bl b) (v := .bl b) (show (kitB a T).map _ = _ by rw [e3]; rfl) rs1 rfl⟩
  rw [← hK]
  exact tyN_ok rs1 rv e1
def rM (c : Cfg) (g : W → List W → O W) : V → List V → Hp → VK → Prop := fun x xs H Q => ∃ μ s u us, RS c μ s H ∧ RV c H μ u x ∧ RVs c H μ us xs ∧ post c μ s H (g u us s) Q
theorem isT_ok (hK : c.K = X.K) {s : Sto} {w : W} {v : V} {T : String} (rs : RS c μ s H) (r : RV c H μ w v) (e : isT s T w = true) : tyV X.K T v H := by
  unfold isT at e
  split at e
  · cases (show v = _ from r)
    have e' : T = "str" := of_decide_eq_true e
    exact e'
  · split at e
    · rename_i e1
      obtain ⟨p, vs, rfl, _, q1, r1⟩ := r.fresh rs e1
      exact .inl ⟨of_decide_eq_true e, vs, SqL.of q1⟩
    · cases e
  · cases e
theorem se_bm (hK : c.K = X.K) {T : String} {g : W → List W → O W} {e : Expr} {m : Env → M W} {ma : Env → M (List W)} (h : PE X e (tBM X.K T (rM c g) (tE c E m) (tA c E ma))) : PE X e (tE c E (eM T g m ma)) := h.w fun σ H Q => by
  rintro ⟨ρ, μ, s, re, rs, h⟩
  refine ⟨ρ, μ, s, re, rs, h.bind fun w μ1 s1 H1 g1 rs1 h1 v rv => ?_⟩
  by_cases z : isT s1 T w = true
  · rw [if_pos z] at h1
    refine ⟨isT_ok hK rs1 rv z, ρ, μ1, s1, re.go rs g1, rs1, h1.bind fun ws μ2 s2 H2 g2 rs2 h2 vs rvs => ?_⟩
    exact ⟨μ2, s2, w, ws, rs2, rv.go rs1 g2, rvs, post.of h2⟩
  · rw [if_neg z] at h1
    exact h1.elim
theorem se_bm0 (hK : c.K = X.K) {T : String} {g : W → List W → O W} {e : Expr} {m : Env → M W} (h : PE X e (tBM0 X.K T (rM c g) (tE c E m))) : PE X e (tE c E (eM T g m aNil)) := h.w fun σ H Q => by
  rintro ⟨ρ, μ, s, re, rs, h⟩
  refine ⟨ρ, μ, s, re, rs, h.bind fun w μ1 s1 H1 g1 rs1 h1 v rv => ?_⟩
  by_cases z : isT s1 T w = true
  · rw [if_pos z] at h1
    exact ⟨isT_ok hK rs1 rv z, μ1, s1, w, [], rs1, rv, rfl, post.of h1⟩
  · rw [if_neg z] at h1
    exact h1.elim
theorem mt_append' : MtR X "list.append" (rM c appendW) := by
  intro pins s σ H x xs v us Q I rx rv h
  obtain ⟨μ, st, u, ws, rs, ru, r, h⟩ := h
  unfold appendW at h
  split at h
  · split at h
    · rename_i n w _ ys e1
      split at h
      · rename_i hl
        obtain ⟨y, rfl, ry⟩ := r.one'
        obtain ⟨p, vs, rfl, hp, q1, r1⟩ := ru.fresh rs e1
        have l := r1.len
        exact mt_append pins s σ H _ _ v us Q I rx rv ⟨p, vs, y, rfl, rfl, q1, by omega, h.put rfl rs hp e1 (r1.app (.one ry)) rfl⟩
      · exact h.no.elim
    · exact h.no.elim
  · exact h.no.elim
theorem mt_pop' : MtR X "list.pop" (rM c popW) := by
  intro pins s σ H x xs v us Q I rx rv h
  obtain ⟨μ, st, u, ws, rs, ru, r, h⟩ := h
  unfold popW at h
  split at h
  · split at h
    · rename_i n _ ys e1
      obtain ⟨p, vs, rfl, hp, q1, r1⟩ := ru.fresh rs e1
      have l := r1.len
      cases e2 : ys[ys.length - 1]? with
      | none => rw [e2] at h; exact h.no.elim
      | some w =>
        rw [e2] at h
        obtain ⟨y, h1, h2⟩ := r1.get e2
        exact mt_pop pins s σ H _ _ v us Q I rx rv ⟨p, vs, y, rfl, r, q1, by rw [l]; exact h1, h.put rfl rs hp e1 r1.dropLast h2⟩
    · exact h.no.elim
  · split at h
    · rename_i n i _ ys e1
      split at h
      · rename_i hi
        obtain ⟨y0, rfl, ry⟩ := r.one'
        cases (show y0 = _ from ry)
        obtain ⟨p, vs, rfl, hp, q1, r1⟩ := ru.fresh rs e1
        have l := r1.len
        cases e3 : seqIndex? i ys.length with
        | none => rw [e3] at h; exact h.no.elim
        | some k =>
          rw [e3] at h
          cases e2 : ys[k]? with
          | none =>
            rw [show ((some k).bind fun k => (ys[k]?).map fun w => (w, st.set n (.lst (ys.eraseIdx k)))) = none by show (ys[k]?).map _ = _; rw [e2]; rfl] at h
            exact h.no.elim
          | some w =>
            rw [show ((some k).bind fun k => (ys[k]?).map fun w => (w, st.set n (.lst (ys.eraseIdx k)))) = some (w, st.set n (.lst (ys.eraseIdx k))) by show (ys[k]?).map _ = _; rw [e2]; rfl] at h
            obtain ⟨y, h1, h2⟩ := r1.get e2
            exact mt_popAt pins s σ H _ _ v us Q I rx rv ⟨p, vs, i, k, y, rfl, rfl, q1, hi.1, hi.2, by rw [l]; exact e3, h1, h.put rfl rs hp e1 (r1.erase k) h2⟩
      · exact h.no.elim
    · exact h.no.elim
  · exact h.no.elim
theorem mt_reverse' : MtR X "list.reverse" (rM c reverseW) := by
  intro pins s σ H x xs v us Q I rx rv h
  obtain ⟨μ, st, u, ws, rs, ru, r, h⟩ := h
  unfold reverseW at h
  split at h
  · split at h
    · rename_i n _ ys e1
      obtain ⟨p, vs, rfl, hp, q1, r1⟩ := ru.fresh rs e1
      exact mt_reverse pins s σ H _ _ v us Q I rx rv ⟨p, vs, rfl, r, q1, h.put rfl rs hp e1 r1.rev rfl⟩
    · exact h.no.elim
  · exact h.no.elim
theorem mt_extend' : MtR X "list.extend" (rM c extendW) := by
  intro pins s σ H x xs v us Q I rx rv h
  obtain ⟨μ, st, u, ws, rs, ru, r, h⟩ := h
  unfold extendW at h
  split at h
  · split at h
    · rename_i n m ys zs e1 e2
      split at h
      · rename_i hl
        obtain ⟨y, rfl, ry⟩ := r.one'
        obtain ⟨p, vs, rfl, hp, q1, r1⟩ := ru.fresh rs e1
        obtain ⟨b, vs2, rfl, hb, q2, r2⟩ := ry.fresh rs e2
        have l := r1.len
        have l2 := r2.len
        exact mt_extend pins s σ H _ _ v us Q I rx rv ⟨p, b, vs, vs2, rfl, rfl, q1, q2, by omega, h.put rfl rs hp e1 (r1.app r2) rfl⟩
      · exact h.no.elim
    · exact h.no.elim
  · exact h.no.elim
theorem mt_insert' : MtR X "list.insert" (rM c insertW) := by
  intro pins s σ H x xs v us Q I rx rv h
  obtain ⟨μ, st, u, ws, rs, ru, r, h⟩ := h
  unfold insertW at h
  split at h
  · split at h
    · rename_i n i w _ ys e1
      split at h
      · rename_i hl
        obtain ⟨y, y', rfl, ry, ry'⟩ := r.two'
        cases (show y = _ from ry)
        obtain ⟨p, vs, rfl, hp, q1, r1⟩ := ru.fresh rs e1
        have l := r1.len
        exact mt_insert pins s σ H _ _ v us Q I rx rv ⟨p, vs, i, y', rfl, rfl, q1, by omega, hl.2.1, hl.2.2, h.put rfl rs hp e1 (((r1.take _).app (.one ry')).app (r1.drop _)) rfl⟩
      · exact h.no.elim
    · exact h.no.elim
  · exact h.no.elim
theorem sum_S (ys : List (List Nat)) : ((ys.map S).map fun x : Str => x.length) = ys.map List.length := by
  induction ys with
  | nil => rfl
  | cons y r ih =>
    rw [List.map_cons, List.map_cons, List.map_cons, ih]
    rfl
theorem mt_join' (hK : c.K = X.K) : MtR X "str.join" (rM c joinW) := by
  intro pins s σ H x xs v us Q I rx rv h
  obtain ⟨μ, st, u, ws, rs, ru, r, h⟩ := h
  unfold joinW at h
  split at h
  · rename_i a
    split at h
    · rename_i ys e1
      split at h
      · rename_i hl
        obtain ⟨zs, e3, e4⟩ := Option.bind_eq_some_iff.mp e1
        obtain ⟨p, vs, rfl, q1, r1⟩ := inSeq_rv rs r e3
        rw [strs_rv r1 e4, hK] at q1
        refine mt_join pins s σ H _ _ v us Q I rx rv ⟨S a, p, ys.map S, ru, rfl, q1, ?_, ?_⟩
        · rw [sum_S, List.length_map]
          exact hl
        · rw [show Txt.join (S a) (ys.map S) = S (TL.joinL a ys) from SX.join_S a ys]
          exact h.keep rfl rs rfl
      · exact h.no.elim
    · exact h.no.elim
  · exact h.no.elim
theorem RVs_strs : ∀ ys : List (List Nat), RVs c H μ (ys.map .str) ((ys.map S).map V.str)
  | [] => rfl
  | y :: ys => ⟨_, _, rfl, rfl, RVs_strs ys⟩
theorem mt_split' : MtR X "str.split" (rM c splitW) := by
  intro pins s σ H x xs v us Q I rx rv h
  obtain ⟨μ, st, u, ws, rs, ru, r, h⟩ := h
  unfold splitW at h
  split at h
  · split at h
    · rename_i a b hz
      obtain ⟨y, rfl, ry⟩ := r.one'
      refine mt_split pins s σ H _ _ v us Q I rx rv ⟨S a, S b, ru, congrArg (fun v => [v]) ry, ?_, hz.2.2, ?_⟩
      · cases b with
        | nil => exact absurd rfl hz.1
        | cons q b => rfl
      · rw [SX.split_S hz.1 hz.2.1]
        exact h.lst rfl rs (RVs_strs _)
    · exact h.no.elim
  · exact h.no.elim
theorem mt_starts' : MtR X "str.startswith" (rM c startsW) := by
  intro pins s σ H x xs v us Q I rx rv h
  obtain ⟨μ, st, u, ws, rs, ru, r, h⟩ := h
  unfold startsW at h
  split at h
  · obtain ⟨y, rfl, ry⟩ := r.one'
    exact mt_startswith pins s σ H _ _ v us Q I rx rv ⟨_, _, ru, congrArg (fun v => [v]) ry, h.keep rfl rs rfl⟩
  · exact h.no.elim
theorem mt_rjust' : MtR X "str.rjust" (rM c rjustW) := by
  intro pins s σ H x xs v us Q I rx rv h
  obtain ⟨μ, st, u, ws, rs, ru, r, h⟩ := h
  unfold rjustW at h
  split at h
  · split at h
    · rename_i a i f hz
      obtain ⟨y, y', rfl, ry, ry'⟩ := r.two'
      cases (show y = _ from ry)
      cases (show y' = _ from ry')
      exact FL.mt_rjustF pins s σ H _ _ v us Q I rx rv ⟨S a, i, S [f], ru, rfl, hz, rfl, h.keep rfl rs (show V.str _ = V.str _ from congrArg V.str (S_of _).symm)⟩
    · exact h.no.elim
  · exact h.no.elim
end
end ME

set_option Elab.async false
set_option linter.all false
set_option maxRecDepth 100000
set_option maxHeartbeats 1000000
/-! ### statements -/
namespace ME
open PySem PySem.Spec PyProof.Rows L2
inductive Fl where
  | nx (ρ : Env) | rt (w : W) | bk (ρ : Env) | ct (ρ : Env) | ex (e : Er) (ρ : Env)
abbrev SR := Option (Fl × Sto)
abbrev SM := Env → Sto → SR
def ends (c : Cfg) (W0 : WX) (D : Ends) (μ : List Addr) (H : Hp) : Fl → Prop
  | .nx ρ => ∀ σ, RE c H μ ρ σ → D.nx σ H
  | .rt w => ∀ v, RV c H μ w v → D.rt v H
  | .bk ρ => ∀ σ, RE c H μ ρ σ → D.bk σ H
  | .ct ρ => ∀ σ, RE c H μ ρ σ → D.ct σ H
  | .ex e ρ => ∀ σ k d, RE c H μ ρ σ → RX c H μ e k d → W0 k d σ H
def fin (c : Cfg) (W0 : WX) (D : Ends) (μ : List Addr) (H : Hp) (fl : Fl) (s' : Sto) : Prop := ∀ μ' H', Go μ H μ' H' → RS c μ' s' H' → ends c W0 D μ' H' fl
theorem fin.go {c : Cfg} {W0 : WX} {D : Ends} {μ μ1 : List Addr} {H H1 : Hp} {fl : Fl} {s' : Sto} (q : fin c W0 D μ H fl s') (g : Go μ H μ1 H1) : fin c W0 D μ1 H1 fl s' := fun μ' H' g' rs => q μ' H' (g.trans g') rs
def tS (c : Cfg) (W0 : WX) (m : SM) : TS := fun D σ H => ∃ ρ μ s fl s', RE c H μ ρ σ ∧ RS c μ s H ∧ m ρ s = some (fl, s') ∧ fin c W0 D μ H fl s'
def ofM {α : Type} (ρ : Env) (m : M α) (k : α → Sto → SR) : Sto → SR := fun s => match m s with
  | .ok a s' => k a s'
  | .er e s' => some (.ex e ρ, s')
  | .no => none
theorem ofM_after {α : Type} {c : Cfg} {W0 : WX} {D : Ends} {μ : List Addr} {H : Hp} {ρ : Env} {σ : L2.St} {m : M α} {k : α → Sto → SR} {s s' : Sto} {fl : Fl} {Q2 : α → List Addr → Sto → Hp → Prop}
    (e : ofM ρ m k s = some (fl, s')) (re : RE c H μ ρ σ) (rs : RS c μ s H) (q : fin c W0 D μ H fl s')
    (K : ∀ a μ1 s1 H1, Go μ H μ1 H1 → RS c μ1 s1 H1 → k a s1 = some (fl, s') → fin c W0 D μ1 H1 fl s' → Q2 a μ1 s1 H1) : after c (WE W0 σ) μ H (m s) Q2 := by
  unfold ofM at e
  cases z : m s with
  | no => rw [z] at e; cases e
  | er x s1 =>
    rw [z] at e
    cases e
    exact fun μ' H' k d g rs' rx => q μ' H' g rs' σ k d (re.go rs g) rx
  | ok a s1 =>
    rw [z] at e
    exact fun μ1 H1 g rs1 => K a μ1 s1 H1 g rs1 e (q.go g)
/-! the mirrors -/
def sSkip : SM := fun ρ s => some (.nx ρ, s)
def sBreak : SM := fun ρ s => some (.bk ρ, s)
def sCont : SM := fun ρ s => some (.ct ρ, s)
def sSeq (a b : SM) : SM := fun ρ s => match a ρ s with
  | some (.nx ρ', s') => b ρ' s'
  | r => r
def sExpr (m : Env → M W) : SM := fun ρ => ofM ρ (m ρ) fun _ s => some (.nx ρ, s)
def sRet (m : Env → M W) : SM := fun ρ => ofM ρ (m ρ) fun w s => some (.rt w, s)
def sRetN : SM := fun ρ s => some (.rt .non, s)
def sIf (t : Env → M Bool) (a b : SM) : SM := fun ρ => ofM ρ (t ρ) fun k s => if k = true then a ρ s else b ρ s
abbrev GM := W → Env → Sto → Option (Env × Sto)
abbrev GMs := List W → Env → Sto → Option (Env × Sto)
def gN (i : Nat) : GM := fun w ρ s => some (ρ.set i (some w), s)
def gsNil : GMs := fun ws ρ s => match ws with
  | [] => some (ρ, s)
  | _ => none
def gsCons (g : GM) (r : GMs) : GMs := fun ws ρ s => match ws with
  | w :: ws => (g w ρ s).bind fun p => r ws p.1 p.2
  | [] => none
def gT (n : Nat) (g : GMs) : GM := fun w ρ s => match w with
  | .tup ws => if ws.length = n then g ws ρ s else none
  | _ => none
def setAt (o i w : W) (s : Sto) : Option Sto := match o, i with
  | .ref n, .int k => match s[n]? with
    | some (.lst xs) => (ixN xs.length k).map fun j => s.set n (.lst (xs.set j w))
    | _ => none
  | _, _ => none
def gS (o i : Env → M W) : GM := fun w ρ s => match o ρ s with
  | .ok a s1 => match i ρ s1 with
    | .ok b s2 => (setAt a b w s2).map fun s3 => (ρ, s3)
    | _ => none
  | _ => none
def sAsg (m : Env → M W) (g : GM) : SM := fun ρ => ofM ρ (m ρ) fun w s => (g w ρ s).map fun p => (.nx p.1, p.2)
def sPar (i j : Nat) (m : Env → M (List W)) : SM := fun ρ => ofM ρ (m ρ) fun ws s => match ws with
  | [v, w] => some (.nx ((ρ.set i (some v)).set j (some w)), s)
  | _ => none
def sAug (i : Nat) (g : W → W → O W) (m : Env → M W) : SM := fun ρ s => match ρ[i]? with
  | some (some x) => ofM ρ (m ρ) (fun y s1 => (g x y s1).map fun p => (.nx (ρ.set i (some p.1)), p.2)) s
  | _ => none
def loopNext (k : SM) : SR → SR
  | some (.nx ρ, s) => k ρ s
  | some (.ct ρ, s) => k ρ s
  | some (.bk ρ, s) => some (.nx ρ, s)
  | r => r
def whileN (t : Env → M Bool) (b : SM) : Nat → SM
  | 0 => fun _ _ => none
  | n + 1 => fun ρ => ofM ρ (t ρ) fun k s => if k = true then loopNext (whileN t b n) (b ρ s) else some (.nx ρ, s)
open Classical in
noncomputable def sWhile (t : Env → M Bool) (b : SM) : SM := fun ρ s => if h : ∃ n r, whileN t b n ρ s = some r then whileN t b (Classical.choose h) ρ s else none
abbrev Lock := Option (Nat × List W)
def okL (l : Lock) (s : Sto) : Prop := match l with
  | none => True
  | some (n, xs) => s[n]? = some (.lst xs)
noncomputable instance okL_dec (l : Lock) (s : Sto) : Decidable (okL l s) := Classical.propDecidable _
noncomputable def forN (l : Lock) (g : GM) (b : SM) : List W → SM
  | [] => fun ρ s => if okL l s then some (.nx ρ, s) else none
  | w :: r => fun ρ s => if okL l s then match g w ρ s with
    | some p => loopNext (forN l g b r) (b p.1 p.2)
    | none => none
    else none
abbrev IM := Env → M (List W × Lock)
noncomputable def sFor (im : IM) (g : GM) (b : SM) : SM := fun ρ => ofM ρ (im ρ) fun p s => forN p.2 g b p.1 ρ s
def sRaise (k : Nat) : SM := fun ρ s => some (.ex ⟨k, none⟩ ρ, s)
/-! weakening -/
theorem _root_.L2.PS.w {X : Cx} {e : Stmt} {t t' : TS} (h : PS X e t) (k : ∀ D σ H, t' D σ H → t D σ H) : PS X e t' := ⟨fun pins s σ H D I q => h.run pins s σ H D I (k _ _ _ q)⟩
theorem _root_.L2.PSs.w {X : Cx} {e : List Stmt} {t t' : TS} (h : PSs X e t) (k : ∀ D σ H, t' D σ H → t D σ H) : PSs X e t' := ⟨fun pins s σ H D I q => h.run pins s σ H D I (k _ _ _ q)⟩
theorem _root_.L2.PG.w {X : Cx} {e : Expr} {t t' : TG} (h : PG X e t) (k : ∀ v σ H Q, t' v σ H Q → t v σ H Q) : PG X e t' := ⟨fun pins s σ H v u Q I r q => h.run pins s σ H v u Q I r (k _ _ _ _ q)⟩
theorem _root_.L2.PGs.w {X : Cx} {e : List Expr} {t t' : TGs} (h : PGs X e t) (k : ∀ v σ H Q, t' v σ H Q → t v σ H Q) : PGs X e t' := ⟨fun pins s σ H v u Q I r q => h.run pins s σ H v u Q I r (k _ _ _ _ q)⟩
theorem _root_.L2.PI.w {X : Cx} {tg e : Expr} {t t' : TI} (h : PI X tg e t) (k : ∀ σ H R, t' σ H R → t σ H R) : PI X tg e t' := ⟨fun pins s σ H R I q => h.run pins s σ H R I (k _ _ _ q)⟩
def tG (c : Cfg) (g : GM) : TG := fun v σ H Q => ∃ ρ μ s w ρ' s', RE c H μ ρ σ ∧ RS c μ s H ∧ RV c H μ w v ∧ g w ρ s = some (ρ', s') ∧ ∀ μ' H' σ', Go μ H μ' H' → RS c μ' s' H' → RE c H' μ' ρ' σ' → Q σ' H'
def tGs (c : Cfg) (g : GMs) : TGs := fun vs σ H Q => ∃ ρ μ s ws ρ' s', RE c H μ ρ σ ∧ RS c μ s H ∧ RVs c H μ ws vs ∧ g ws ρ s = some (ρ', s') ∧ ∀ μ' H' σ', Go μ H μ' H' → RS c μ' s' H' → RE c H' μ' ρ' σ' → Q σ' H'
section
variable {c : Cfg} {X : Cx} {W0 : WX} {e : Expr} {st : Stmt} {sts : List Stmt}
theorem sg_name {i : Nat} (h : PG X e (gName i)) : PG X e (tG c (gN i)) := h.w fun v σ H Q => by
  rintro ⟨ρ, μ, s, w, ρ', s', re, rs, rv, eg, q⟩
  cases eg
  exact q μ H _ (Go.refl _ _) rs (re.set i rv)
theorem sgs_nil : PGs X [] (tGs c gsNil) := pgs_nil.w fun v σ H Q => by
  rintro ⟨ρ, μ, s, w, ρ', s', re, rs, rv, eg, q⟩
  unfold gsNil at eg
  split at eg
  · cases eg
    exact ⟨rv, q μ H _ (Go.refl _ _) rs re⟩
  · cases eg
theorem sgs_cons {es : List Expr} {g : GM} {r : GMs} (h : PGs X (e :: es) (gCons (tG c g) (tGs c r))) : PGs X (e :: es) (tGs c (gsCons g r)) := h.w fun v σ H Q => by
  rintro ⟨ρ, μ, s, ws, ρ', s', re, rs, rv, eg, q⟩
  unfold gsCons at eg
  split at eg
  · rename_i w ws
    obtain ⟨⟨ρ1, s1⟩, e1, e2⟩ := Option.bind_eq_some_iff.mp eg
    obtain ⟨v, vs, rfl, r1, r2⟩ := rv
    refine ⟨v, vs, rfl, ρ, μ, s, w, ρ1, s1, re, rs, r1, e1, fun μ1 H1 σ1 g1 rs1 re1 => ?_⟩
    exact ⟨ρ1, μ1, s1, ws, ρ', s', re1, rs1, r2.go rs g1, e2, fun μ2 H2 σ2 g2 => q μ2 H2 σ2 (g1.trans g2)⟩
  · cases eg
theorem sg_tup (hK : c.K = X.K) {n : Nat} {g : GMs} (h : PG X e (gTup X.K n (tGs c g))) : PG X e (tG c (gT n g)) := h.w fun v σ H Q => by
  rintro ⟨ρ, μ, s, w, ρ', s', re, rs, rv, eg, q⟩
  unfold gT at eg
  split at eg
  · split at eg
    · rename_i ws hl
      obtain ⟨a, vs, rfl, q1, r1⟩ := rv
      have l := r1.len
      rw [hK] at q1
      exact ⟨a, vs, rfl, q1, by omega, ρ, μ, s, ws, ρ', s', re, rs, r1, eg, q⟩
    · cases eg
  · cases eg
theorem sg_sub {E : L2.St → XK} (G : Ctx c X E) {o i : Env → M W} (h : PG X e (gSub (tE c E o) (tE c E i) rSetL)) : PG X e (tG c (gS o i)) := h.w fun v σ H Q => by
  rintro ⟨ρ, μ, s, w, ρ', s', re, rs, rv, eg, q⟩
  unfold gS at eg
  split at eg
  · rename_i a s1 e1
    split at eg
    · rename_i b s2 e2
      obtain ⟨s3, e3, e4⟩ := Option.map_eq_some_iff.mp eg
      cases e4
      refine ⟨ρ, μ, s, re, rs, ?_⟩
      rw [e1]
      intro μ1 H1 g1 rs1 av ra
      refine ⟨ρ, μ1, s1, re.go rs g1, rs1, ?_⟩
      rw [e2]
      intro μ2 H2 g2 rs2 bv rb
      unfold setAt at e3
      split at e3
      · split at e3
        · rename_i n k _ xs e5
          obtain ⟨j, e6, rfl⟩ := Option.map_eq_some_iff.mp e3
          obtain ⟨p, vs, rfl, hp, q1, r1⟩ := (ra.go rs1 g2).fresh rs2 e5
          have l := r1.len
          have rv2 := rv.go rs (g1.trans g2)
          obtain ⟨g3, rs3⟩ := rs2.put hp e5 (r1.set j rv2)
          exact ⟨p, vs, k, j, rfl, rb, q1, by rw [l]; exact e6, q μ2 _ σ ((g1.trans g2).trans g3) rs3 (re.go rs ((g1.trans g2).trans g3))⟩
        · cases e3
      · cases e3
    · cases eg
  · cases eg
/-! statements -/
theorem ss_pass (h : PS X st tNext) : PS X st (tS c W0 sSkip) := h.w fun D σ H => by
  rintro ⟨ρ, μ, s, fl, s', re, rs, e, q⟩
  cases e
  exact q μ H (Go.refl _ _) rs σ re
theorem ss_break (h : PS X st tBreak) : PS X st (tS c W0 sBreak) := h.w fun D σ H => by
  rintro ⟨ρ, μ, s, fl, s', re, rs, e, q⟩
  cases e
  exact q μ H (Go.refl _ _) rs σ re
theorem ss_cont (h : PS X st tCont) : PS X st (tS c W0 sCont) := h.w fun D σ H => by
  rintro ⟨ρ, μ, s, fl, s', re, rs, e, q⟩
  cases e
  exact q μ H (Go.refl _ _) rs σ re
theorem sss_nil : PSs X [] (tS c W0 sSkip) := pss_nil.w fun D σ H => by
  rintro ⟨ρ, μ, s, fl, s', re, rs, e, q⟩
  cases e
  exact q μ H (Go.refl _ _) rs σ re
theorem sss_cons {a b : SM} (h1 : PS X st (tS c W0 a)) (h2 : PSs X sts (tS c W0 b)) : PSs X (st :: sts) (tS c W0 (sSeq a b)) := (pss_cons h1 h2).w fun D σ H => by
  rintro ⟨ρ, μ, s, fl, s', re, rs, e, q⟩
  unfold sSeq at e
  cases z : a ρ s with
  | none => rw [z] at e; cases e
  | some p =>
    obtain ⟨f1, s1⟩ := p
    rw [z] at e
    refine ⟨ρ, μ, s, f1, s1, re, rs, z, fun μ1 H1 g1 rs1 => ?_⟩
    cases f1 with
    | nx ρ1 => exact fun σ1 re1 => ⟨ρ1, μ1, s1, fl, s', re1, rs1, e, q.go g1⟩
    | _ => cases e; exact q μ1 H1 g1 rs1
theorem sss_one {a : SM} (h1 : PS X st (tS c W0 a)) : PSs X [st] (tS c W0 a) := pss_one h1
theorem ss_expr {m : Env → M W} (h : PS X st (tDrop (tE c (WE W0) m))) : PS X st (tS c W0 (sExpr m)) := h.w fun D σ H => by
  rintro ⟨ρ, μ, s, fl, s', re, rs, e, q⟩
  refine ⟨ρ, μ, s, re, rs, ofM_after e re rs q fun w μ1 s1 H1 g1 rs1 e1 q1 v rv => ?_⟩
  cases e1
  exact q1 μ1 H1 (Go.refl _ _) rs1 σ (re.go rs g1)
theorem ss_ret {m : Env → M W} (h : PS X st (tRet (tE c (WE W0) m))) : PS X st (tS c W0 (sRet m)) := h.w fun D σ H => by
  rintro ⟨ρ, μ, s, fl, s', re, rs, e, q⟩
  refine ⟨ρ, μ, s, re, rs, ofM_after e re rs q fun w μ1 s1 H1 g1 rs1 e1 q1 v rv => ?_⟩
  cases e1
  exact q1 μ1 H1 (Go.refl _ _) rs1 v rv
theorem ss_retN (h : PS X st tRetN) : PS X st (tS c W0 sRetN) := h.w fun D σ H => by
  rintro ⟨ρ, μ, s, fl, s', re, rs, e, q⟩
  cases e
  exact q μ H (Go.refl _ _) rs _ rfl
theorem ss_if {t : Env → M Bool} {a b : SM} (h : PS X st (tIfS (tT c (WE W0) t) (tS c W0 a) (tS c W0 b))) : PS X st (tS c W0 (sIf t a b)) := h.w fun D σ H => by
  rintro ⟨ρ, μ, s, fl, s', re, rs, e, q⟩
  refine ⟨ρ, μ, s, re, rs, ofM_after e re rs q fun k μ1 s1 H1 g1 rs1 e1 q1 => ?_⟩
  have re1 := re.go rs g1
  cases k with
  | true => exact ⟨ρ, μ1, s1, fl, s', re1, rs1, e1, q1⟩
  | false => exact ⟨ρ, μ1, s1, fl, s', re1, rs1, e1, q1⟩
theorem w_asg {m : Env → M W} {g : GM} {D : Ends} {σ : L2.St} {H : Hp} (h : tS c W0 (sAsg m g) D σ H) : tAsg (tE c (WE W0) m) (tG c g) D σ H := by
  obtain ⟨ρ, μ, s, fl, s', re, rs, e, q⟩ := h
  refine ⟨ρ, μ, s, re, rs, ofM_after e re rs q fun w μ1 s1 H1 g1 rs1 e1 q1 v rv => ?_⟩
  obtain ⟨⟨ρ2, s2⟩, e2, e3⟩ := Option.map_eq_some_iff.mp e1
  cases e3
  exact ⟨ρ, μ1, s1, w, ρ2, s2, re.go rs g1, rs1, rv, e2, fun μ3 H3 σ3 g3 rs3 re3 => q1 μ3 H3 g3 rs3 σ3 re3⟩
theorem ss_asg {m : Env → M W} {g : GM} (h : PS X st (tAsg (tE c (WE W0) m) (tG c g))) : PS X st (tS c W0 (sAsg m g)) := h.w fun _ _ _ => w_asg
theorem ss_set {m : Env → M W} {i : Nat} (h : PS X st (tAsg (tE c (WE W0) m) (gName i))) : PS X st (tS c W0 (sAsg m (gN i))) := h.w fun D σ H h => by
  obtain ⟨ρ, μ, s, fl, s', re, rs, e, q⟩ := h
  refine ⟨ρ, μ, s, re, rs, ofM_after e re rs q fun w μ1 s1 H1 g1 rs1 e1 q1 v rv => ?_⟩
  cases e1
  exact q1 μ1 H1 (Go.refl _ _) rs1 _ ((re.go rs g1).set i rv)
theorem ss_par {m : Env → M (List W)} {i j : Nat} (h : PS X st (tPar i j (tA c (WE W0) m))) : PS X st (tS c W0 (sPar i j m)) := h.w fun D σ H h => by
  obtain ⟨ρ, μ, s, fl, s', re, rs, e, q⟩ := h
  refine ⟨ρ, μ, s, re, rs, ofM_after e re rs q fun w μ1 s1 H1 g1 rs1 e1 q1 v rv => ?_⟩
  split at e1
  · cases e1
    obtain ⟨v, v', rfl, r1, r2⟩ := rv.two'
    exact ⟨v, v', rfl, q1 μ1 H1 (Go.refl _ _) rs1 _ (((re.go rs g1).set i r1).set j r2)⟩
  · cases e1
theorem ss_aug {i : Nat} {g : W → W → O W} {m : Env → M W} (h : PS X st (tAug i (tE c (WE W0) m) (rO c g))) : PS X st (tS c W0 (sAug i g m)) := h.w fun D σ H h => by
  obtain ⟨ρ, μ, s, fl, s', re, rs, e, q⟩ := h
  unfold sAug at e
  split at e
  · rename_i x ex
    obtain ⟨xv, e1, rx⟩ := re.2 i x ex
    refine ⟨xv, e1, ρ, μ, s, re, rs, ofM_after e re rs q fun y μ1 s1 H1 g1 rs1 e2 q1 v rv => ?_⟩
    obtain ⟨⟨z, s2⟩, e3, e4⟩ := Option.map_eq_some_iff.mp e2
    cases e4
    refine ⟨μ1, s1, x, y, rs1, rx.go rs g1, rv, z, s2, e3, fun μ2 H2 v2 g2 rs2 rv2 => ?_⟩
    exact q1 μ2 H2 g2 rs2 _ ((re.go rs (g1.trans g2)).set i rv2)
  · cases e
theorem ss_raise {k : Nat} (h : PS X st (fun _ σ H => W0 (.ref (c.cls k)) none σ H)) : PS X st (tS c W0 (sRaise k)) := h.w fun D σ H h => by
  obtain ⟨ρ, μ, s, fl, s', re, rs, e, q⟩ := h
  cases e
  exact q μ H (Go.refl _ _) rs σ _ _ re ⟨rfl, rfl⟩
/-! while -/
theorem loopNext_cases {k : SM} {r : SR} {fl : Fl} {s' : Sto} (h : loopNext k r = some (fl, s')) : ∃ f1 s1, r = some (f1, s1) ∧ ((∃ ρ, (f1 = .nx ρ ∨ f1 = .ct ρ) ∧ k ρ s1 = some (fl, s')) ∨ (∃ ρ, f1 = .bk ρ ∧ fl = .nx ρ ∧ s' = s1) ∨ (f1 = fl ∧ s1 = s' ∧ ((∃ w, fl = .rt w) ∨ ∃ e ρ, fl = .ex e ρ))) := by
  cases r with
  | none => cases h
  | some p =>
    obtain ⟨f1, s1⟩ := p
    refine ⟨f1, s1, rfl, ?_⟩
    cases f1 with
    | nx ρ => exact .inl ⟨ρ, .inl rfl, h⟩
    | ct ρ => exact .inl ⟨ρ, .inr rfl, h⟩
    | bk ρ => cases h; exact .inr (.inl ⟨ρ, rfl, rfl, rfl⟩)
    | rt w => cases h; exact .inr (.inr ⟨rfl, rfl, .inl ⟨w, rfl⟩⟩)
    | ex e ρ => cases h; exact .inr (.inr ⟨rfl, rfl, .inr ⟨e, ρ, rfl⟩⟩)
/-- a turn of a loop -/
theorem turn_of {D : Ends} {N : L2.St → Hp → Prop} {b k : SM} {ρ : Env} {s : Sto} {fl : Fl} {s' : Sto} {μ : List Addr} {H : Hp} (h : loopNext k (b ρ s) = some (fl, s')) (q : fin c W0 D μ H fl s')
    (hN : ∀ ρ1 μ1 s1 H1 σ1, Go μ H μ1 H1 → RS c μ1 s1 H1 → RE c H1 μ1 ρ1 σ1 → k ρ1 s1 = some (fl, s') → fin c W0 D μ1 H1 fl s' → N σ1 H1) :
    ∃ f1 s1, b ρ s = some (f1, s1) ∧ fin c W0 { D with nx := N, ct := N, bk := D.nx } μ H f1 s1 := by
  obtain ⟨f1, s1, e, h⟩ := loopNext_cases h
  refine ⟨f1, s1, e, fun μ1 H1 g1 rs1 => ?_⟩
  rcases h with ⟨ρ1, hf, hk⟩ | ⟨ρ1, rfl, rfl, rfl⟩ | ⟨rfl, rfl, hf⟩
  · rcases hf with rfl | rfl
    · exact fun σ1 re1 => hN ρ1 μ1 s1 H1 σ1 g1 rs1 re1 hk (q.go g1)
    · exact fun σ1 re1 => hN ρ1 μ1 s1 H1 σ1 g1 rs1 re1 hk (q.go g1)
  · exact q μ1 H1 g1 rs1
  · rcases hf with ⟨w, rfl⟩ | ⟨x, ρ', rfl⟩
    · exact q μ1 H1 g1 rs1
    · exact q μ1 H1 g1 rs1
theorem ss_while {t : Env → M Bool} {b : SM} (h : PS X st (tWhile (tT c (WE W0) t) (tS c W0 b))) : PS X st (tS c W0 (sWhile t b)) := h.w fun D σ H h => by
  obtain ⟨ρ, μ, s, fl, s', re, rs, e, q⟩ := h
  unfold sWhile at e
  split at e
  · rename_i hx
    generalize Classical.choose hx = n at e
    refine ⟨fun m σ H => ∃ ρ μ s fl s', RE c H μ ρ σ ∧ RS c μ s H ∧ whileN t b m ρ s = some (fl, s') ∧ fin c W0 D μ H fl s', ⟨n, ρ, μ, s, fl, s', re, rs, e, q⟩, ?_⟩
    rintro m σ H ⟨ρ, μ, s, fl, s', re, rs, e, q⟩
    cases m with
    | zero => cases e
    | succ m =>
      refine ⟨ρ, μ, s, re, rs, ofM_after e re rs q fun k μ1 s1 H1 g1 rs1 e1 q1 => ?_⟩
      have re1 := re.go rs g1
      cases k with
      | false =>
        refine iteF ?_
        rw [if_neg Bool.false_ne_true] at e1
        cases e1
        exact q1 μ1 H1 (Go.refl _ _) rs1 σ re1
      | true =>
        refine iteT ?_
        rw [if_pos rfl] at e1
        refine ⟨fun σ' H' => ∃ ρ μ s fl s', RE c H' μ ρ σ' ∧ RS c μ s H' ∧ whileN t b m ρ s = some (fl, s') ∧ fin c W0 D μ H' fl s', fun σ' H' hw => ⟨m, Nat.lt_succ_self m, hw⟩, ?_⟩
        obtain ⟨f2, s2, e2, q2⟩ := turn_of (N := fun σ' H' => ∃ ρ μ s fl s', RE c H' μ ρ σ' ∧ RS c μ s H' ∧ whileN t b m ρ s = some (fl, s') ∧ fin c W0 D μ H' fl s') e1 q1 fun ρ2 μ2 s2 H2 σ2 g2 rs2 re2 e2 q2 => ⟨ρ2, μ2, s2, fl, s', re2, rs2, e2, q2⟩
        exact ⟨ρ, μ1, s1, f2, s2, re1, rs1, e2, q2⟩
  · cases e
/-! for -/
def Yields (c : Cfg) (μ0 : List Addr) (H0 : Hp) (J : It) (ws : List W) (l : Lock) : Prop := ∀ i μ s H, Go μ0 H0 μ H → RS c μ s H → okL l s →
  (∀ w, ws[i]? = some w → J.go i H ∧ ∀ x H', J.yld i H x H' → Go μ H μ H' ∧ RS c μ s H' ∧ RV c H' μ w x) ∧ (ws.length ≤ i → J.stop i H)
def tI (c : Cfg) (E : L2.St → XK) (im : IM) : TI := fun σ H R => ∃ ρ μ s, RE c H μ ρ σ ∧ RS c μ s H ∧ after c (E σ) μ H (im ρ s) fun p μ' _ H' => ∀ J, Yields c μ' H' J p.1 p.2 → R J H'
theorem ss_for {im : IM} {g : GM} {b : SM} (h : PS X st (tFor (tI c (WE W0) im) (tG c g) (tS c W0 b))) : PS X st (tS c W0 (sFor im g b)) := h.w fun D σ H h => by
  obtain ⟨ρ, μ, s, fl, s', re, rs, e, q⟩ := h
  refine ⟨ρ, μ, s, re, rs, ofM_after e re rs q fun p μ1 s1 H1 g1 rs1 e1 q1 J hJ => ?_⟩
  obtain ⟨ws, l⟩ := p
  refine ⟨fun i m σ H => m = ws.length - i ∧ i ≤ ws.length ∧ ∃ ρ μ s fl s', Go μ1 H1 μ H ∧ RE c H μ ρ σ ∧ RS c μ s H ∧ forN l g b (ws.drop i) ρ s = some (fl, s') ∧ fin c W0 D μ H fl s',
    ⟨_, rfl, Nat.zero_le _, ρ, μ1, s1, fl, s', Go.refl _ _, re.go rs g1, rs1, e1, q1⟩, ?_⟩
  rintro i m σ H ⟨rfl, hi, ρ, μ, s, fl, s', g2, re, rs, e, q⟩
  by_cases hlt : i < ws.length
  · rw [List.drop_eq_getElem_cons hlt] at e
    have e' : (if okL l s then match g ws[i] ρ s with | some p => loopNext (forN l g b (ws.drop (i + 1))) (b p.1 p.2) | none => none else none) = some (fl, s') := e
    split at e'
    · rename_i hl
      obtain ⟨hg, hs⟩ := hJ i μ s H g2 rs hl
      obtain ⟨go, yl⟩ := hg ws[i] (List.getElem?_eq_getElem hlt)
      split at e'
      · rename_i p ep
        obtain ⟨ρ1, s1'⟩ := p
        refine .inr ⟨go, fun σ' H' => i + 1 ≤ ws.length ∧ ∃ ρ μ s fl s', Go μ1 H1 μ H' ∧ RE c H' μ ρ σ' ∧ RS c μ s H' ∧ forN l g b (ws.drop (i + 1)) ρ s = some (fl, s') ∧ fin c W0 D μ H' fl s', fun σ' H' ⟨h1, h2⟩ => ⟨ws.length - (i + 1), by omega, rfl, h1, h2⟩, fun x H' y => ?_⟩
        obtain ⟨g3, rs3, rv3⟩ := yl x H' y
        refine ⟨ρ, μ, s, ws[i], ρ1, s1', re.go rs g3, rs3, rv3, ep, fun μ4 H4 σ4 g4 rs4 re4 => ?_⟩
        obtain ⟨f2, s2, e2, q2⟩ := turn_of (N := fun σ' H' => i + 1 ≤ ws.length ∧ ∃ ρ μ s fl s', Go μ1 H1 μ H' ∧ RE c H' μ ρ σ' ∧ RS c μ s H' ∧ forN l g b (ws.drop (i + 1)) ρ s = some (fl, s') ∧ fin c W0 D μ H' fl s') e' ((q.go g3).go g4)
          fun ρ5 μ5 s5 H5 σ5 g5 rs5 re5 e5 q5 => ⟨hlt, ρ5, μ5, s5, fl, s', g2.trans (g3.trans (g4.trans g5)), re5, rs5, e5, q5⟩
        exact ⟨ρ1, μ4, s1', f2, s2, re4, rs4, e2, q2⟩
      · cases e'
    · cases e'
  · have ei : i = ws.length := by omega
    subst ei
    rw [List.drop_length] at e
    have e' : (if okL l s then some (Fl.nx ρ, s) else none) = some (fl, s') := e
    split at e'
    · rename_i hl
      cases e'
      exact .inl ⟨(hJ ws.length μ s H g2 rs hl).2 (Nat.le_refl _), q μ H (Go.refl _ _) rs σ re⟩
    · cases e'
end
end ME

set_option Elab.async false
set_option linter.all false
set_option maxRecDepth 100000
set_option maxHeartbeats 1000000
/-! ### list comprehensions whose element or test may raise -/
namespace ME
open PySem PySem.Spec PyProof.Rows L2
section
variable {X : Cx} {W : WX} {E : XK} {pins : List (Addr × Obj)} {σ : L2.St} {H : Hp} {s : Shared}
def tLc2 (E : L2.St → XK) (wi : TI) (g : TG) (tt : XK → TT) (te : XK → TE) (vs : List Nat) : TE := fun σ H Q => tLc wi g (tt (E σ)) (te (E σ)) vs σ H Q
theorem lc2_core {Qf : Value → Shared → Prop} {use : Option (Value → Sem Unit)} {pos2 : Pos} {Q : VK} {elt tg iter : Expr} {ifs : List Expr} {scope : Scope} {own : List (Str × Nat)} {pos : Pos} {wi : TI} {g : TG} {tt : XK → TT} {te : XK → TE} {E : L2.St → XK}
    (le : ∀ σ, Lets X σ (E σ)) (hc : X.calm = true) (hN : X.N.Nodup) (hi : PI X tg iter wi) (ok : BlkOk X.N X.env.scope scope own)
    (hg : ∀ s0 H0 C cl fp xe, PG (X.bx s0 H0 scope (compEnvC scope cl C X.env) fp xe) tg g) (ht : ∀ E0 s0 H0 C cl fp xe, (∀ σ', Lets (X.bx s0 H0 scope (compEnvC scope cl C X.env) fp xe) σ' E0) → PTs (X.bx s0 H0 scope (compEnvC scope cl C X.env) fp xe) ifs (tt E0))
    (he : ∀ E0 s0 H0 C cl fp xe, (∀ σ', Lets (X.bx s0 H0 scope (compEnvC scope cl C X.env) fp xe) σ' E0) → PE (X.bx s0 H0 scope (compEnvC scope cl C X.env) fp xe) elt (te E0))
    (hfo : ∀ x, foldedSetIterable iter X.env x = pure x) (I : Inv X pins σ H s) (h : tLc2 E wi g tt te (own.map (·.2)) σ H Q)
    (fin : ∀ D ce s' H', Inv X pins σ H' s' → Q (.ref D) H' → (∃ m, s'.heap.Ns ce.locals m) → FpOk X pins H' ce.locals → compEnds (model X.prog X.w) X.A X.xe use Qf (.ref D) ce (.ok .next) s') :
    wpAny (model X.prog X.w) X.A (comprehension (.ListComp elt [⟨tg, iter, ifs, 0⟩] scope pos) scope X.env pos2 (newList []) false (eval iter X.env) use) Qf X.xe s := by
  have frees : ∀ y ∈ scope.names, y.2 = .free → ∃ c, X.env.cells.lookup y.1 = some c := fun y hy e => (ok.free y hy e).elim (fun k => I.ok.has _ (.inl k)) fun k => I.ok.has _ (.inr k)
  refine comprehension_at (use := use) rfl hfo (closure_ok frees) ok.kind (fun y hy e => by rw [ok.uniq y hy, e]) ?_
  refine thn (hi.run pins s σ H _ I h) fun xv s1 hx => thn hx fun itv s2 h2 => ?_
  obtain ⟨it, fp, tn, J, H2, rfl, I2, T, st2, f2, q⟩ := h2
  refine wpAny_newObj_type (newEnv_comp ?_) (by show 0 ≤ sizeLine; decide)
  generalize hD : s2.heap.objs.size = D
  obtain ⟨Wt, ⟨m0, w0⟩, turn⟩ := q D (I2.hok.fresh (Nat.le_of_eq hD))
  generalize hl : ({ cls := .type "list", data := .seq ([] : List Value).toArray } : Obj) = lo
  generalize hs3 : ({ s2 with heap := s2.heap.push lo } : Shared) = s3
  have h3 : s3.heap = s2.heap.push lo := by rw [← hs3]
  have k3 : ∀ b o, s2.heap.get? b = some o → s3.heap.get? b = some o := fun b o e => by
    rw [h3]
    exact Heap.get?_push_of_some _ e
  have D3 : s3.heap.get? D = some lo := by
    rw [h3, ← hD]
    exact Heap.get?_push_size _ (by rw [← hl]; rfl)
  have I3 : Inv X pins σ (upd H2 D (.lst [])) s3 := by
    rw [← hs3]
    refine I2.laid (t' := s2.toks) (fun b o e => Heap.get?_push_of_some _ e) (Nat.le_of_eq hD) ⟨Nat.zero_le _, [], 0, .nil, ?_⟩
    rw [← h3, D3, ← hl]
  have lt2 : ∀ b ∈ fp, b < s2.heap.objs.size := fun b hb => (T.obj _ _ st2 b hb).elim fun o e => Heap.lt_size e.1
  have f3 : ∀ b ∈ fp, FpOk X pins (upd H2 D (.lst [])) b ∧ b < s3.heap.objs.size := fun b hb => by
    have l2 := lt2 b hb
    refine ⟨⟨?_, (f2 b hb).2⟩, ?_⟩
    · rw [upd_ne (fun z => by rw [z, ← hD] at l2; exact Nat.lt_irrefl _ l2)]
      exact (f2 b hb).1
    · rw [h3, Heap.size_push]
      exact Nat.lt_succ_of_lt l2
  have st3 := T.keep _ _ _ st2 fun b _ o e => k3 b o e
  obtain ⟨cs, hcs⟩ : ∃ cs, cs = cellsFrom (s3.heap.objs.size + 1) scope.names (cloFrom X.env.cells scope.names []) := ⟨_, rfl⟩
  obtain ⟨ce, hce⟩ : ∃ ce, ce = compEnvC scope cs s3.heap.objs.size X.env := ⟨_, rfl⟩
  have ceC : ce.locals = s3.heap.objs.size := by rw [hce]; rfl
  have ceF : ce.frame = X.env.frame := by rw [hce]; rfl
  obtain ⟨xe, hxe⟩ : ∃ xe, xe = notedBy (model X.prog X.w) X.A ce (CompFails (model X.prog X.w) X.A X.xe ce) := ⟨_, rfl⟩
  obtain ⟨s4, hs4⟩ : ∃ s4 : Shared, s4 = { s3 with heap := pushCells (s3.heap.push { cls := .type "dict", data := .dict #[] }) scope.names } := ⟨_, rfl⟩
  have k4 : ∀ b o, s3.heap.get? b = some o → s4.heap.get? b = some o := fun b o e => by
    rw [hs4]
    exact pushCells_keeps _ _ _ _ (Heap.get?_push_of_some _ e)
  have I4 : Inv (X.bx s3 (upd H2 D (.lst [])) scope ce fp xe) [] (wipe σ (own.map (·.2))) (upd H2 D (.lst [])) s4 := by
    rw [hs4, hce, hcs]
    exact (block_start I3 ok hN f3).toBx
  have st4 := T.keep _ _ _ st3 fun b _ o e => k4 b o e
  suffices go : codeAny (model X.prog X.w) X.A (.compStart (.ListComp elt [⟨tg, iter, ifs, 0⟩] scope pos) 0 (.ref it) (.ref D) ce)
      (compEnds (model X.prog X.w) X.A X.xe use Qf (.ref D) ce) s4 by
    rw [hs4, hce, hcs] at go
    exact go
  have I3b : ∀ {p' : List (Addr × Obj)} {σ' : L2.St} {Hc : Hp} {sc : Shared}, Inv (X.bx s3 (upd H2 D (.lst [])) scope ce fp xe) p' σ' Hc sc → Inv X pins σ Hc sc := fun Ic =>
    I3.call' (ch := fp) Ic.os Ic.base Ic.hok Ic.bare fun b hb =>
      have z := (f3 b hb).1.2
      ⟨z.2.2.1, z.1, z.2.2.2.1, z.2.2.2.2⟩
  have nC : ce.locals ∉ frs X.stack := fun hm => by
    obtain ⟨_, o, e, _⟩ := I3.stack.mem hm
    have := Heap.lt_size e
    rw [ceC] at this
    exact Nat.lt_irrefl _ this
  have outC : ∀ {Hc : Hp}, Hc ce.locals = none → FpOk X pins Hc ce.locals := fun e => I3.fpOk (Nat.le_of_eq ceC.symm) e
  obtain ⟨e0, o0, L, l1, l3, l4⟩ := (le σ).fr
  have l2 : X.A.frames = some (e0 :: o0) := by rw [I.ok.frames, l1]
  have goes : ∀ {p' : List (Addr × Obj)} {σ' : L2.St} {Hc : Hp} {sc : Shared} {u : Value} {s' : Shared}, Inv (X.bx s3 (upd H2 D (.lst [])) scope ce fp xe) p' σ' Hc sc → CXh X.prog X.w X.stack L Hc sc (E σ) u s' → CompFails (model X.prog X.w) X.A X.xe ce u s' := fun Ic c => by
    obtain ⟨m, ⟨o, es, ep, e1, e2⟩, _⟩ := Ic.loc
    exact blk_goes (le σ) l4 (I3b Ic) (outC Ic.free) e1 ⟨m, o, es, ep, e1, e2⟩ nC ceF rfl c
  have en : ∀ a, noteFrame (.ref a) ce = noteFrame (.ref a) e0 := fun a => by
    unfold noteFrame PySem.frameOf
    rw [ceF, l4, l3]
  have pa : ∀ σ', Lets (X.bx s3 (upd H2 D (.lst [])) scope ce fp xe) σ' (E σ) := fun σ' => by
    refine ⟨⟨e0, o0, L, l1, l3, by show ce.frame = _; rw [ceF, l4]⟩, fun p' Hc sc u s' Ic c => ?_, fun L' hL' p' Hc sc u s' Ic c => ?_⟩
    · show xe u s'
      rw [hxe]
      obtain ⟨a, B, H', cls, d, rfl, fl, hok, ub, na, os, ag, hE⟩ := c
      show wpAny _ _ (noteFrame (.ref a) ce) _ _ _
      rw [en]
      have fl' : HandSPX.FlyingZ B (e0 :: o0) a (Zc cls d) s'.heap := by rw [← l1]; exact fl
      refine HandSPX.looks_onZ Zc.steady l2 l3 fl' fun h1 hh up => goes Ic ⟨a, B, H', cls, d, rfl, by rw [l1]; exact hh, hok, ⟨ub.keep, fun b o e hb => ?_, ub.free, ub.there, ub.tups, ub.frzs, ub.tbls⟩, na, os, ag, hE⟩
      obtain ⟨sl, q⟩ := ub.slot b o e hb
      obtain ⟨_, o', q', hnf⟩ := (I3b Ic).stack.mem hb
      rw [e] at q'
      cases q'
      obtain ⟨sl2, w3⟩ := up b _ q (fun vs z => hnf vs z)
      exact ⟨sl2, w3⟩
    · show xe u s'
      rw [hxe]
      have eL : L' = L := by
        have : ce.frame = some L' := hL'
        rw [ceF, l4] at this
        injection this with this
        exact this.symm
      subst eL
      obtain ⟨a, B, H', cls, d, rfl, hh, r⟩ := c
      show wpAny _ _ (noteFrame (.ref a) ce) _ _ _
      rw [en]
      exact HandSPX.againZ l3 hh.2.2.2 (goes Ic ⟨a, B, H', cls, d, rfl, hh, r⟩)
  have pg : PG (X.bx s3 (upd H2 D (.lst [])) scope ce fp xe) tg g := by rw [hce]; exact hg _ _ _ _ _ _
  have pt : PTs (X.bx s3 (upd H2 D (.lst [])) scope ce fp xe) ifs (tt (E σ)) := by
    have := pa
    rw [hce] at this ⊢
    exact ht _ _ _ _ _ _ _ this
  have pe : PE (X.bx s3 (upd H2 D (.lst [])) scope ce fp xe) elt (te (E σ)) := by
    have := pa
    rw [hce] at this ⊢
    exact he _ _ _ _ _ _ _ this
  have stat : ∀ {p' : List (Addr × Obj)} {σ' : L2.St} {H' : Hp} {s' : Shared}, Inv (X.bx s3 (upd H2 D (.lst [])) scope ce fp xe) p' σ' H' s' → p' = [] → (∀ b ∈ fp, H' b = none) → ∀ b ∈ fp, FpOk (X.bx s3 (upd H2 D (.lst [])) scope ce fp xe) [] H' b := fun I' _ hn b hb =>
    ⟨hn b hb, (I'.ok.exf b hb).1, I'.ok.exfs b hb, .inl hb, fun y c e => (I'.ok.exf b hb).2 y c e, fun p hp => nomatch (show p ∈ ([] : List (Addr × Obj)) from hp)⟩
  have nfp : ∀ b ∈ fp, upd H2 D (.lst []) b = none := fun b hb => (f3 b hb).1.1
  have ended : ∀ {H' : Hp} {s' : Shared}, Inv (X.bx s3 (upd H2 D (.lst [])) scope ce fp xe) [] (wipe σ (own.map (·.2))) H' s' → Q (.ref D) H' → compEnds (model X.prog X.w) X.A X.xe use Qf (.ref D) ce (.ok .next) s' := fun {H' s'} I' qq => by
    obtain ⟨m, hn, _⟩ := I'.loc
    exact fin D ce s' H' (I3b I') qq ⟨m, hn⟩ (outC I'.free)
  have loop : codeAny (model X.prog X.w) X.A (.compLoop (.ListComp elt [⟨tg, iter, ifs, 0⟩] scope pos) 0 (.ref it) (.ref D) ce) (compEnds (model X.prog X.w) X.A X.xe use Qf (.ref D) ce) s4 := by
    refine compLoop_any (fun n s' => ∃ i H', Inv (X.bx s3 (upd H2 D (.lst [])) scope ce fp xe) [] (wipe σ (own.map (·.2))) H' s' ∧ tn i s'.heap ∧ (∀ b ∈ fp, H' b = none) ∧ Wt i n H') ?_ m0 ⟨0, _, I4, st4, nfp, w0⟩
    rintro n s5 ⟨i, H5, I5, st5, n5, w5⟩
    have ex : (notedBy (model X.prog X.w) X.A ce fun e s' => compEnds (model X.prog X.w) X.A X.xe use Qf (.ref D) ce (.error e) s') = xe := hxe.symm
    rw [ex]
    rcases turn i n H5 w5 with ⟨stop, qq⟩ | ⟨go, Nx, hNx, step⟩
    · refine thn (T.done (X.bx s3 (upd H2 D (.lst [])) scope ce fp xe) rfl rfl rfl hc i [] s5 _ H5 xe I5 (stat I5 rfl n5) st5 stop) fun r s6 ⟨hr, I6⟩ => ?_
      subst hr
      exact ended I6 qq
    · refine thn (T.item (X.bx s3 (upd H2 D (.lst [])) scope ce fp xe) rfl rfl rfl hc i [] s5 _ H5 xe I5 (stat I5 rfl n5) st5 go) fun r s6 ⟨u, hr, h6⟩ => ?_
      subst hr
      refine thn h6 fun _ s7 ⟨x, H7, J7, r7, y7, st7, n7⟩ => ?_
      have J7p := J7.pinned (stat J7 rfl n7) (T.obj _ _ st7)
      refine thn (pg.run _ s7 _ H7 x u _ J7p r7 (step x H7 y7)) fun _ s8 ⟨σ8, H8, J8, wq, q8⟩ => ?_
      refine thn (pt.run _ s8 σ8 H8 _ J8 q8) fun b s9 ⟨H9, J9, q9⟩ => ?_
      -- behind a turn
      have next : ∀ {s' : Shared} {H' : Hp}, Inv (X.bx s3 (upd H2 D (.lst [])) scope ce fp xe) ([] ++ pinsAt fp s7.heap) σ8 H' s' → Nx H' →
          ∃ m, m < n ∧ ∃ i H', Inv (X.bx s3 (upd H2 D (.lst [])) scope ce fp xe) [] (wipe σ (own.map (·.2))) H' s' ∧ tn i s'.heap ∧ (∀ b ∈ fp, H' b = none) ∧ Wt i m H' := fun {s' H'} I' nx => by
        obtain ⟨m', lt, w'⟩ := hNx H' nx
        have held : ∀ b ∈ fp, ∀ o, s7.heap.get? b = some o → s'.heap.get? b = some o ∧ H' b = none := fun b hb o e => by
          have z := I'.pin (b, o) (List.mem_append_right _ (List.mem_append_right _ (mem_pinsAt hb e)))
          exact ⟨z.1, z.2.1⟩
        refine ⟨m', lt, i + 1, H', ?_, T.keep _ _ _ st7 fun b hb o e => (held b hb o e).1, fun b hb => ?_, w'⟩
        · refine (I'.unpinned (pins := [])).weak (by rw [← wq, wipe_length]) fun j v e => ?_
          rw [← wq] at e
          exact (wipe_some e).1
        · obtain ⟨o, e, _⟩ := T.obj _ _ st7 b hb
          exact (held b hb o e).2
      cases b with
      | false =>
        rw [if_neg Bool.false_ne_true] at q9
        exact next J9 q9
      | true =>
        rw [if_pos rfl] at q9
        refine thn (pe.run _ s9 σ8 H9 _ J9 q9) fun z s10 ⟨yv, H10, J10, r10, acc, aD, al, nx⟩ => ?_
        exact app_ok (X := X.bx s3 (upd H2 D (.lst [])) scope ce fp xe) J10 aD al r10 fun s11 J11 => next J11 nx
  exact codeAny_compStart_list loop (T.self X.A 0 _ _ _ st4 loop)
theorem pe_lc2' {elt tg iter : Expr} {ifs : List Expr} {scope : Scope} {own : List (Str × Nat)} {pos : Pos} {wi : TI} {g : TG} {tt : XK → TT} {te : XK → TE} {E : L2.St → XK}
    (le : ∀ σ, Lets X σ (E σ)) (hc : X.calm = true) (hN : X.N.Nodup) (hi : PI X tg iter wi) (ok : BlkOk X.N X.env.scope scope own)
    (hg : ∀ s0 H0 C cl fp xe, PG (X.bx s0 H0 scope (compEnvC scope cl C X.env) fp xe) tg g) (ht : ∀ E0 s0 H0 C cl fp xe, (∀ σ', Lets (X.bx s0 H0 scope (compEnvC scope cl C X.env) fp xe) σ' E0) → PTs (X.bx s0 H0 scope (compEnvC scope cl C X.env) fp xe) ifs (tt E0))
    (he : ∀ E0 s0 H0 C cl fp xe, (∀ σ', Lets (X.bx s0 H0 scope (compEnvC scope cl C X.env) fp xe) σ' E0) → PE (X.bx s0 H0 scope (compEnvC scope cl C X.env) fp xe) elt (te E0))
    (hfo : ∀ x, foldedSetIterable iter X.env x = pure x := by intro _; rfl) :
    PE X (.ListComp elt [⟨tg, iter, ifs, 0⟩] scope pos) (tLc2 E wi g tt te (own.map (·.2))) := by
  refine ⟨fun pins s σ H Q I h => ?_⟩
  rw [eval_ListComp]
  refine lc2_core le hc hN hi ok hg ht he hfo I h fun D ce s' H' I' qq ⟨m, hn⟩ ⟨z0, z1, z2, z3, z4, z5⟩ => ?_
  exact ⟨m, hn, fun h' sb => ⟨.ref D, H', I'.turned (t' := s'.toks) (fun b o hb e => (sb.2 b hb).trans e) z0 z1 z3 z4 z5, rfl, qq⟩⟩
/-- name = [..] on one line -/
theorem ps_setLc2' {i : Nat} {y : Str} {py spos : Pos} {elt tg iter : Expr} {ifs : List Expr} {scope : Scope} {own : List (Str × Nat)} {pos : Pos} {wi : TI} {g : TG} {tt : XK → TT} {te : XK → TE} {E : L2.St → XK}
    (le : ∀ σ, Lets X σ (E σ)) (hc : X.calm = true) (hN : X.N.Nodup) (hy : X.N[i]? = some y) (hyl : X.env.scope.names.lookup y = some .local)
    (hsw : swapsWith (.ListComp elt [⟨tg, iter, ifs, 0⟩] scope pos) (some (.Name y py)) spos.line X.env = pure true) (hi : PI X tg iter wi) (ok : BlkOk X.N X.env.scope scope own)
    (hg : ∀ s0 H0 C cl fp xe, PG (X.bx s0 H0 scope (compEnvC scope cl C X.env) fp xe) tg g) (ht : ∀ E0 s0 H0 C cl fp xe, (∀ σ', Lets (X.bx s0 H0 scope (compEnvC scope cl C X.env) fp xe) σ' E0) → PTs (X.bx s0 H0 scope (compEnvC scope cl C X.env) fp xe) ifs (tt E0))
    (he : ∀ E0 s0 H0 C cl fp xe, (∀ σ', Lets (X.bx s0 H0 scope (compEnvC scope cl C X.env) fp xe) σ' E0) → PE (X.bx s0 H0 scope (compEnvC scope cl C X.env) fp xe) elt (te E0))
    (hfo : ∀ x, foldedSetIterable iter X.env x = pure x := by intro _; rfl) :
    PS X (.Assign [.Name y py] (.ListComp elt [⟨tg, iter, ifs, 0⟩] scope pos) spos) (tAsg (tLc2 E wi g tt te (own.map (·.2))) (gName i)) := by
  refine ⟨fun pins s σ H D I h => ?_⟩
  rw [exec_Assign_Name_used _ _ _ _ hsw]
  refine wpAny_bind (wpAny_standAt (wpAny_bind (wpAny_bind ?_)))
  refine wpAny_mono (lc2_core (Q := fun x H1 => gName i x σ H1 D.nx) (Qf := fun _ s' => SP X pins D .next s') le hc hN hi ok hg ht he hfo I h fun L ce s' H' I' qq ⟨m, hn⟩ ⟨z0, z1, z2, z3, z4, z5⟩ => ?_) (fun _ s' q => wpAny_pure (wpAny_pure q)) fun _ _ e => e
  show wpAny _ _ (assign (.Name y py) X.env (.ref L)) _ _ _
  refine wpAny_assign_Name (store_ok2 (v := V.ref L) I' hN hy (.inl hyl) rfl (fun s2 I2 ⟨a, sb, ha⟩ => ?_) (.inr hyl))
  have na : ce.locals ≠ a := ha.elim (fun z => by rw [z]; exact z1) fun z e => z4 y a z e.symm
  exact ⟨m, hn.sameBut sb na, fun h3 sb3 => ⟨_, H', I2.turned (t' := s2.toks) (fun b o hb e => (sb3.2 b hb).trans e) z0 z1 z3 z4 z5, qq⟩⟩
end
end ME

set_option Elab.async false
set_option linter.all false
set_option maxRecDepth 100000
set_option maxHeartbeats 1000000
/-! ### what is walked; comprehensions; defs -/
namespace ME
open PySem PySem.Spec PyProof.Rows L2
def rangeL (lo c : Int) (n : Nat) : List W := (List.range n).map fun (i : Nat) => .int (lo + (i : Int) * c)
def iVal (m : Env → M W) : IM := fun ρ => bindM (m ρ) fun w s => match w with
  | .tup xs => .ok (xs, none) s
  | .str z => .ok (z.map fun k => .str [k], none) s
  | .ref n => match s[n]? with
    | some (.lst xs) => .ok (xs, some (n, xs)) s
    | _ => .no
  | _ => .no
def iRange (m : Env → M (List W)) : IM := fun ρ => bindM (m ρ) fun ws s => match ws with
  | [.int j] => if -(2 ^ 62) ≤ j ∧ j < 2 ^ 62 then .ok (rangeL 0 1 j.toNat, none) s else .no
  | [.int i, .int j] => if -(2 ^ 62) ≤ i ∧ i < 2 ^ 62 ∧ -(2 ^ 62) ≤ j ∧ j < 2 ^ 62 then .ok (rangeL i 1 (j - i).toNat, none) s else .no
  | [.int i, .int j, .int k] => if k = -1 ∧ -(2 ^ 62) ≤ i ∧ i < 2 ^ 62 ∧ -(2 ^ 62) ≤ j ∧ j < 2 ^ 62 then .ok (rangeL i (-1) (i - j).toNat, none) s else .no
  | _ => .no
def enumL (k : Nat) : List W → List W
  | [] => []
  | x :: r => .tup [.int (k : Int), x] :: enumL (k + 1) r
def iEnumM (m : Env → M (List W)) : IM := fun ρ => bindM (m ρ) fun ws s => match ws with
  | [.ref n] => match s[n]? with
    | some (.lst xs) => .ok (enumL 0 xs, some (n, xs)) s
    | _ => .no
  | _ => .no
section
variable {c : Cfg} {X : Cx} {E : L2.St → XK} {e tg : Expr}
theorem yields_list {μ0 : List Addr} {H0 : Hp} {n : Nat} {a : Addr} {xs : List W} (h : μ0[n]? = some a) : Yields c μ0 H0 (Itl c.K a) xs (some (n, xs)) := fun i μ s H g rs hl => by
  obtain ⟨a', h1, vs, h2, r⟩ := rs.cell n _ hl
  rw [g.at h] at h1
  cases h1
  have l := r.len
  refine ⟨fun w hw => ?_, fun hi => ⟨vs, SqL.of h2, by omega⟩⟩
  obtain ⟨v, hv, rv⟩ := r.get hw
  refine ⟨⟨vs, v, SqL.of h2, hv⟩, fun x H' y => ?_⟩
  obtain ⟨rfl, y⟩ := y
  have := y vs (SqL.of h2)
  rw [hv] at this
  cases this
  exact ⟨Go.refl _ _, rs, rv⟩
theorem yields_tup {μ0 : List Addr} {H0 : Hp} {s0 : Sto} {a : Addr} {xs : List W} {vs : List V} (rs0 : RS c μ0 s0 H0) (q : SqT c.K H0 a vs) (r : RVs c H0 μ0 xs vs) : Yields c μ0 H0 (Itt c.K a) xs none := fun i μ s H g rs hl => by
  have q' := g.tk rs0 _ _ q
  have r' := r.go rs0 g
  have l := r.len
  refine ⟨fun w hw => ?_, fun hi => ⟨vs, q', by omega⟩⟩
  obtain ⟨v, hv, rv⟩ := r'.get hw
  refine ⟨⟨vs, v, q', hv⟩, fun x H' y => ?_⟩
  obtain ⟨rfl, y⟩ := y
  have := y vs q'
  rw [hv] at this
  cases this
  exact ⟨Go.refl _ _, rs, rv⟩
theorem yields_str {μ0 : List Addr} {H0 : Hp} {z : List Nat} : Yields c μ0 H0 (Its (S z)) (z.map fun k => .str [k]) none := fun i μ s H g rs hl => by
  have hz : (S z).cps.size = z.length := List.size_toArray ..
  refine ⟨fun w hw => ?_, fun hi => ?_⟩
  · rw [List.getElem?_map] at hw
    obtain ⟨k, hk, rfl⟩ := Option.map_eq_some_iff.mp hw
    have lt := (List.getElem?_eq_some_iff.mp hk).1
    refine ⟨by show i < (S z).cps.size; omega, fun x H' y => ?_⟩
    obtain ⟨rfl, k', hk', rfl⟩ := y
    have : z[i]? = some k' := by simpa using hk'
    rw [hk] at this
    cases this
    exact ⟨Go.refl _ _, rs, rfl⟩
  · rw [List.length_map] at hi
    show (S z).cps.size ≤ i
    omega
theorem yields_range {μ0 : List Addr} {H0 : Hp} {lo : Int} {n : Nat} : Yields c μ0 H0 (Itr lo n) (rangeL lo 1 n) none := fun i μ s H g rs hl => by
  unfold rangeL
  refine ⟨fun w hw => ?_, fun hi => by rw [List.length_map, List.length_range] at hi; exact hi⟩
  rw [List.getElem?_map] at hw
  obtain ⟨k, hk, rfl⟩ := Option.map_eq_some_iff.mp hw
  obtain ⟨lt, hk⟩ := List.getElem?_eq_some_iff.mp hk
  rw [List.getElem_range] at hk
  subst hk
  rw [List.length_range] at lt
  refine ⟨lt, fun x H' y => ?_⟩
  obtain ⟨rfl, rfl⟩ := y
  exact ⟨Go.refl _ _, rs, show V.int _ = V.int _ by rw [Int.mul_one]⟩
theorem yields_rangeC {μ0 : List Addr} {H0 : Hp} {lo k : Int} {n : Nat} : Yields c μ0 H0 (Itc lo k n) (rangeL lo k n) none := fun i μ s H g rs hl => by
  unfold rangeL
  refine ⟨fun w hw => ?_, fun hi => by rw [List.length_map, List.length_range] at hi; exact hi⟩
  rw [List.getElem?_map] at hw
  obtain ⟨j, hk, rfl⟩ := Option.map_eq_some_iff.mp hw
  obtain ⟨lt, hk⟩ := List.getElem?_eq_some_iff.mp hk
  rw [List.getElem_range] at hk
  subst hk
  rw [List.length_range] at lt
  refine ⟨lt, fun x H' y => ?_⟩
  obtain ⟨rfl, rfl⟩ := y
  exact ⟨Go.refl _ _, rs, rfl⟩
theorem enumL_get : ∀ (xs : List W) (k i : Nat), (enumL k xs)[i]? = (xs[i]?).map fun x => .tup [.int ((k + i : Nat) : Int), x]
  | [], k, i => by rw [enumL]; simp
  | x :: r, k, 0 => by rw [enumL]; simp
  | x :: r, k, i + 1 => by
    rw [enumL, List.getElem?_cons_succ, List.getElem?_cons_succ, enumL_get r (k + 1) i, show k + 1 + i = k + (i + 1) by omega]
theorem enumL_len : ∀ (xs : List W) (k : Nat), (enumL k xs).length = xs.length
  | [], k => rfl
  | x :: r, k => by rw [enumL, List.length_cons, List.length_cons, enumL_len r]
theorem yields_enum {μ0 : List Addr} {H0 : Hp} {n : Nat} {a : Addr} {xs : List W} (h : μ0[n]? = some a) : Yields c μ0 H0 (Ite c.K a) (enumL 0 xs) (some (n, xs)) := fun i μ s H g rs hl => by
  obtain ⟨a', h1, vs, h2, r⟩ := rs.cell n _ hl
  rw [g.at h] at h1
  cases h1
  have l := r.len
  refine ⟨fun w hw => ?_, fun hi => ⟨vs, SqL.of h2, by rw [enumL_len] at hi; omega⟩⟩
  rw [enumL_get] at hw
  obtain ⟨x0, hx, rfl⟩ := Option.map_eq_some_iff.mp hw
  obtain ⟨v, hv, rv⟩ := r.get hx
  refine ⟨⟨vs, v, SqL.of h2, hv⟩, fun x H' y => ?_⟩
  obtain ⟨T, v', rfl, nT, rfl, y⟩ := y
  have := y vs (SqL.of h2)
  rw [hv] at this
  cases this
  refine ⟨Go.new nT, rs.new nT, T, _, rfl, SqT.of upd_same, ?_⟩
  rw [Nat.zero_add]
  exact .cons rfl (.one (rv.go rs (Go.new nT)))
theorem si_val (hK : c.K = X.K) {m : Env → M W} (he : PE X e (tE c E m)) : PI X tg e (tI c E (iVal m)) := by
  refine ⟨fun pins s σ H R I h => ?_⟩
  obtain ⟨ρ, μ, st, re, rs, h⟩ := h
  unfold iVal bindM at h
  cases z : m ρ st with
  | no => rw [z] at h; exact h.elim
  | er x s1 =>
    rw [z] at h
    refine (pi_list he).run pins s σ H R I ⟨ρ, μ, st, re, rs, ?_⟩
    rw [z]
    exact h
  | ok w s1 =>
    rw [z] at h
    cases w with
    | tup xs =>
      refine (pi_tup he).run pins s σ H R I ⟨ρ, μ, st, re, rs, ?_⟩
      rw [z]
      intro μ1 H1 g1 rs1 v rv
      obtain ⟨a, vs, rfl, q, r⟩ := rv
      refine ⟨a, rfl, ⟨vs, by rw [← hK]; exact q⟩, h μ1 H1 g1 rs1 _ ?_⟩
      rw [← hK]
      exact yields_tup rs1 q r
    | str l =>
      refine (pi_str he).run pins s σ H R I ⟨ρ, μ, st, re, rs, ?_⟩
      rw [z]
      intro μ1 H1 g1 rs1 v rv
      exact ⟨S l, rv, h μ1 H1 g1 rs1 _ yields_str⟩
    | ref n =>
      dsimp only at h
      split at h
      · rename_i xs e1
        refine (pi_list he).run pins s σ H R I ⟨ρ, μ, st, re, rs, ?_⟩
        rw [z]
        intro μ1 H1 g1 rs1 v rv
        obtain ⟨a, vs, rfl, ha, q, r⟩ := rv.fresh rs1 e1
        refine ⟨a, rfl, ⟨vs, SqL.of q⟩, h μ1 H1 g1 rs1 _ ?_⟩
        rw [← hK]
        exact yields_list ha
      · exact h.elim
    | _ => exact h.elim
theorem si_range1 {m : Env → M (List W)} (h : PI X tg e (iRng1 (tA c E m))) (hm : ∀ ρ s ws s', m ρ s = .ok ws s' → ws.length = 1) : PI X tg e (tI c E (iRange m)) := h.w fun σ H R => by
  rintro ⟨ρ, μ, st, re, rs, h⟩
  refine ⟨ρ, μ, st, re, rs, ?_⟩
  unfold iRange bindM at h
  cases z : m ρ st with
  | no => rw [z] at h; exact h.elim
  | er x s1 => rw [z] at h; exact h
  | ok ws s1 =>
    rw [z] at h
    have l := hm _ _ _ _ z
    intro μ1 H1 g1 rs1 vs rv
    dsimp only at h
    split at h
    · split at h
      · rename_i j hj
        obtain ⟨v, rfl, rx⟩ := rv.one'
        exact ⟨j, congrArg (fun v => [v]) rx, hj.1, hj.2, h μ1 H1 g1 rs1 _ yields_range⟩
      · exact h.elim
    · cases l
    · cases l
    · exact h.elim
theorem si_range2 {m : Env → M (List W)} (h : PI X tg e (iRng2 (tA c E m))) (hm : ∀ ρ s ws s', m ρ s = .ok ws s' → ws.length = 2) : PI X tg e (tI c E (iRange m)) := h.w fun σ H R => by
  rintro ⟨ρ, μ, st, re, rs, h⟩
  refine ⟨ρ, μ, st, re, rs, ?_⟩
  unfold iRange bindM at h
  cases z : m ρ st with
  | no => rw [z] at h; exact h.elim
  | er x s1 => rw [z] at h; exact h
  | ok ws s1 =>
    rw [z] at h
    have l := hm _ _ _ _ z
    intro μ1 H1 g1 rs1 vs rv
    dsimp only at h
    split at h
    · cases l
    · split at h
      · rename_i i j hj
        obtain ⟨v, v', rfl, rx, ry⟩ := rv.two'
        cases (show v = _ from rx)
        cases (show v' = _ from ry)
        exact ⟨i, j, rfl, hj, h μ1 H1 g1 rs1 _ yields_range⟩
      · exact h.elim
    · cases l
    · exact h.elim
theorem si_range3 {m : Env → M (List W)} (h : PI X tg e (iRng3 (tA c E m))) (hm : ∀ ρ s ws s', m ρ s = .ok ws s' → ws.length = 3) : PI X tg e (tI c E (iRange m)) := h.w fun σ H R => by
  rintro ⟨ρ, μ, st, re, rs, h⟩
  refine ⟨ρ, μ, st, re, rs, ?_⟩
  unfold iRange bindM at h
  cases z : m ρ st with
  | no => rw [z] at h; exact h.elim
  | er x s1 => rw [z] at h; exact h
  | ok ws s1 =>
    rw [z] at h
    have l := hm _ _ _ _ z
    intro μ1 H1 g1 rs1 vs rv
    dsimp only at h
    split at h
    · cases l
    · cases l
    · split at h
      · rename_i i j k hj
        obtain ⟨rfl, hj⟩ := hj
        obtain ⟨v, vs', rfl, rx, rr⟩ := rv
        obtain ⟨v', v'', rfl, ry, rz⟩ := rr.two'
        cases (show v = _ from rx)
        cases (show v' = _ from ry)
        cases (show v'' = _ from rz)
        exact ⟨i, j, -1, _, rfl, RgC.neg hj.1 hj.2.1 hj.2.2.1 hj.2.2.2, h μ1 H1 g1 rs1 _ yields_rangeC⟩
      · exact h.elim
    · exact h.elim
theorem si_enum (hK : c.K = X.K) {m : Env → M (List W)} (h : PI X tg e (iEnum X.K (tA c E m))) : PI X tg e (tI c E (iEnumM m)) := h.w fun σ H R => by
  rintro ⟨ρ, μ, st, re, rs, h⟩
  refine ⟨ρ, μ, st, re, rs, ?_⟩
  unfold iEnumM bindM at h
  cases z : m ρ st with
  | no => rw [z] at h; exact h.elim
  | er x s1 => rw [z] at h; exact h
  | ok ws s1 =>
    rw [z] at h
    intro μ1 H1 g1 rs1 vs rv
    dsimp only at h
    split at h
    · split at h
      · rename_i n _ xs e1
        obtain ⟨v, rfl, rx⟩ := rv.one'
        obtain ⟨a, us, rfl, ha, q, r⟩ := rx.fresh rs1 e1
        refine ⟨a, us, rfl, SqL.of q, h μ1 H1 g1 rs1 _ ?_⟩
        rw [← hK]
        exact yields_enum ha
      · exact h.elim
    · exact h.elim
/-! targets that are names alone -/
def NG (c : Cfg) (g : TG) (gm : GM) (vs : List Nat) : Prop := ∀ v σ H (Q : L2.St → Hp → Prop) ρ μ s w ρ' s', RE c H μ ρ σ → RS c μ s H → RV c H μ w v → gm w ρ s = some (ρ', s') → (∀ σ', wipe σ' vs = wipe σ vs → RE c H μ ρ' σ' → s' = s → Q σ' H) → g v σ H Q
def NGs (c : Cfg) (g : TGs) (gm : GMs) (vs : List Nat) : Prop := ∀ v σ H (Q : L2.St → Hp → Prop) ρ μ s w ρ' s', RE c H μ ρ σ → RS c μ s H → RVs c H μ w v → gm w ρ s = some (ρ', s') → (∀ σ', wipe σ' vs = wipe σ vs → RE c H μ ρ' σ' → s' = s → Q σ' H) → g v σ H Q
theorem wipe_get {σ : L2.St} {i : Nat} : ∀ {vs : List Nat}, i ∈ vs → (wipe σ vs)[i]? = if i < σ.length then some none else none
  | v :: vs, h => by
    unfold wipe
    rw [List.getElem?_set, wipe_length]
    by_cases z : v = i
    · rw [if_pos z, z]
    · rw [if_neg z]
      exact wipe_get ((List.mem_cons.mp h).resolve_left fun q => z q.symm)
theorem wipe_set {σ : L2.St} {i : Nat} {x : Option V} {vs : List Nat} (h : i ∈ vs) : wipe (σ.set i x) vs = wipe σ vs := by
  apply List.ext_getElem?
  intro j
  by_cases z : j ∈ vs
  · rw [wipe_get z, wipe_get z, List.length_set]
  · rw [wipe_out z, wipe_out z, List.getElem?_set, if_neg]
    exact fun q => z (by rw [← q]; exact h)
theorem wipe_wipe {σ : L2.St} {vs : List Nat} : wipe (wipe σ vs) vs = wipe σ vs := by
  apply List.ext_getElem?
  intro j
  by_cases z : j ∈ vs
  · rw [wipe_get z, wipe_get z, wipe_length]
  · rw [wipe_out z]
theorem ng_name {i : Nat} {vs : List Nat} (h : i ∈ vs) : NG c (gName i) (gN i) vs := fun v σ H Q ρ μ s w ρ' s' re rs rv e q => by
  cases e
  exact q _ (wipe_set h) (re.set i rv) rfl
theorem ngs_nil {vs : List Nat} : NGs c gNil gsNil vs := fun v σ H Q ρ μ s w ρ' s' re rs rv e q => by
  unfold gsNil at e
  split at e
  · cases e
    exact ⟨rv, q σ rfl re rfl⟩
  · cases e
theorem ngs_cons {vs : List Nat} {g : TG} {gm : GM} {r : TGs} {rm : GMs} (h1 : NG c g gm vs) (h2 : NGs c r rm vs) : NGs c (gCons g r) (gsCons gm rm) vs := fun v σ H Q ρ μ s w ρ' s' re rs rv e q => by
  unfold gsCons at e
  split at e
  · rename_i w ws
    obtain ⟨⟨ρ1, s1⟩, e1, e2⟩ := Option.bind_eq_some_iff.mp e
    obtain ⟨v, vs', rfl, r1, r2⟩ := rv
    refine ⟨v, vs', rfl, h1 v σ H _ ρ μ s w ρ1 s1 re rs r1 e1 fun σ1 w1 re1 es => ?_⟩
    subst es
    exact h2 vs' σ1 H _ ρ1 μ s1 ws ρ' s' re1 rs r2 e2 fun σ2 w2 re2 es => q σ2 (w2.trans w1) re2 es
  · cases e
theorem ng_tup (hK : c.K = X.K) {vs : List Nat} {n : Nat} {r : TGs} {rm : GMs} (h : NGs c r rm vs) : NG c (gTup X.K n r) (gT n rm) vs := fun v σ H Q ρ μ s w ρ' s' re rs rv e q => by
  unfold gT at e
  split at e
  · split at e
    · rename_i ws hl
      obtain ⟨a, us, rfl, q1, r1⟩ := rv
      have l := r1.len
      rw [hK] at q1
      exact ⟨a, us, rfl, q1, by omega, h us σ H Q ρ μ s ws ρ' s' re rs r1 e q⟩
    · cases e
  · cases e
def wipeE (ρ : Env) : List Nat → Env
  | [] => ρ
  | v :: vs => (wipeE ρ vs).set v none
theorem RE.set0 {H : Hp} {μ : List Addr} {ρ : Env} {σ : L2.St} (h : RE c H μ ρ σ) (i : Nat) : RE c H μ (ρ.set i none) (σ.set i none) := by
  refine ⟨by rw [List.length_set, List.length_set]; exact h.1, fun j w' e => ?_⟩
  rw [List.getElem?_set] at e
  by_cases z : i = j
  · rw [if_pos z] at e
    split at e <;> cases e
  · rw [if_neg z] at e
    obtain ⟨v', h1, h2⟩ := h.2 j w' e
    exact ⟨v', by rw [List.getElem?_set, if_neg z]; exact h1, h2⟩
theorem RE.wipe {H : Hp} {μ : List Addr} {ρ : Env} {σ : L2.St} (h : RE c H μ ρ σ) : ∀ vs : List Nat, RE c H μ (wipeE ρ vs) (L2.wipe σ vs)
  | [] => h
  | v :: vs => (RE.wipe h vs).set0 v
/-! the comprehension -/
noncomputable def compN (l : Lock) (g : GM) (t : Env → M Bool) (m : Env → M W) (ρ : Env) : List W → List W → M (List W)
  | [], acc => fun s => if okL l s then .ok acc s else .no
  | w :: r, acc => fun s => if okL l s then match g w ρ s with
    | some p => bindM (t p.1) (fun k => if k = true then bindM (m p.1) fun y s2 => if acc.length < sizeLine then compN l g t m ρ r (acc ++ [y]) s2 else .no else compN l g t m ρ r acc) p.2
    | none => .no
    else .no
noncomputable def eLc (im : IM) (g : GM) (t : Env → M Bool) (m : Env → M W) (vs : List Nat) : Env → M W := fun ρ => bindM (im ρ) fun p => bindM (compN p.2 g t m (wipeE ρ vs) p.1 []) fun ws s => .ok (.ref s.length) (s ++ [.lst ws])
def xYes : Env → M Bool := fun _ s => .ok true s
theorem compN_cons {l : Lock} {g : GM} {t : Env → M Bool} {m : Env → M W} {ρ : Env} {w : W} {r acc : List W} {s : Sto} : compN l g t m ρ (w :: r) acc s = if okL l s then match g w ρ s with
    | some p => bindM (t p.1) (fun k => if k = true then bindM (m p.1) fun y s2 => if acc.length < sizeLine then compN l g t m ρ r (acc ++ [y]) s2 else .no else compN l g t m ρ r acc) p.2
    | none => .no
    else .no := rfl
theorem compN_nil {l : Lock} {g : GM} {t : Env → M Bool} {m : Env → M W} {ρ : Env} {acc : List W} {s : Sto} : compN l g t m ρ [] acc s = if okL l s then .ok acc s else .no := rfl
/-- what the end of a comprehension must do -/
def FN (c : Cfg) (E0 : XK) (μ1 : List Addr) (H1 : Hp) (Q : VK) : Res (List W) → Prop
  | .ok acc s' => ∀ μ' H', Go μ1 H1 μ' H' → RS c μ' (s' ++ [.lst acc]) H' → ∀ v, RV c H' μ' (.ref s'.length) v → Q v H'
  | .er e s' => ∀ μ' H' k d, Go μ1 H1 μ' H' → RS c μ' s' H' → RX c H' μ' e k d → E0 k d H'
  | .no => False
theorem FN.bind {α : Type} {E0 : XK} {μ1 μ : List Addr} {H1 H : Hp} {Q : VK} {m : M α} {f : α → M (List W)} {s : Sto} {Q2 : α → List Addr → Sto → Hp → Prop} (h : FN c E0 μ1 H1 Q (bindM m f s)) (g : Go μ1 H1 μ H)
    (k : ∀ a μ' s' H', Go μ H μ' H' → RS c μ' s' H' → FN c E0 μ1 H1 Q (f a s') → Q2 a μ' s' H') : after c E0 μ H (m s) Q2 := by
  unfold bindM at h
  cases z : m s with
  | no => rw [z] at h; exact h
  | er x s1 => rw [z] at h; exact fun μ' H' k d g' rs => h μ' H' k d (g.trans g') rs
  | ok a s1 => rw [z] at h; exact fun μ' H' g' rs => k a μ' s1 H' g' rs h
theorem w_lc {im : IM} {g : TG} {gm : GM} {t : Env → M Bool} {m : Env → M W} {vs : List Nat} (hg : NG c g gm vs) {σ : L2.St} {H : Hp} {Q : VK} (h : tE c E (eLc im gm t m vs) σ H Q) :
    tLc2 E (tI c E im) g (fun E0 => tT c (fun _ => E0) t) (fun E0 => tE c (fun _ => E0) m) vs σ H Q := by
  obtain ⟨ρ, μ, s, re, rs, h⟩ := h
  refine ⟨ρ, μ, s, re, rs, h.bind fun p μ1 s1 H1 g1 rs1 h1 J hJ D nD => ?_⟩
  obtain ⟨ws, l⟩ := p
  have nDμ : D ∉ μ1 := rs1.notMem nD
  have re1 := re.go rs g1
  have h2 : FN c (E σ) μ1 H1 Q (compN l gm t m (wipeE ρ vs) ws [] s1) := by
    unfold bindM at h1
    dsimp only at h1
    generalize compN l gm t m (wipeE ρ vs) ws [] s1 = r at h1 ⊢
    cases r with
    | no => exact h1
    | er x s2 => exact h1
    | ok x s2 => exact fun μ' H' g' rs' v rv => h1 μ' H' g' rs' v rv
  let Inv' : Nat → Hp → Prop := fun i H' => i ≤ ws.length ∧ ∃ μ s acc vs', Go μ1 H1 μ H' ∧ RS c μ s H' ∧ D ∉ μ ∧ H' D = some (.lst vs') ∧ RVs c H' μ acc vs' ∧ FN c (E σ) μ1 H1 Q (compN l gm t m (wipeE ρ vs) (ws.drop i) acc s)
  refine ⟨fun i m0 H' => m0 = ws.length - i ∧ Inv' i H', ⟨_, rfl, Nat.zero_le _, μ1, s1, [], [], Go.new nD, rs1.new nD, nDμ, upd_same, rfl, h2⟩, ?_⟩
  rintro i m0 H' ⟨rfl, hi, μ2, s2, acc, vs', g2, rs2, nD2, hD, rv, h2⟩
  by_cases hlt : i < ws.length
  · rw [List.drop_eq_getElem_cons hlt, compN_cons] at h2
    by_cases hl : okL l s2
    · rw [if_pos hl] at h2
      obtain ⟨hgo, hs⟩ := hJ i μ2 s2 H' g2 rs2 hl
      obtain ⟨go, yl⟩ := hgo ws[i] (List.getElem?_eq_getElem hlt)
      cases eg : gm ws[i] (wipeE ρ vs) s2 with
      | none => rw [eg] at h2; exact h2.elim
      | some p =>
        obtain ⟨ρ1, s1'⟩ := p
        rw [eg] at h2
        refine .inr ⟨go, Inv' (i + 1), fun H' q => ⟨ws.length - (i + 1), by omega, rfl, q⟩, fun x H3 y => ?_⟩
        obtain ⟨g3, rs3, rx⟩ := yl x H3 y
        have re3 := (re1.go rs1 (g2.trans g3)).wipe vs
        refine hg x _ H3 _ _ μ2 s2 ws[i] ρ1 s1' re3 rs3 rx eg fun σ2 wq re4 es => ⟨wq.trans wipe_wipe, ?_⟩
        subst es
        have hD3 : H3 D = some (.lst vs') := g3.fr _ _ hD nD2
        refine ⟨ρ1, μ2, s1', re4, rs3, h2.bind (g2.trans g3) fun k μ5 s5 H5 g5 rs5 h5 => ?_⟩
        have hD5 : H5 D = some (.lst vs') := g5.fr _ _ hD3 nD2
        have nD5 : D ∉ μ5 := fun z => by
          obtain ⟨ν, rfl, hν⟩ := g5.ext
          rcases List.mem_append.mp z with z | z
          · exact nD2 z
          · rw [hν _ z] at hD3; cases hD3
        have rv5 := (rv.go rs2 g3).go rs3 g5
        have g15 := g2.trans (g3.trans g5)
        cases k with
        | false =>
          refine iteF ⟨hlt, μ5, s5, acc, vs', g15, rs5, nD5, hD5, rv5, ?_⟩
          rw [if_neg Bool.false_ne_true] at h5
          exact h5
        | true =>
          refine iteT ?_
          rw [if_pos rfl] at h5
          refine ⟨ρ1, μ5, s5, re4.go rs3 g5, rs5, h5.bind g15 fun y μ6 s6 H6 g6 rs6 h7 yv ry => ?_⟩
          have hD6 : H6 D = some (.lst vs') := g6.fr _ _ hD5 nD5
          have nD6 : D ∉ μ6 := fun z => by
            obtain ⟨ν, rfl, hν⟩ := g6.ext
            rcases List.mem_append.mp z with z | z
            · exact nD5 z
            · rw [hν _ z] at hD5; cases hD5
          have rv6 := rv5.go rs5 g6
          have la := rv.len
          by_cases hsz : acc.length < sizeLine
          · obtain ⟨tk, rs7⟩ := rs6.side (new := vs' ++ [yv]) hD6 nD6
            rw [if_pos hsz] at h7
            have g7 : Go μ1 H1 μ6 (upd H6 D (.lst (vs' ++ [yv]))) := by
              have g16 := g15.trans g6
              refine ⟨g16.ext, fun a o h n => ?_, fun a o h => ?_⟩
              · rw [upd_ne (ne_of_none h nD)]
                exact g16.fr a o h n
              · rw [upd_ne (ne_of_none h nD)]
                exact g16.dom a o h
            exact ⟨vs', hD6, by omega, hlt, μ6, s6, acc ++ [y], vs' ++ [yv], g7, rs7, nD6, upd_same, (rv6.app (.one ry)).mono tk (fun _ _ h => h), h7⟩
          · rw [if_neg hsz] at h7
            exact h7.elim
    · rw [if_neg hl] at h2
      exact h2.elim
  · have ei : i = ws.length := by omega
    subst ei
    rw [List.drop_length, compN_nil] at h2
    by_cases hl : okL l s2
    · rw [if_pos hl] at h2
      refine .inl ⟨(hJ ws.length μ2 s2 H' g2 rs2 hl).2 (Nat.le_refl _), ?_⟩
      obtain ⟨rs3, rv3⟩ := rs2.adopt hD nD2 rv
      refine h2 _ H' ⟨?_, g2.fr, g2.dom⟩ rs3 _ rv3
      obtain ⟨ν, rfl, hν⟩ := g2.ext
      refine ⟨ν ++ [D], by rw [List.append_assoc], fun a ha => ?_⟩
      rcases List.mem_append.mp ha with ha | ha
      · exact hν a ha
      · rw [List.mem_singleton.mp ha]
        exact nD
    · rw [if_neg hl] at h2
      exact h2.elim
theorem se_lc {im : IM} {g : TG} {gm : GM} {t : Env → M Bool} {m : Env → M W} {vs : List Nat} (hg : NG c g gm vs) (h : PE X e (tLc2 E (tI c E im) g (fun E0 => tT c (fun _ => E0) t) (fun E0 => tE c (fun _ => E0) m) vs)) : PE X e (tE c E (eLc im gm t m vs)) := h.w fun _ _ _ => w_lc hg
theorem ss_setLc {W0 : WX} {st : Stmt} {i : Nat} {im : IM} {g : TG} {gm : GM} {t : Env → M Bool} {m : Env → M W} {vs : List Nat} (hg : NG c g gm vs) (h : PS X st (tAsg (tLc2 (WE W0) (tI c (WE W0) im) g (fun E0 => tT c (fun _ => E0) t) (fun E0 => tE c (fun _ => E0) m) vs) (gName i))) :
    PS X st (tS c W0 (sAsg (eLc im gm t m vs) (gN i))) := h.w fun D σ H h => by
  obtain ⟨ρ, μ, s, fl, s', re, rs, e, q⟩ := h
  refine w_lc hg ⟨ρ, μ, s, re, rs, ofM_after e re rs q fun w μ1 s1 H1 g1 rs1 e1 q1 v rv => ?_⟩
  cases e1
  exact q1 μ1 H1 (Go.refl _ _) rs1 _ ((re.go rs g1).set i rv)
theorem spts_nil : PTs X [] (tT c E xYes) := ⟨fun pins s σ H Q I h => pts_nil.run pins s σ H Q I (by
  obtain ⟨ρ, μ, s, re, rs, h⟩ := h
  exact h.now rs)⟩
/-! [::-1] -/
def revW (w : W) (s : Sto) : R := match w with
  | .ref n => match s[n]? with
    | some (.lst xs) => some (.ref s.length, s ++ [.lst xs.reverse])
    | _ => none
  | _ => none
theorem se_revL {m : Env → M W} (h : PE X e (tRevL X.K (tE c E m))) : PE X e (tE c E (e1 revW m)) := h.w fun σ H Q => by
  rintro ⟨ρ, μ, s, re, rs, h⟩
  refine ⟨ρ, μ, s, re, rs, h.bind fun w μ1 s1 H1 g1 rs1 h1 v rv => ?_⟩
  have h2 := post.of h1
  unfold revW at h2
  split at h2
  · split at h2
    · rename_i n _ xs e1
      obtain ⟨a, vs, rfl, ha, q, r⟩ := rv.fresh rs1 e1
      exact ⟨a, vs, rfl, SqL.of q, h2.lst rfl rs1 r.rev⟩
    · exact h2.no.elim
  · exact h2.no.elim
/-! calls -/
theorem pe_call0S {sp : Sp} {CX : CXT} {k : Nat} {f : Addr} {fd : FuncData} {x : Str} {p pos : Pos} (F : FnOk X.prog X.w X.K X.mg X.base CX k f fd [] sp) (hr : Room k X.A) (hg : Gl X x) (hm : X.mg x = some (.ref f)) (hk : PySem.W.keepIn X.K (.ref f) = true) (hb : Binds X.K fd [] []) (hx : ∀ σ, PassesAt CX X σ (E σ))
    (hdb : (x == ("__debug__" : Str)) = false := by decide) : PE X (.Call (.Name x p) [] [] pos) (tCallS sp E tNil) := by
  refine ⟨fun pins s σ H Q I h => ?_⟩
  refine wpAny_Call_Name_kw (ld_glob I hg hm ?_ hdb)
  exact PySem.W.callWith_K0 I.kIn hk (run_fnS (us := []) F hr hb (hx σ) I .nil h)
theorem se_call0 {g : List W → M W} (h : PE X e (tCallS (spM c g) E tNil)) : PE X e (tE c E (eCall g aNil)) := h.w fun σ H Q => by
  rintro ⟨ρ, μ, s, re, rs, h⟩
  exact ⟨[], μ, s, rfl, rs, h⟩
end
/-! defs -/
theorem room65 {k : Nat} {A : Around} (r : Room k A) : A.units + 65 < cLine := by have := r.un; omega
def startE (n : Nat) (ws : List W) : Env := ws.map some ++ List.replicate (n - ws.length) none
def runM (n k : Nat) (m : SM) (ws : List W) : M W := fun s => if ws.length = k then match m (startE n ws) s with
  | some (.rt w, s') => .ok w s'
  | some (.nx _, s') => .ok .non s'
  | some (.ex e _, s') => .er e s'
  | _ => .no
  else .no
theorem okM {c : Cfg} {P : Program} {w : World} {mg : Str → Option Value} {base : Heap} {x qual : Str} {st : Stmt} {f : Addr} {fd : FuncData} {N ps : List Str} {k : Nat} {m : SM} (F : Fun c.K x qual st f fd) (SC : FnScope N ps (defScope st))
    (hb : ∀ (cdv : Value) (A : Around) (outer : List PySem.Env) (s : Shared) (H : Hp) (E : XK), Room k (A.deeper (envOfC qual (defScope st) s.heap.objs.size f cdv)) →
      Ctx c (cxOf (L2.CX P w) P w c.K mg base N qual (defScope st) f cdv A outer s H E) (WE fun cls d _ H => E cls d H) →
      Takes (cxOf (L2.CX P w) P w c.K mg base N qual (defScope st) f cdv A outer s H E) (fun cls d _ H => E cls d H) →
      PSs (cxOf (L2.CX P w) P w c.K mg base N qual (defScope st) f cdv A outer s H E) (defBody st) (tS c (fun cls d _ H => E cls d H) m)) :
    FnOk P w c.K mg base (L2.CX P w) (k + 1) f fd ps (spM c (runM N.length ps.length m)) := by
  refine F.okX SC (fun vs H Q E h => ?_) (fun cdv A outer s H vs Q E hr h => ?_)
  · obtain ⟨ws, μ, s, rv, rs, h⟩ := h
    rw [rv.len]
    unfold runM at h
    split at h
    · assumption
    · exact h.elim
  obtain ⟨ws, μ, st0, rv, rs, h⟩ := h
  have tk : Takes (cxOf (L2.CX P w) P w c.K mg base N qual (defScope st) f cdv A outer s H E) (fun cls d _ H => E cls d H) := takes_of rfl rfl rfl rfl
  refine ⟨_, hb cdv A outer s H E hr ⟨rfl, rfl, fun σ => lets_def rfl rfl tk σ, SC.nd, room65 hr⟩ tk, ?_⟩
  have l := rv.len
  unfold runM at h
  split at h
  · rename_i hl
    have re : RE c H μ (startE N.length ws) (L2.start N vs) := by
      unfold startE L2.start
      rw [l]
      refine ⟨by simp [l], fun i w' e => ?_⟩
      by_cases hi : i < ws.length
      · rw [List.getElem?_append_left (by rw [List.length_map]; exact hi), List.getElem?_map] at e
        obtain ⟨w2, e1, e2⟩ := Option.map_eq_some_iff.mp e
        cases e2
        obtain ⟨v, h1, h2⟩ := rv.get e1
        refine ⟨v, ?_, h2⟩
        rw [List.getElem?_append_left (by rw [List.length_map, l]; exact hi), List.getElem?_map, h1]
        rfl
      · rw [List.getElem?_append_right (by rw [List.length_map]; omega), List.getElem?_replicate] at e
        split at e <;> cases e
    cases z : m (startE N.length ws) st0 with
    | none => rw [z] at h; exact h.elim
    | some p =>
      obtain ⟨fl, s'⟩ := p
      rw [z] at h
      refine ⟨_, μ, st0, fl, s', re, rs, z, fun μ1 H1 g1 rs1 => ?_⟩
      cases fl with
      | nx ρ => exact fun σ _ => h μ1 H1 g1 rs1 _ rfl
      | rt w => exact fun v r => h μ1 H1 g1 rs1 v r
      | bk ρ => exact h.elim
      | ct ρ => exact h.elim
      | ex x ρ => exact fun σ k d _ rx => h μ1 H1 k d g1 rs1 rx
  · exact h.elim
end ME

set_option Elab.async false
set_option linter.all false
set_option maxRecDepth 100000
set_option maxHeartbeats 1000000
/-! ### the rest that the printed terms name -/
namespace ME
open PySem PySem.Spec PyProof.Rows L2
def notInW (a b : W) (s : Sto) : R := match a, b with
  | .str [k], .str z => some (.bl (!decide (k ∈ z)), s)
  | _, _ => none
def iaddW (a b : W) (s : Sto) : R := match a, b with
  | .int i, .int j => some (.int (i + j), s)
  | _, _ => none
def isubW (a b : W) (s : Sto) : R := match a, b with
  | .int i, .int j => some (.int (i - j), s)
  | _, _ => none
def eNotT (a : Env → M W) : Env → M W := fun ρ => bindM (a ρ) fun x => bindM (liftO (truW x)) fun k s => .ok (.bl (!k)) s
def eAndT (a b : Env → M W) : Env → M W := fun ρ => bindM (a ρ) fun x => bindM (liftO (truW x)) fun k => if k = true then b ρ else fun s => .ok x s
def eOrT (a b : Env → M W) : Env → M W := fun ρ => bindM (a ρ) fun x => bindM (liftO (truW x)) fun k => if k = true then fun s => .ok x s else b ρ
section
variable {c : Cfg} {X : Cx} {E : L2.St → XK} {e a b d : Expr}
theorem op_notIn' : OpR X (compareOp .NotIn) (rO c notInW) := by
  intro pins s σ H x y v u Q I rx ry h
  obtain ⟨μ, st, a, b, rs, ra, rb, h⟩ := h
  unfold notInW at h
  split at h
  · rename_i k z
    exact op_notIn_sign pins s σ H x y v u Q I rx ry ⟨k, S z, ra, rb, h.keep rfl rs rfl⟩
  · exact h.no.elim
theorem ip_add' : PIp X .Add (rO c iaddW) := by
  intro pins s σ H x y v u Q I rx ry h
  obtain ⟨μ, st, a, b, rs, ra, rb, h⟩ := h
  unfold iaddW at h
  split at h
  · exact ip_add pins s σ H x y v u Q I rx ry ⟨_, _, ra, rb, h.keep rfl rs rfl⟩
  · exact h.no.elim
theorem ip_sub' : PIp X .Sub (rO c isubW) := by
  intro pins s σ H x y v u Q I rx ry h
  obtain ⟨μ, st, a, b, rs, ra, rb, h⟩ := h
  unfold isubW at h
  split at h
  · exact ip_sub pins s σ H x y v u Q I rx ry ⟨_, _, ra, rb, h.keep rfl rs rfl⟩
  · exact h.no.elim
theorem truW_same {w : W} {s s' : Sto} {k : Bool} (e : truW w s = some (k, s')) : s' = s := by
  unfold truW at e
  repeat' split at e
  all_goals first
    | (cases e; rfl)
    | cases e
theorem truW_ok (hK : c.K = X.K) {w : W} {s s' : Sto} {k : Bool} {μ : List Addr} {H : Hp} {v : V} (rs : RS c μ s H) (rv : RV c H μ w v) (e : truW w s = some (k, s')) : TruV X.K v H k := by
  unfold truW at e
  split at e
  · cases (show v = _ from rv); cases e; exact rfl
  · cases (show v = _ from rv); cases e; exact rfl
  · cases (show v = _ from rv); cases e; exact rfl
  · split at e
    · rename_i l hl
      cases (show v = _ from rv); cases e
      refine ⟨hl, ?_⟩
      cases l with
      | nil => rfl
      | cons a l =>
        show true = (((a :: l).length : Int) != 0)
        rw [List.length_cons]
        exact (bne_iff_ne.mpr (by omega)).symm
    · cases e
  · obtain ⟨p, vs, rfl, q1, r1⟩ := rv
    cases e
    rw [hK] at q1
    exact .inr (.inl ⟨vs, q1, r1.emp⟩)
  · split at e
    · rename_i e1
      cases e
      obtain ⟨p, vs, rfl, _, h2, r1⟩ := rv.fresh rs e1
      exact .inl ⟨vs, SqL.of h2, r1.emp⟩
    · cases e
  · cases e
theorem se_notT (hK : c.K = X.K) {ma : Env → M W} (h : PE X e (tNotT X.K (tE c E ma))) : PE X e (tE c E (eNotT ma)) := h.w fun σ H Q => by
  rintro ⟨ρ, μ, s, re, rs, h⟩
  refine ⟨ρ, μ, s, re, rs, h.bind fun w μ1 s1 H1 g1 rs1 h1 v rv => ?_⟩
  obtain ⟨k, s2, e, q⟩ := (h1.bind (Q2 := fun k μ2 s2 H2 => after c (E σ) μ2 H2 _ _) fun _ _ _ _ _ _ h => h).lift
  have := truW_same e
  subst this
  exact ⟨k, truW_ok hK rs1 rv e, (q _ _ (Go.refl _ _) rs1).now rs1 _ rfl⟩
theorem se_andT (hK : c.K = X.K) {ma mb : Env → M W} (h : PE X e (tAndT X.K (tE c E ma) (tE c E mb))) : PE X e (tE c E (eAndT ma mb)) := h.w fun σ H Q => by
  rintro ⟨ρ, μ, s, re, rs, h⟩
  refine ⟨ρ, μ, s, re, rs, h.bind fun w μ1 s1 H1 g1 rs1 h1 v rv => ?_⟩
  obtain ⟨k, s2, e, q⟩ := (h1.bind (Q2 := fun k μ2 s2 H2 => after c (E σ) μ2 H2 _ _) fun _ _ _ _ _ _ h => h).lift
  have := truW_same e
  subst this
  refine ⟨k, truW_ok hK rs1 rv e, ?_⟩
  have q' := q _ _ (Go.refl _ _) rs1
  cases k with
  | true => exact ⟨ρ, μ1, s2, re.go rs g1, rs1, q'⟩
  | false => exact q'.now rs1 _ rv
theorem se_orT (hK : c.K = X.K) {ma mb : Env → M W} (h : PE X e (tOrT X.K (tE c E ma) (tE c E mb))) : PE X e (tE c E (eOrT ma mb)) := h.w fun σ H Q => by
  rintro ⟨ρ, μ, s, re, rs, h⟩
  refine ⟨ρ, μ, s, re, rs, h.bind fun w μ1 s1 H1 g1 rs1 h1 v rv => ?_⟩
  obtain ⟨k, s2, e, q⟩ := (h1.bind (Q2 := fun k μ2 s2 H2 => after c (E σ) μ2 H2 _ _) fun _ _ _ _ _ _ h => h).lift
  have := truW_same e
  subst this
  refine ⟨k, truW_ok hK rs1 rv e, ?_⟩
  have q' := q _ _ (Go.refl _ _) rs1
  cases k with
  | true => exact q'.now rs1 _ rv
  | false => exact ⟨ρ, μ1, s2, re.go rs g1, rs1, q'⟩
theorem Ctx.bx (G : Ctx c X E) {s0 : Shared} {H0 : Hp} {scope : Scope} {ce : PySem.Env} {fp : List Addr} {xe : Value → Shared → Prop} {E0 : XK} (le : ∀ σ', Lets (X.bx s0 H0 scope ce fp xe) σ' E0) : Ctx c (X.bx s0 H0 scope ce fp xe) (fun _ => E0) :=
  ⟨G.hK, G.calm, le, G.nd, G.hu⟩
theorem Ctx.hu64 (G : Ctx c X E) : X.A.units + 64 < cLine := by have := G.hu; omega
end
/-- how many values are handed -/
def HL (m : Env → M (List W)) (n : Nat) : Prop := ∀ ρ s ws s', m ρ s = .ok ws s' → ws.length = n
theorem hl_nil : HL aNil 0 := fun ρ s ws s' e => by cases e; rfl
theorem hl_cons {a : Env → M W} {r : Env → M (List W)} {n : Nat} (h : HL r n) : HL (aCons a r) (n + 1) := fun ρ s ws s' e => by
  unfold aCons bindM at e
  cases z : a ρ s with
  | no => rw [z] at e; cases e
  | er x s1 => rw [z] at e; cases e
  | ok w s1 =>
    rw [z] at e
    dsimp only at e
    cases z2 : r ρ s1 with
    | no => rw [z2] at e; cases e
    | er x s2 => rw [z2] at e; cases e
    | ok us s2 =>
      rw [z2] at e
      cases e
      rw [List.length_cons, h _ _ _ _ z2]
end ME

set_option Elab.async false
set_option linter.all false
set_option maxRecDepth 100000
set_option maxHeartbeats 1000000
/-! ### raising, try; what stands of a def -/
namespace ME
open PySem PySem.Spec PyProof.Rows L2
def sNever : SM := fun _ _ => none
theorem ss_never {c : Cfg} {X : Cx} {W0 : WX} {st : Stmt} (h : PS X st tNever) : PS X st (tS c W0 sNever) := h.w fun D σ H => by
  rintro ⟨ρ, μ, s, fl, s', re, rs, e, q⟩
  cases e
theorem spM_no {c : Cfg} {vs : List V} {H : Hp} {Q : VK} {E : XK} (h : spM c (fun _ _ => .no) vs H Q E) : False := by
  obtain ⟨ws, μ, s, _, _, h⟩ := h
  exact h
theorem none_left {P : Program} {w : World} {K : PySem.W.Frag} {mg : Str → Option Value} {base : Heap} {CX : CXT} {f : Addr} {fd : FuncData} {ps : List Str} {sp : Sp} (hl : ∀ vs H Q E, ¬ sp vs H Q E) : FnOk P w K mg base CX 0 f fd ps sp :=
  ⟨fun vs H Q E h => absurd h (hl vs H Q E), fun A outer s H args us vs Q E _ _ _ _ h => absurd h (hl vs H Q E)⟩
/-- a def of the text -/
structure DefAt (K : PySem.W.Frag) (mg : Str → Option Value) (x : Str) (st : Stmt) (ps : List Str) (f : Addr) (fd : FuncData) : Prop where
  F : Fun K x x st f fd
  m : mg x = some (.ref f)
  b : Binds K fd ps []
/-- a class of errors without an own __init__ -/
structure EClass (c : Cfg) (mg : Str → Option Value) (x : Str) (k : Nat) : Prop where
  g : mg x = some (.ref (c.cls k))
  q : PySem.W.excIn c.K (c.cls k) [.type "ValueError", .type "Exception", .type "BaseException", .type "object"] "ValueError.__new__" = true
  kp : PySem.W.keepIn c.K (.ref (c.cls k)) = true
  b : PySem.W.subIn c.K (.ref (c.cls k)) (.type "BaseException") = some true
  t : PySem.W.typeIn c.K (.ref (c.cls k)) = some (.type "type")
theorem EClass.r {c : Cfg} {X : Cx} {mg : Str → Option Value} {x : Str} {k : Nat} (h : EClass c mg x k) (hK : c.K = X.K) : Raises X (.ref (c.cls k)) := by
  have b := h.b
  have t := h.t
  rw [hK] at b t
  exact raises_own b t
/-! try -/
def sTryAs (i : Nat) (caught : Nat → Bool) (mb : SM) (msu : Er → SM) : SM := fun ρ s => match mb ρ s with
  | some (.ex e ρ', s') => if caught e.k = true then if i < ρ'.length then (match msu e (ρ'.set i none) s' with
    | some (.nx ρ2, s2) => some (.nx (ρ2.set i none), s2)
    | some (.bk ρ2, s2) => some (.bk (ρ2.set i none), s2)
    | some (.ct ρ2, s2) => some (.ct (ρ2.set i none), s2)
    | some (.rt w, s2) => some (.rt w, s2)
    | _ => none) else none else some (.ex e ρ', s')
  | r => r
def sTry (caught : Nat → Bool) (mb : SM) (msu : SM) : SM := fun ρ s => match mb ρ s with
  | some (.ex e ρ', s') => if caught e.k = true then (match msu ρ' s' with
    | some (.ex _ _, _) => none
    | r => r) else some (.ex e ρ', s')
  | r => r
section
variable {c : Cfg} {X : Cx} {W0 : WX} {x n : Str} {cv : Value} {i : Nat} {body suite : List Stmt} {b0 : Stmt} {np pos pos' : Pos}
theorem ends_other {W1 : WX} {D : Ends} {μ : List Addr} {H : Hp} {fl : Fl} (h : ends c W0 D μ H fl) (hn : ∀ e ρ, fl ≠ .ex e ρ) : ends c W1 D μ H fl := by
  cases fl with
  | ex e ρ => exact absurd rfl (hn e ρ)
  | _ => exact h
theorem ss_try_as {caught : Nat → Bool} {mb : SM} {msu : Er → SM} {ts : Addr → Value → Option Addr → TS} (hK : c.K = X.K) (hs : X.stack = X.env :: X.outer) (hf : X.env.frame = some X.env.locals) (hN : X.N.Nodup) (hi : X.N[i]? = some n) (hln : X.env.kindOf n = some .local) (hc : Names X x cv) (tk : Takes X W0)
    (hb : ∀ (W : WX) (pn : List (Addr × Obj)) (xe : Value → Shared → Prop), Takes (X.tr pn xe) W → PassesOwn (model X.prog X.w) X.A X.env xe → PSs (X.tr pn xe) body (tS c W mb))
    (hsu : ∀ (a : Addr) (oe : Obj) (cls : Value) (d : Option Addr) (pn : List (Addr × Obj)), Zc cls d oe → (∃ vs, oe.data = .fields vs) → PSs (X.suite a ((a, oe) :: pn)) (b0 :: suite) (ts a cls d))
    (hx : ∀ k, PySem.W.exmOne X.K (.ref (c.cls k)) cv = some (caught k))
    (hts : ∀ (e : Er) (a : Addr) (cls : Value) (d : Option Addr) (D : Ends) (ρ : Env) (σ : L2.St) (H : Hp) (μ : List Addr) (s : Sto) (fl : Fl) (s' : Sto), caught e.k = true → RE c H μ ρ σ → RS c μ s H → RX c H μ e cls d → H a = none → σ[i]? = some (some (.ref a)) → msu e ρ s = some (fl, s') → fin c (fun _ _ _ _ => False) D μ H fl s' → ts a cls d D σ H) :
    PS X (.Try body [.ExceptHandler (some (.Name x np)) (some n) (b0 :: suite) pos'] [] [] pos) (tS c W0 (sTryAs i caught mb msu)) := by
  have base := ps_try_as (pos := pos) (pos' := pos') (np := np) hs hf hN hi hln hc tk hb hsu
  refine ⟨fun pins s0 σ0 H0 D I h => base.run pins s0 σ0 H0 D I ?_⟩
  obtain ⟨ρ, μ, s, fl, s', re, rs, e, q⟩ := h
  unfold sTryAs at e
  cases z : mb ρ s with
  | none => rw [z] at e; cases e
  | some p =>
    obtain ⟨f1, s1⟩ := p
    rw [z] at e
    refine ⟨ρ, μ, s, f1, s1, re, rs, z, fun μ1 H1 g1 rs1 => ?_⟩
    cases f1 with
    | ex x1 ρ1 =>
      intro σ1 k d re1 rx
      have hk : k = .ref (c.cls x1.k) := rx.1
      refine ⟨caught x1.k, by rw [hk]; exact hx _, fun hb1 a na => ?_, fun hb1 => ?_⟩
      · dsimp only at e
        rw [if_pos hb1] at e
        have re2 : RE c H1 μ1 (ρ1.set i none) (σ1.set i (some (.ref a))) := by
          refine ⟨by rw [List.length_set, List.length_set]; exact re1.1, fun j w' e' => ?_⟩
          rw [List.getElem?_set] at e'
          by_cases zz : i = j
          · rw [if_pos zz] at e'
            split at e' <;> cases e'
          · rw [if_neg zz] at e'
            obtain ⟨v', h1, h2⟩ := re1.2 j w' e'
            exact ⟨v', by rw [List.getElem?_set, if_neg zz]; exact h1, h2⟩
        split at e
        · rename_i hl
          have ia : (σ1.set i (some (V.ref a)))[i]? = some (some (.ref a)) := by
            rw [List.getElem?_set, if_pos rfl, if_pos (by rw [← re1.1]; exact hl)]
          have res : ∀ {ρ2 : Env} {σ2 : L2.St} {H2 : Hp} {μ2 : List Addr}, RE c H2 μ2 ρ2 σ2 → RE c H2 μ2 (ρ2.set i none) (σ2.set i none) := fun r => r.set0 i
          cases zz : msu x1 (ρ1.set i none) s1 with
          | none => rw [zz] at e; cases e
          | some p2 =>
            obtain ⟨f2, s2⟩ := p2
            rw [zz] at e
            refine hts x1 a k d _ _ _ H1 μ1 s1 f2 s2 hb1 re2 rs1 rx na ia zz fun μ3 H3 g3 rs3 => ?_
            cases f2 with
            | nx ρ3 => cases e; exact fun σ3 re3 => q μ3 H3 (g1.trans g3) rs3 _ (res re3)
            | bk ρ3 => cases e; exact fun σ3 re3 => q μ3 H3 (g1.trans g3) rs3 _ (res re3)
            | ct ρ3 => cases e; exact fun σ3 re3 => q μ3 H3 (g1.trans g3) rs3 _ (res re3)
            | rt w => cases e; exact q μ3 H3 (g1.trans g3) rs3
            | ex x2 ρ3 => cases e
        · cases e
      · dsimp only at e
        rw [if_neg (by rw [hb1]; exact Bool.false_ne_true)] at e
        cases e
        exact q μ1 H1 g1 rs1 σ1 k d re1 rx
    | nx ρ1 => cases e; exact q μ1 H1 g1 rs1
    | rt w => cases e; exact q μ1 H1 g1 rs1
    | bk ρ1 => cases e; exact q μ1 H1 g1 rs1
    | ct ρ1 => cases e; exact q μ1 H1 g1 rs1
theorem ss_try_only {caught : Nat → Bool} {mb msu : SM} (hK : c.K = X.K) (hs : X.stack = X.env :: X.outer) (hf : X.env.frame = some X.env.locals) (hc : Names X x cv) (tk : Takes X W0)
    (hb : ∀ (W : WX) (pn : List (Addr × Obj)) (xe : Value → Shared → Prop), Takes (X.tr pn xe) W → PassesOwn (model X.prog X.w) X.A X.env xe → PSs (X.tr pn xe) body (tS c W mb))
    (hsu : ∀ (a : Addr) (oe : Obj) (cls : Value) (d : Option Addr) (pn : List (Addr × Obj)), Zc cls d oe → (∃ vs, oe.data = .fields vs) → PSs (X.suite a ((a, oe) :: pn)) (b0 :: suite) (tS c (fun _ _ _ _ => False) msu))
    (hx : ∀ k, PySem.W.exmOne X.K (.ref (c.cls k)) cv = some (caught k)) :
    PS X (.Try body [.ExceptHandler (some (.Name x np)) none (b0 :: suite) pos'] [] [] pos) (tS c W0 (sTry caught mb msu)) := by
  have base := ps_try_only (pos := pos) (pos' := pos') (np := np) (ts := fun _ _ _ => tS c (fun _ _ _ _ => False) msu) hs hf hc tk hb hsu
  refine ⟨fun pins s0 σ0 H0 D I h => base.run pins s0 σ0 H0 D I ?_⟩
  obtain ⟨ρ, μ, s, fl, s', re, rs, e, q⟩ := h
  unfold sTry at e
  cases z : mb ρ s with
  | none => rw [z] at e; cases e
  | some p =>
    obtain ⟨f1, s1⟩ := p
    rw [z] at e
    refine ⟨ρ, μ, s, f1, s1, re, rs, z, fun μ1 H1 g1 rs1 => ?_⟩
    cases f1 with
    | ex x1 ρ1 =>
      intro σ1 k d re1 rx
      have hk : k = .ref (c.cls x1.k) := rx.1
      refine ⟨caught x1.k, by rw [hk]; exact hx _, fun hb1 a na => ?_, fun hb1 => ?_⟩
      · dsimp only at e
        rw [if_pos hb1] at e
        cases zz : msu ρ1 s1 with
        | none => rw [zz] at e; cases e
        | some p2 =>
          obtain ⟨f2, s2⟩ := p2
          rw [zz] at e
          refine ⟨ρ1, μ1, s1, f2, s2, re1, rs1, zz, fun μ3 H3 g3 rs3 => ?_⟩
          cases f2 with
          | ex x2 ρ3 => cases e
          | _ => cases e; exact q μ3 H3 (g1.trans g3) rs3
      · dsimp only at e
        rw [if_neg (by rw [hb1]; exact Bool.false_ne_true)] at e
        cases e
        exact q μ1 H1 g1 rs1 σ1 k d re1 rx
    | nx ρ1 => cases e; exact q μ1 H1 g1 rs1
    | rt w => cases e; exact q μ1 H1 g1 rs1
    | bk ρ1 => cases e; exact q μ1 H1 g1 rs1
    | ct ρ1 => cases e; exact q μ1 H1 g1 rs1
end
end ME
namespace ME
open PySem PySem.Spec PyProof.Rows L2
theorem Ctx.tr {c : Cfg} {X : Cx} {E : L2.St → XK} {W : WX} {pn : List (Addr × Obj)} {xe : Value → Shared → Prop} (G : Ctx c X E) (tk : Takes (X.tr pn xe) W) (hs : X.stack = X.env :: X.outer) (hf : X.env.frame = some X.env.locals) : Ctx c (X.tr pn xe) (WE W) :=
  ⟨G.hK, G.calm, fun σ => lets_def (X := X.tr pn xe) hs hf tk σ, G.nd, G.hu⟩
end ME

set_option Elab.async false
set_option linter.all false
set_option maxRecDepth 100000
namespace ME
open PySem PySem.Spec PyProof.Rows L2
def topS (i : Nat) : Stmt := PySem.Challenge.pw_facetlore_k82_values_told_from_wrong_tex.main.body.getD i (.Pass ⟨0, 0, 0, 0⟩)
abbrev s_divisor : Stmt := topS 7
abbrev s_is_prime : Stmt := topS 8
abbrev s_is_integer : Stmt := topS 11
abbrev s_is_field : Stmt := topS 13
abbrev s_is_domain : Stmt := topS 12
abbrev s_need_domain : Stmt := topS 14
abbrev s_zero : Stmt := topS 17
abbrev s_belongs : Stmt := topS 16
abbrev s_is_element : Stmt := topS 15
abbrev s_is_matrix : Stmt := topS 19
abbrev s_piece_base : Stmt := topS 25
abbrev s_fail : Stmt := topS 26
abbrev s_read_natural : Stmt := topS 27
abbrev s_read_integer : Stmt := topS 28
abbrev s_read_domain : Stmt := topS 29
abbrev s_pieces : Stmt := topS 31
abbrev s_read_element : Stmt := topS 30
abbrev s_read_list : Stmt := topS 32
abbrev s_read_vector : Stmt := topS 33
abbrev s_read_sizes : Stmt := topS 34
abbrev s_read_matrix : Stmt := topS 35
abbrev s_law_start : Stmt := topS 37
abbrev s_law_fill : Stmt := topS 38
abbrev s_law_take : Stmt := topS 39
abbrev s_law_zero : Stmt := topS 40
abbrev s_law_common : Stmt := topS 41
abbrev s_law_domain : Stmt := topS 42
abbrev s_law_small : Stmt := topS 43
abbrev s_law_matrix : Stmt := topS 44
abbrev s_law_domain_text : Stmt := topS 45
abbrev s_law_text : Stmt := topS 46
abbrev s_law_vector_text : Stmt := topS 47
abbrev s_law_matrix_text : Stmt := topS 48
abbrev s_law_natural_of : Stmt := topS 49
abbrev s_law_integer_of : Stmt := topS 50
abbrev s_law_domain_of : Stmt := topS 51
abbrev s_law_element_of : Stmt := topS 52
abbrev s_law_pieces : Stmt := topS 53
abbrev s_law_list_of : Stmt := topS 54
abbrev s_law_vector_of : Stmt := topS 55
abbrev s_law_matrix_of : Stmt := topS 56
abbrev s_law_due : Stmt := topS 57
abbrev s_law_made : Stmt := topS 58
abbrev s_law_read : Stmt := topS 59
abbrev s_law_changed : Stmt := topS 60
abbrev s_law_pieced : Stmt := topS 61
abbrev s_law : Stmt := topS 62
end ME

set_option Elab.async false
set_option linter.all false
set_option maxRecDepth 100000
set_option maxHeartbeats 1000000
/-! ### reasoning about mirrors -/
namespace ME
open PySem PySem.Spec PyProof.Rows L2
def WM {α : Type} (r : Res α) (Q : α → Sto → Prop) (X : Er → Sto → Prop) : Prop := match r with
  | .ok a s => Q a s
  | .er e s => X e s
  | .no => False
def WO {α : Type} (r : Option (α × Sto)) (Q : α → Sto → Prop) : Prop := match r with
  | some p => Q p.1 p.2
  | none => False
def WS (r : SR) (Q : Fl → Sto → Prop) : Prop := match r with
  | some p => Q p.1 p.2
  | none => False
theorem WM.imp {α : Type} {r : Res α} {Q Q' : α → Sto → Prop} {X X' : Er → Sto → Prop} (h : WM r Q X) (k : ∀ a s, Q a s → Q' a s) (kx : ∀ e s, X e s → X' e s) : WM r Q' X' := by
  cases r with
  | ok a s => exact k _ _ h
  | er e s => exact kx _ _ h
  | no => exact h
theorem WM.imp' {α : Type} {r : Res α} {Q Q' : α → Sto → Prop} {X : Er → Sto → Prop} (h : WM r Q X) (k : ∀ a s, Q a s → Q' a s) : WM r Q' X := h.imp k fun _ _ h => h
theorem WS.imp {r : SR} {Q Q' : Fl → Sto → Prop} (h : WS r Q) (k : ∀ a s, Q a s → Q' a s) : WS r Q' := by
  cases r with
  | none => exact h
  | some p => exact k _ _ h
theorem WM.ok {α : Type} {r : Res α} {Q : α → Sto → Prop} (h : WM r Q fun _ _ => False) : ∃ a s, r = .ok a s ∧ Q a s := by
  cases r with
  | ok a s => exact ⟨a, s, rfl, h⟩
  | er e s => exact h.elim
  | no => exact h.elim
section
variable {α β : Type} {Q : α → Sto → Prop} {X : Er → Sto → Prop} {ρ : Env} {s : Sto}
@[simp] theorem WM_ok {a : α} : WM (.ok a s) Q X = Q a s := rfl
@[simp] theorem WM_er {e : Er} : WM (.er e s : Res α) Q X = X e s := rfl
@[simp] theorem WM_no : WM (.no : Res α) Q X = False := rfl
@[simp] theorem WO_some {a : α} : WO (some (a, s)) Q = Q a s := rfl
@[simp] theorem WO_none : WO (none : Option (α × Sto)) Q = False := rfl
@[simp] theorem WS_some {Q : Fl → Sto → Prop} {f : Fl} : WS (some (f, s)) Q = Q f s := rfl
@[simp] theorem WS_none {Q : Fl → Sto → Prop} : WS none Q = False := rfl
@[simp] theorem WM_ite {p : Prop} [Decidable p] {a b : Res α} : WM (if p then a else b) Q X = if p then WM a Q X else WM b Q X := by split <;> rfl
@[simp] theorem WO_ite {p : Prop} [Decidable p] {a b : Option (α × Sto)} : WO (if p then a else b) Q = if p then WO a Q else WO b Q := by split <;> rfl
@[simp] theorem WS_ite {p : Prop} [Decidable p] {a b : SR} {Q : Fl → Sto → Prop} : WS (if p then a else b) Q = if p then WS a Q else WS b Q := by split <;> rfl
@[simp] theorem WM_bind {m : M β} {f : β → M α} : WM (bindM m f s) Q X = WM (m s) (fun b s' => WM (f b s') Q X) X := by
  unfold bindM
  cases m s <;> rfl
@[simp] theorem WM_lift {o : O α} : WM (liftO o s) Q X = WO (o s) Q := by
  unfold liftO
  cases h : o s with
  | none => rfl
  | some p => rfl
end
section
variable {Q : W → Sto → Prop} {X : Er → Sto → Prop} {ρ : Env} {s : Sto}
@[simp] theorem wm_eVar {i : Nat} : WM (eVar i ρ s) Q X = ∃ w, ρ[i]? = some (some w) ∧ Q w s := by
  unfold eVar
  split
  · rename_i w h
    rw [h]
    simp
  · rename_i h
    simp only [WM_no, eq_iff_iff, false_iff]
    rintro ⟨w, e, _⟩
    exact h w e
@[simp] theorem wm_eC {w : W} : WM (eC w ρ s) Q X = Q w s := rfl
@[simp] theorem wm_e1 {g : W → O W} {a : Env → M W} : WM (e1 g a ρ s) Q X = WM (a ρ s) (fun x s1 => WO (g x s1) Q) X := by unfold e1; simp
@[simp] theorem wm_e2 {g : W → W → O W} {a b : Env → M W} : WM (e2 g a b ρ s) Q X = WM (a ρ s) (fun x s1 => WM (b ρ s1) (fun y s2 => WO (g x y s2) Q) X) X := by unfold e2; simp
@[simp] theorem wm_eN {g : List W → O W} {a : Env → M (List W)} : WM (eN g a ρ s) Q X = WM (a ρ s) (fun x s1 => WO (g x s1) Q) X := by unfold eN; simp
@[simp] theorem wm_eCall {g : List W → M W} {a : Env → M (List W)} : WM (eCall g a ρ s) Q X = WM (a ρ s) (fun x s1 => WM (g x s1) Q X) X := by unfold eCall; simp
@[simp] theorem wm_aNil {Q : List W → Sto → Prop} : WM (aNil ρ s) Q X = Q [] s := rfl
@[simp] theorem wm_aCons {Q : List W → Sto → Prop} {a : Env → M W} {b : Env → M (List W)} : WM (aCons a b ρ s) Q X = WM (a ρ s) (fun x s1 => WM (b ρ s1) (fun xs s2 => Q (x :: xs) s2) X) X := by unfold aCons; simp
@[simp] theorem wo_getB_bl {b : Bool} {Q : Bool → Sto → Prop} : WO (getB (.bl b) s) Q = Q b s := rfl
@[simp] theorem wo_getI_int {b : Int} {Q : Int → Sto → Prop} : WO (getI (.int b) s) Q = Q b s := rfl
@[simp] theorem wm_xB {Q : Bool → Sto → Prop} {a : Env → M W} : WM (xB a ρ s) Q X = WM (a ρ s) (fun x s1 => WO (getB x s1) Q) X := by unfold xB; simp
@[simp] theorem wm_xTru {Q : Bool → Sto → Prop} {g : W → O Bool} {a : Env → M W} : WM (xTru g a ρ s) Q X = WM (a ρ s) (fun x s1 => WO (g x s1) Q) X := by unfold xTru; simp
@[simp] theorem wm_xNot {Q : Bool → Sto → Prop} {a : Env → M Bool} : WM (xNot a ρ s) Q X = WM (a ρ s) (fun x s1 => Q (!x) s1) X := by unfold xNot; simp
@[simp] theorem wm_xAnd {Q : Bool → Sto → Prop} {a b : Env → M Bool} : WM (xAnd a b ρ s) Q X = WM (a ρ s) (fun x s1 => if x = true then WM (b ρ s1) Q X else Q false s1) X := by
  unfold xAnd
  rw [WM_bind]
  congr 1
  funext x s1
  cases x <;> rfl
@[simp] theorem wm_xOr {Q : Bool → Sto → Prop} {a b : Env → M Bool} : WM (xOr a b ρ s) Q X = WM (a ρ s) (fun x s1 => if x = true then Q true s1 else WM (b ρ s1) Q X) X := by
  unfold xOr
  rw [WM_bind]
  congr 1
  funext x s1
  cases x <;> rfl
@[simp] theorem wm_eIf {t : Env → M Bool} {a b : Env → M W} : WM (eIf t a b ρ s) Q X = WM (t ρ s) (fun x s1 => if x = true then WM (a ρ s1) Q X else WM (b ρ s1) Q X) X := by
  unfold eIf
  rw [WM_bind]
  congr 1
  funext x s1
  cases x <;> rfl
@[simp] theorem wm_eNotT {a : Env → M W} : WM (eNotT a ρ s) Q X = WM (a ρ s) (fun x s1 => WO (truW x s1) fun k s2 => Q (.bl (!k)) s2) X := by unfold eNotT; simp
@[simp] theorem wm_eAndT {a b : Env → M W} : WM (eAndT a b ρ s) Q X = WM (a ρ s) (fun x s1 => WO (truW x s1) fun k s2 => if k = true then WM (b ρ s2) Q X else Q x s2) X := by
  unfold eAndT
  rw [WM_bind]
  congr 1
  funext x s1
  rw [WM_bind, WM_lift]
  congr 1
  funext k s2
  cases k <;> rfl
@[simp] theorem wm_eOrT {a b : Env → M W} : WM (eOrT a b ρ s) Q X = WM (a ρ s) (fun x s1 => WO (truW x s1) fun k s2 => if k = true then Q x s2 else WM (b ρ s2) Q X) X := by
  unfold eOrT
  rw [WM_bind]
  congr 1
  funext x s1
  rw [WM_bind, WM_lift]
  congr 1
  funext k s2
  cases k <;> rfl
@[simp] theorem wm_eChain {g g' : W → W → O W} {a b d : Env → M W} : WM (eChain g g' a b d ρ s) Q X = WM (a ρ s) (fun x s1 => WM (b ρ s1) (fun y s2 => WO (g x y s2) fun z s3 => WO (getB z s3) fun k s4 => if k = true then WM (d ρ s4) (fun u s5 => WO (g' y u s5) Q) X else Q (.bl false) s4) X) X := by
  unfold eChain
  rw [WM_bind]
  congr 1
  funext x s1
  rw [WM_bind]
  congr 1
  funext y s2
  rw [WM_bind, WM_lift]
  congr 1
  funext z s3
  rw [WM_bind, WM_lift]
  congr 1
  funext k s4
  cases k
  · rfl
  · simp
@[simp] theorem wm_eTup {a : Env → M (List W)} : WM (eTup a ρ s) Q X = WM (a ρ s) (fun xs s1 => xs.length ≤ sizeLine ∧ Q (.tup xs) s1) X := by
  unfold eTup
  rw [WM_bind]
  congr 1
  funext xs s1
  by_cases h : xs.length ≤ sizeLine
  · rw [if_pos h]; simp [h]
  · rw [if_neg h]; simp [h]
@[simp] theorem wm_eLst {a : Env → M (List W)} : WM (eLst a ρ s) Q X = WM (a ρ s) (fun xs s1 => xs.length ≤ sizeLine ∧ Q (.ref s1.length) (s1 ++ [.lst xs])) X := by
  unfold eLst
  rw [WM_bind]
  congr 1
  funext xs s1
  by_cases h : xs.length ≤ sizeLine
  · rw [if_pos h]; simp [h]
  · rw [if_neg h]; simp [h]
@[simp] theorem wm_pNone {Q : Option Int → Sto → Prop} : WM (pNone ρ s) Q X = Q none s := rfl
@[simp] theorem wm_pSome {Q : Option Int → Sto → Prop} {a : Env → M W} : WM (pSome a ρ s) Q X = WM (a ρ s) (fun x s1 => WO (getI x s1) fun i s2 => Q (some i) s2) X := by unfold pSome; simp
@[simp] theorem wm_eSl {g : W → Option Int → Option Int → O W} {a : Env → M W} {l h : Env → M (Option Int)} : WM (eSl g a l h ρ s) Q X = WM (a ρ s) (fun x s1 => WM (l ρ s1) (fun i s2 => WM (h ρ s2) (fun j s3 => WO (g x i j s3) Q) X) X) X := by unfold eSl; simp
@[simp] theorem wm_eM {T : String} {g : W → List W → O W} {o : Env → M W} {a : Env → M (List W)} : WM (eM T g o a ρ s) Q X = WM (o ρ s) (fun x s1 => isT s1 T x = true ∧ WM (a ρ s1) (fun ws s2 => WO (g x ws s2) Q) X) X := by
  unfold eM
  rw [WM_bind]
  congr 1
  funext x s1
  by_cases h : isT s1 T x = true
  · rw [if_pos h]; simp [h]
  · rw [if_neg h]; simp [h]
@[simp] theorem wm_runM {n k : Nat} {m : SM} {ws : List W} : WM (runM n k m ws s) Q X = (ws.length = k ∧ WS (m (startE n ws) s) (fun fl s' => match fl with
    | .rt w => Q w s'
    | .nx _ => Q .non s'
    | .ex e _ => X e s'
    | _ => False)) := by
  unfold runM
  by_cases h : ws.length = k
  · rw [if_pos h]
    cases z : m (startE n ws) s with
    | none => simp [h]
    | some p =>
      obtain ⟨fl, s'⟩ := p
      cases fl <;> simp [h]
  · rw [if_neg h]
    simp [h]
end
/-! statements -/
/-- what follows, or the end -/
def nxK (k : Env → Sto → Prop) (Q : Fl → Sto → Prop) : Fl → Sto → Prop
  | .nx ρ, s => k ρ s
  | fl, s => Q fl s
section
variable {k : Env → Sto → Prop} {Q : Fl → Sto → Prop} {ρ : Env} {s : Sto}
@[simp] theorem nxK_nx : nxK k Q (.nx ρ) s = k ρ s := rfl
@[simp] theorem nxK_rt {w : W} : nxK k Q (.rt w) s = Q (.rt w) s := rfl
@[simp] theorem nxK_bk : nxK k Q (.bk ρ) s = Q (.bk ρ) s := rfl
@[simp] theorem nxK_ct : nxK k Q (.ct ρ) s = Q (.ct ρ) s := rfl
@[simp] theorem nxK_ex {e : Er} : nxK k Q (.ex e ρ) s = Q (.ex e ρ) s := rfl
@[simp] theorem ws_ofM {α : Type} {m : M α} {f : α → Sto → SR} : WS (ofM ρ m f s) Q = WM (m s) (fun a s1 => WS (f a s1) Q) (fun e s1 => Q (.ex e ρ) s1) := by
  unfold ofM
  cases m s <;> rfl
@[simp] theorem ws_skip : WS (sSkip ρ s) Q = Q (.nx ρ) s := rfl
@[simp] theorem ws_break : WS (sBreak ρ s) Q = Q (.bk ρ) s := rfl
@[simp] theorem ws_cont : WS (sCont ρ s) Q = Q (.ct ρ) s := rfl
@[simp] theorem ws_never : WS (sNever ρ s) Q = False := rfl
@[simp] theorem ws_retN : WS (sRetN ρ s) Q = Q (.rt .non) s := rfl
@[simp] theorem ws_raise {k : Nat} : WS (sRaise k ρ s) Q = Q (.ex ⟨k, none⟩ ρ) s := rfl
@[simp] theorem ws_seq {a b : SM} : WS (sSeq a b ρ s) Q = WS (a ρ s) (nxK (fun ρ' s' => WS (b ρ' s') Q) Q) := by
  unfold sSeq
  cases a ρ s with
  | none => rfl
  | some p =>
    obtain ⟨fl, s'⟩ := p
    cases fl <;> rfl
@[simp] theorem ws_expr {m : Env → M W} : WS (sExpr m ρ s) Q = WM (m ρ s) (fun _ s1 => Q (.nx ρ) s1) (fun e s1 => Q (.ex e ρ) s1) := by unfold sExpr; simp
@[simp] theorem ws_ret {m : Env → M W} : WS (sRet m ρ s) Q = WM (m ρ s) (fun w s1 => Q (.rt w) s1) (fun e s1 => Q (.ex e ρ) s1) := by unfold sRet; simp
@[simp] theorem ws_if {t : Env → M Bool} {a b : SM} : WS (sIf t a b ρ s) Q = WM (t ρ s) (fun k s1 => if k = true then WS (a ρ s1) Q else WS (b ρ s1) Q) (fun e s1 => Q (.ex e ρ) s1) := by unfold sIf; simp
@[simp] theorem ws_asg {m : Env → M W} {g : GM} : WS (sAsg m g ρ s) Q = WM (m ρ s) (fun w s1 => WO (g w ρ s1) fun ρ' s2 => Q (.nx ρ') s2) (fun e s1 => Q (.ex e ρ) s1) := by
  unfold sAsg
  rw [ws_ofM]
  congr 1
  funext w s1
  cases g w ρ s1 <;> rfl
@[simp] theorem ws_par {i j : Nat} {m : Env → M (List W)} : WS (sPar i j m ρ s) Q = WM (m ρ s) (fun ws s1 => match ws with
  | [v, w] => Q (.nx ((ρ.set i (some v)).set j (some w))) s1
  | _ => False) (fun e s1 => Q (.ex e ρ) s1) := by
  unfold sPar
  rw [ws_ofM]
  congr 1
  funext w s1
  match w with
  | [] => rfl
  | [a] => rfl
  | [a, b] => rfl
  | a :: b :: c :: r => rfl
@[simp] theorem ws_aug {i : Nat} {g : W → W → O W} {m : Env → M W} : WS (sAug i g m ρ s) Q = ∃ x, ρ[i]? = some (some x) ∧ WM (m ρ s) (fun y s1 => WO (g x y s1) fun z s2 => Q (.nx (ρ.set i (some z))) s2) (fun e s1 => Q (.ex e ρ) s1) := by
  unfold sAug
  split
  · rename_i x h
    rw [h, ws_ofM]
    simp only [Option.some.injEq, exists_eq_left']
    congr 1
    funext w s1
    cases g x w s1 <;> rfl
  · rename_i h
    simp only [WS_none, eq_iff_iff, false_iff]
    rintro ⟨w, e, _⟩
    exact h w e
@[simp] theorem wo_gN {i : Nat} {w : W} {Q : Env → Sto → Prop} : WO (gN i w ρ s) Q = Q (ρ.set i (some w)) s := rfl
@[simp] theorem wo_gsNil {Q : Env → Sto → Prop} : WO (gsNil [] ρ s) Q = Q ρ s := rfl
@[simp] theorem wo_gsCons {g : GM} {r : GMs} {w : W} {ws : List W} {Q : Env → Sto → Prop} : WO (gsCons g r (w :: ws) ρ s) Q = WO (g w ρ s) fun ρ' s' => WO (r ws ρ' s') Q := by
  show WO ((g w ρ s).bind fun p => r ws p.1 p.2) Q = _
  cases g w ρ s <;> rfl
@[simp] theorem wo_gT {n : Nat} {g : GMs} {ws : List W} {Q : Env → Sto → Prop} : WO (gT n g (.tup ws) ρ s) Q = (ws.length = n ∧ WO (g ws ρ s) Q) := by
  unfold gT
  by_cases h : ws.length = n
  · simp [h]
  · simp [h]
@[simp] theorem wo_gS {o i : Env → M W} {w : W} {Q : Env → Sto → Prop} : WO (gS o i w ρ s) Q = WM (o ρ s) (fun a s1 => WM (i ρ s1) (fun b s2 => ∃ s3, setAt a b w s2 = some s3 ∧ Q ρ s3) fun _ _ => False) fun _ _ => False := by
  unfold gS
  cases o ρ s with
  | ok a s1 =>
    dsimp only [WM_ok]
    cases i ρ s1 with
    | ok b s2 =>
      dsimp only [WM_ok]
      cases setAt a b w s2 <;> simp
    | er e s2 => rfl
    | no => rfl
  | er e s1 => rfl
  | no => rfl
end
/-- what holds between two statements -/
theorem ws_cut {a b : SM} {ρ : Env} {s : Sto} {Q : Fl → Sto → Prop} (I : Env → Sto → Prop) (h1 : WS (a ρ s) (nxK I Q)) (h2 : ∀ ρ' s', I ρ' s' → WS (b ρ' s') Q) : WS (sSeq a b ρ s) Q := by
  rw [ws_seq]
  refine h1.imp fun fl s' h => ?_
  cases fl with
  | nx ρ' => exact h2 _ _ h
  | _ => exact h
theorem nx_cut {a : SR} {Q : Fl → Sto → Prop} {k : Env → Sto → Prop} (I : Env → Sto → Prop) (h1 : WS a (nxK I Q)) (h2 : ∀ ρ' s', I ρ' s' → k ρ' s') : WS a (nxK k Q) :=
  h1.imp fun fl s' h => by
    cases fl with
    | nx ρ' => exact h2 _ _ h
    | _ => exact h
/-! loops -/
theorem ws_loopNext {k : SM} {r : SR} {Q : Fl → Sto → Prop} : WS (loopNext k r) Q = WS r (fun fl s => match fl with
    | .nx ρ => WS (k ρ s) Q
    | .ct ρ => WS (k ρ s) Q
    | .bk ρ => Q (.nx ρ) s
    | fl => Q fl s) := by
  cases r with
  | none => rfl
  | some p =>
    obtain ⟨fl, s⟩ := p
    cases fl <;> rfl
/-- the body's ends within a loop -/
def lpK (k : Env → Sto → Prop) (Q : Fl → Sto → Prop) : Fl → Sto → Prop
  | .nx ρ, s => k ρ s
  | .ct ρ, s => k ρ s
  | .bk ρ, s => Q (.nx ρ) s
  | fl, s => Q fl s
section
variable {k : Env → Sto → Prop} {Q : Fl → Sto → Prop} {ρ : Env} {s : Sto}
@[simp] theorem lpK_nx : lpK k Q (.nx ρ) s = k ρ s := rfl
@[simp] theorem lpK_rt {w : W} : lpK k Q (.rt w) s = Q (.rt w) s := rfl
@[simp] theorem lpK_bk : lpK k Q (.bk ρ) s = Q (.nx ρ) s := rfl
@[simp] theorem lpK_ct : lpK k Q (.ct ρ) s = k ρ s := rfl
@[simp] theorem lpK_ex {e : Er} : lpK k Q (.ex e ρ) s = Q (.ex e ρ) s := rfl
end
theorem lp_cut {a : SR} {Q : Fl → Sto → Prop} {k : Env → Sto → Prop} (I : Env → Sto → Prop) (h1 : WS a (lpK I Q)) (h2 : ∀ ρ' s', I ρ' s' → k ρ' s') : WS a (lpK k Q) :=
  h1.imp fun fl s' h => by
    cases fl with
    | nx ρ' => exact h2 _ _ h
    | ct ρ' => exact h2 _ _ h
    | _ => exact h
/-- for, by a word about the turn -/
theorem for_by {l : Lock} {g : GM} {b : SM} {Q : Fl → Sto → Prop} {ws : List W} (I : Nat → Env → Sto → Prop)
    (hl : ∀ i ρ s, i ≤ ws.length → I i ρ s → okL l s)
    (hs : ∀ i w ρ s, ws[i]? = some w → I i ρ s → WO (g w ρ s) fun ρ' s' => WS (b ρ' s') (lpK (I (i + 1)) Q))
    (hd : ∀ ρ s, I ws.length ρ s → Q (.nx ρ) s) : ∀ {ρ : Env} {s : Sto}, I 0 ρ s → WS (forN l g b ws ρ s) Q := by
  have go : ∀ (r : List W) (i : Nat), ws.drop i = r → i ≤ ws.length → ∀ (ρ : Env) (s : Sto), I i ρ s → WS (forN l g b r ρ s) Q := by
    intro r
    induction r with
    | nil =>
      intro i hr hi ρ s h
      have : i = ws.length := by
        have := congrArg List.length hr
        rw [List.length_drop] at this
        simp at this
        omega
      subst this
      unfold forN
      rw [if_pos (hl _ _ _ hi h)]
      exact hd ρ s h
    | cons w r ih =>
      intro i hr hi ρ s h
      have lt : i < ws.length := by
        have := congrArg List.length hr
        rw [List.length_drop] at this
        simp at this
        omega
      have e := List.drop_eq_getElem_cons lt
      rw [hr] at e
      injection e with e1 e2
      have h1 := hs i w ρ s (by rw [e1]; exact List.getElem?_eq_getElem lt) h
      unfold forN
      rw [if_pos (hl _ _ _ hi h)]
      cases z : g w ρ s with
      | none => rw [z] at h1; exact h1.elim
      | some p =>
        rw [z] at h1
        show WS (loopNext (forN l g b r) (b p.1 p.2)) Q
        rw [ws_loopNext]
        refine WS.imp (show WS (b p.1 p.2) (lpK (I (i + 1)) Q) from h1) fun fl s' h2 => ?_
        cases fl with
        | nx ρ' => exact ih (i + 1) e2.symm lt ρ' s' h2
        | ct ρ' => exact ih (i + 1) e2.symm lt ρ' s' h2
        | bk ρ' => exact h2
        | rt w => exact h2
        | ex e ρ' => exact h2
  exact fun {ρ s} h => go ws 0 rfl (Nat.zero_le _) ρ s h
@[simp] theorem ws_for {im : IM} {g : GM} {b : SM} {ρ : Env} {s : Sto} {Q : Fl → Sto → Prop} : WS (sFor im g b ρ s) Q = WM (im ρ s) (fun p s1 => WS (forN p.2 g b p.1 ρ s1) Q) (fun e s1 => Q (.ex e ρ) s1) := by unfold sFor; simp
@[simp] theorem wm_iRange1 {m : Env → M (List W)} {ρ : Env} {s : Sto} {Q : List W × Lock → Sto → Prop} {X : Er → Sto → Prop} : WM (iRange m ρ s) Q X = WM (m ρ s) (fun ws s1 => match ws with
  | [.int j] => (-(2 ^ 62) ≤ j ∧ j < 2 ^ 62) ∧ Q (rangeL 0 1 j.toNat, none) s1
  | [.int i, .int j] => (-(2 ^ 62) ≤ i ∧ i < 2 ^ 62 ∧ -(2 ^ 62) ≤ j ∧ j < 2 ^ 62) ∧ Q (rangeL i 1 (j - i).toNat, none) s1
  | [.int i, .int j, .int k] => (k = -1 ∧ -(2 ^ 62) ≤ i ∧ i < 2 ^ 62 ∧ -(2 ^ 62) ≤ j ∧ j < 2 ^ 62) ∧ Q (rangeL i (-1) (i - j).toNat, none) s1
  | _ => False) X := by
  unfold iRange
  rw [WM_bind]
  congr 1
  funext ws s1
  have one : ∀ {p : Prop} [Decidable p] {a : List W × Lock}, WM (if p then .ok a s1 else .no) Q X = (p ∧ Q a s1) := fun {p _ a} => by
    by_cases h : p
    · rw [if_pos h]; simp [h]
    · rw [if_neg h]; simp [h]
  split
  · exact one
  · exact one
  · exact one
  · rename_i h1 h2 h3
    first
      | rfl
      | (split <;> first | exact absurd rfl (h1 _) | exact absurd rfl (h2 _ _) | exact absurd rfl (h3 _ _ _) | rfl)
@[simp] theorem wm_iVal {m : Env → M W} {ρ : Env} {s : Sto} {Q : List W × Lock → Sto → Prop} {X : Er → Sto → Prop} : WM (iVal m ρ s) Q X = WM (m ρ s) (fun w s1 => match w with
  | .tup xs => Q (xs, none) s1
  | .str z => Q (z.map fun k => .str [k], none) s1
  | .ref n => (match s1[n]? with
    | some (.lst xs) => Q (xs, some (n, xs)) s1
    | _ => False)
  | _ => False) X := by
  unfold iVal
  rw [WM_bind]
  congr 1
  funext w s1
  cases w with
  | ref n =>
    dsimp only
    cases h : s1[n]? with
    | none => rfl
    | some x => cases x <;> rfl
  | _ => rfl
/-- while, by a word and a measure -/
theorem while_by {t : Env → M Bool} {b : SM} {Q : Fl → Sto → Prop} (I : Nat → Env → Sto → Prop)
    (hs : ∀ n ρ s, I n ρ s → WM (t ρ s) (fun k s1 => if k = true then WS (b ρ s1) (lpK (fun ρ' s' => ∃ m, m < n ∧ I m ρ' s') Q) else Q (.nx ρ) s1) (fun e s1 => Q (.ex e ρ) s1))
    {n : Nat} {ρ : Env} {s : Sto} (h : I n ρ s) : WS (sWhile t b ρ s) Q := by
  have go : ∀ (n : Nat) (ρ : Env) (s : Sto), I n ρ s → ∃ k, WS (whileN t b k ρ s) Q := by
    intro n
    induction n using Nat.strongRecOn with
    | ind n ih =>
      intro ρ s h
      have h1 := hs n ρ s h
      cases z : t ρ s with
      | no => rw [z] at h1; exact h1.elim
      | er e s1 =>
        rw [z] at h1
        exact ⟨1, by unfold whileN; rw [ws_ofM, z]; exact h1⟩
      | ok k s1 =>
        rw [z] at h1
        cases k with
        | false => exact ⟨1, by unfold whileN; rw [ws_ofM, z]; exact h1⟩
        | true =>
          have h2 : WS (b ρ s1) (lpK (fun ρ' s' => ∃ m, m < n ∧ I m ρ' s') Q) := h1
          cases y : b ρ s1 with
          | none => rw [y] at h2; exact h2.elim
          | some p =>
            obtain ⟨fl, s2⟩ := p
            rw [y] at h2
            have step : ∀ k, WS (whileN t b (k + 1) ρ s) Q = WS (loopNext (whileN t b k) (some (fl, s2))) Q := fun k => by
              show WS (ofM ρ (t ρ) _ s) Q = _
              rw [ws_ofM, z]
              show WS (if true = true then loopNext (whileN t b k) (b ρ s1) else _) Q = _
              rw [if_pos rfl, y]
            cases fl with
            | nx ρ' =>
              obtain ⟨m, hm, hI⟩ := h2
              obtain ⟨k, hk⟩ := ih m hm ρ' s2 hI
              exact ⟨k + 1, by rw [step]; exact hk⟩
            | ct ρ' =>
              obtain ⟨m, hm, hI⟩ := h2
              obtain ⟨k, hk⟩ := ih m hm ρ' s2 hI
              exact ⟨k + 1, by rw [step]; exact hk⟩
            | bk ρ' => exact ⟨1, by rw [step]; exact h2⟩
            | rt w => exact ⟨1, by rw [step]; exact h2⟩
            | ex e ρ' => exact ⟨1, by rw [step]; exact h2⟩
  -- one answer for all measures
  have one : ∀ (k : Nat) (ρ : Env) (s : Sto) (r : Fl × Sto), whileN t b k ρ s = some r → whileN t b (k + 1) ρ s = some r := by
    intro k
    induction k with
    | zero => intro ρ s r h; cases h
    | succ k ih =>
      intro ρ s r h
      unfold whileN at h ⊢
      unfold ofM at h ⊢
      cases z : t ρ s with
      | no => rw [z] at h; cases h
      | er e s1 => rw [z] at h; exact h
      | ok k' s1 =>
        rw [z] at h
        dsimp only at h ⊢
        cases k' with
        | false => exact h
        | true =>
          rw [if_pos rfl] at h ⊢
          cases y : b ρ s1 with
          | none => rw [y] at h; cases h
          | some p =>
            obtain ⟨fl, s2⟩ := p
            rw [y] at h
            cases fl with
            | nx ρ' => exact ih ρ' s2 r h
            | ct ρ' => exact ih ρ' s2 r h
            | bk ρ' => exact h
            | rt w => exact h
            | ex e ρ' => exact h
  have more : ∀ (j k : Nat) (ρ : Env) (s : Sto) (r : Fl × Sto), k ≤ j → whileN t b k ρ s = some r → whileN t b j ρ s = some r := by
    intro j k ρ s r h e
    induction h with
    | refl => exact e
    | step _ ih => exact one _ ρ s r ih
  obtain ⟨k, hk⟩ := go n ρ s h
  cases z : whileN t b k ρ s with
  | none => rw [z] at hk; exact hk.elim
  | some r =>
    have ex : ∃ n r, whileN t b n ρ s = some r := ⟨k, r, z⟩
    unfold sWhile
    rw [dif_pos ex]
    obtain ⟨r', hr'⟩ := Classical.choose_spec ex
    have : r' = r := by
      have h1 := more (max k (Classical.choose ex)) _ ρ s r (Nat.le_max_left _ _) z
      have h2 := more (max k (Classical.choose ex)) _ ρ s r' (Nat.le_max_right _ _) hr'
      rw [h1] at h2
      exact (Option.some.inj h2).symm
    rw [hr', this, ← z]
    exact hk
/-- a comprehension, by a word about the turn -/
theorem comp_by {l : Lock} {g : GM} {t : Env → M Bool} {m : Env → M W} {ρ : Env} {Q : List W → Sto → Prop} {X : Er → Sto → Prop} {ws : List W} (I : Nat → List W → Sto → Prop)
    (hl : ∀ i acc s, i ≤ ws.length → I i acc s → okL l s)
    (hs : ∀ i w acc s, ws[i]? = some w → I i acc s → WO (g w ρ s) fun ρ' s' => WM (t ρ' s') (fun k s1 => if k = true then WM (m ρ' s1) (fun y s2 => acc.length < sizeLine ∧ I (i + 1) (acc ++ [y]) s2) X else I (i + 1) acc s1) X)
    (hd : ∀ acc s, I ws.length acc s → Q acc s) : ∀ {acc : List W} {s : Sto}, I 0 acc s → WM (compN l g t m ρ ws acc s) Q X := by
  have go : ∀ (r : List W) (i : Nat), ws.drop i = r → i ≤ ws.length → ∀ (acc : List W) (s : Sto), I i acc s → WM (compN l g t m ρ r acc s) Q X := by
    intro r
    induction r with
    | nil =>
      intro i hr hi acc s h
      have : i = ws.length := by
        have := congrArg List.length hr
        rw [List.length_drop] at this
        simp at this
        omega
      subst this
      rw [compN_nil, if_pos (hl _ _ _ hi h)]
      exact hd acc s h
    | cons w r ih =>
      intro i hr hi acc s h
      have lt : i < ws.length := by
        have := congrArg List.length hr
        rw [List.length_drop] at this
        simp at this
        omega
      have e := List.drop_eq_getElem_cons lt
      rw [hr] at e
      injection e with e1 e2
      have h1 := hs i w acc s (by rw [e1]; exact List.getElem?_eq_getElem lt) h
      rw [compN_cons, if_pos (hl _ _ _ hi h)]
      cases z : g w ρ s with
      | none => rw [z] at h1; exact h1.elim
      | some p =>
        rw [z] at h1
        show WM (bindM (t p.1) _ p.2) Q X
        rw [WM_bind]
        refine WM.imp' (show WM (t p.1 p.2) _ X from h1) fun k s1 h2 => ?_
        cases k with
        | false => exact ih (i + 1) e2.symm lt acc s1 h2
        | true =>
          rw [if_pos rfl] at h2
          rw [if_pos rfl, WM_bind]
          refine WM.imp' h2 fun y s2 h3 => ?_
          rw [if_pos h3.1]
          exact ih (i + 1) e2.symm lt _ s2 h3.2
  exact fun {acc s} h => go ws 0 rfl (Nat.zero_le _) acc s h
@[simp] theorem wm_eLc {im : IM} {g : GM} {t : Env → M Bool} {m : Env → M W} {vs : List Nat} {ρ : Env} {s : Sto} {Q : W → Sto → Prop} {X : Er → Sto → Prop} :
    WM (eLc im g t m vs ρ s) Q X = WM (im ρ s) (fun p s1 => WM (compN p.2 g t m (wipeE ρ vs) p.1 [] s1) (fun ws s2 => Q (.ref s2.length) (s2 ++ [.lst ws])) X) X := by unfold eLc; simp
@[simp] theorem wm_xYes {ρ : Env} {s : Sto} {Q : Bool → Sto → Prop} {X : Er → Sto → Prop} : WM (xYes ρ s) Q X = Q true s := rfl
end ME

set_option Elab.async false
set_option linter.all false
set_option maxRecDepth 100000
set_option maxHeartbeats 1000000
/-! ### the operations, as asked -/
namespace ME
open PySem PySem.Spec PyProof.Rows L2
@[simp] theorem szl : (sizeLine : Nat) = 16777216 := sizeLine_eq
section
variable {Q : W → Sto → Prop} {s : Sto} {i j : Int} {x y : List Nat} {xs ys : List W} {n m : Nat} {w u : W} {b : Bool}
@[simp] theorem wo_addI : WO (addW (.int i) (.int j) s) Q = Q (.int (i + j)) s := rfl
@[simp] theorem wo_addS : WO (addW (.str x) (.str y) s) Q = (x.length + y.length ≤ sizeLine ∧ Q (.str (x ++ y)) s) := by
  show WO (if x.length + y.length ≤ sizeLine then some (.str (x ++ y), s) else none) Q = _
  by_cases h : x.length + y.length ≤ sizeLine
  · rw [if_pos h]; simp only [h, true_and, WO_some]
  · rw [if_neg h]; simp only [h, false_and, WO_none]
@[simp] theorem wo_subI : WO (subW (.int i) (.int j) s) Q = Q (.int (i - j)) s := rfl
@[simp] theorem wo_iaddI : WO (iaddW (.int i) (.int j) s) Q = Q (.int (i + j)) s := rfl
@[simp] theorem wo_isubI : WO (isubW (.int i) (.int j) s) Q = Q (.int (i - j)) s := rfl
theorem woif {α : Type} {p : Prop} [Decidable p] {a : α} {s : Sto} {Q : α → Sto → Prop} : WO (if p then some (a, s) else none) Q = (p ∧ Q a s) := by
  by_cases h : p
  · rw [if_pos h]; simp only [h, true_and, WO_some]
  · rw [if_neg h]; simp only [h, false_and, WO_none]
@[simp] theorem wo_mulI : WO (mulW (.int i) (.int j) s) Q = ((i.natAbs < 2 ^ 64 ∨ j.natAbs < 2 ^ 64 ∨ i.natAbs.log2 + j.natAbs.log2 < 1000000) ∧ Q (.int (i * j)) s) := woif
@[simp] theorem wo_mulS : WO (mulW (.str x) (.int i) s) Q = ((0 ≤ i ∧ i < 2 ^ 30 ∧ x.length * i.toNat ≤ sizeLine) ∧ Q (.str (rep i.toNat x)) s) := woif
@[simp] theorem wo_mulT : WO (mulW (.tup xs) (.int i) s) Q = ((xs ≠ [] ∧ xs.length ≤ 1000 ∧ 0 ≤ i ∧ i ≤ 1000) ∧ Q (.tup (rep i.toNat xs)) s) := woif
@[simp] theorem wo_divI : WO (divW (.int i) (.int j) s) Q = ((j ≠ 0 ∧ j.natAbs.log2 < 9000) ∧ Q (.int (i.fdiv j)) s) := woif
@[simp] theorem wo_modI : WO (modW (.int i) (.int j) s) Q = (j ≠ 0 ∧ Q (.int (i.fmod j)) s) := woif
@[simp] theorem wo_powI : WO (powW (.int i) (.int j) s) Q = ((0 ≤ j ∧ j ≤ 1000000 ∧ i.natAbs < 2 ^ 64) ∧ Q (.int (i ^ j.toNat)) s) := woif
@[simp] theorem wo_negI : WO (negW (.int i) s) Q = Q (.int (-i)) s := rfl
@[simp] theorem wo_cmp {f : Int → Int → Bool} : WO (cmpW f (.int i) (.int j) s) Q = Q (.bl (f i j)) s := rfl
@[simp] theorem wo_eqI : WO (eqW (.int i) (.int j) s) Q = Q (.bl (decide (i = j))) s := rfl
@[simp] theorem wo_eqS : WO (eqW (.str x) (.str y) s) Q = Q (.bl (decide (x = y))) s := rfl
@[simp] theorem wo_neI : WO (neW (.int i) (.int j) s) Q = Q (.bl (!decide (i = j))) s := rfl
@[simp] theorem wo_neS : WO (neW (.str x) (.str y) s) Q = Q (.bl (!decide (x = y))) s := rfl
@[simp] theorem wo_isNon : WO (isW w .non s) Q = Q (.bl (isNon w)) s := rfl
@[simp] theorem wo_isBl : WO (isW w (.bl b) s) Q = Q (.bl (isBl b w)) s := rfl
@[simp] theorem wo_isnNon : WO (isnW w .non s) Q = Q (.bl (!isNon w)) s := rfl
@[simp] theorem isNon_non : isNon .non = true := rfl
@[simp] theorem isNon_int : isNon (.int i) = false := rfl
@[simp] theorem isNon_tup : isNon (.tup xs) = false := rfl
@[simp] theorem isNon_ref : isNon (.ref n) = false := rfl
@[simp] theorem wo_inS {k : Nat} : WO (inW (.str [k]) (.str x) s) Q = Q (.bl (decide (k ∈ x))) s := rfl
@[simp] theorem wo_notInS {k : Nat} : WO (notInW (.str [k]) (.str x) s) Q = Q (.bl (!decide (k ∈ x))) s := rfl
section
variable {Q : Bool → Sto → Prop}
@[simp] theorem wo_truN : WO (truW .non s) Q = Q false s := rfl
@[simp] theorem wo_truB : WO (truW (.bl b) s) Q = Q b s := rfl
@[simp] theorem wo_truI : WO (truW (.int i) s) Q = Q (i != 0) s := rfl
@[simp] theorem wo_truT : WO (truW (.tup xs) s) Q = Q (!xs.isEmpty) s := rfl
end
@[simp] theorem wo_ixT : WO (ixW (.tup xs) (.int i) s) Q = (∃ w, atI xs i = some w ∧ Q w s) := by
  show WO ((atI xs i).map fun w => (w, s)) Q = _
  cases atI xs i <;> simp
@[simp] theorem wo_ixS : WO (ixW (.str x) (.int i) s) Q = (x.length ≤ sizeLine ∧ ∃ k, atI x i = some k ∧ Q (.str [k]) s) := by
  show WO (if x.length ≤ sizeLine then (atI x i).map fun k => (.str [k], s) else none) Q = _
  by_cases h : x.length ≤ sizeLine
  · rw [if_pos h, eq_true h, true_and]
    cases atI x i <;> simp
  · rw [if_neg h]; simp only [h, false_and, WO_none]
@[simp] theorem wo_slS {lo hi : Option Int} : WO (slW (.str x) lo hi s) Q = (x.length ≤ sizeLine ∧ Q (.str (cut x lo hi)) s) := woif
@[simp] theorem wo_lenS : WO (lenW [.str x] s) Q = (x.length ≤ sizeLine ∧ Q (.int x.length) s) := woif
@[simp] theorem wo_lenT : WO (lenW [.tup xs] s) Q = Q (.int xs.length) s := rfl
@[simp] theorem wo_intI : WO (intW [.int i] s) Q = Q (.int i) s := rfl
@[simp] theorem wo_intB : WO (intW [.bl b] s) Q = Q (.int (if b then 1 else 0)) s := rfl
@[simp] theorem wo_absI : WO (absW [.int i] s) Q = Q (.int (if i < 0 then -i else i)) s := rfl
@[simp] theorem wo_tupleT : WO (tupleW [.tup xs] s) Q = Q (.tup xs) s := rfl
/-- a list of the store -/
def At (s : Sto) (n : Nat) (xs : List W) : Prop := s[n]? = some (.lst xs)
theorem wo_ixL (h : At s n xs) : WO (ixW (.ref n) (.int i) s) Q = (∃ w, atI xs i = some w ∧ Q w s) := by
  unfold ixW
  dsimp only
  rw [show s[n]? = some (.lst xs) from h]
  show WO ((atI xs i).map fun w => (w, s)) Q = _
  cases atI xs i <;> simp
theorem wo_lenL (h : At s n xs) : WO (lenW [.ref n] s) Q = Q (.int xs.length) s := by
  unfold lenW
  dsimp only
  rw [show s[n]? = some (.lst xs) from h]
  rfl
theorem wo_tupleL (h : At s n xs) : WO (tupleW [.ref n] s) Q = Q (.tup xs) s := by
  unfold tupleW
  dsimp only
  rw [show s[n]? = some (.lst xs) from h]
  rfl
theorem wo_truL {Q : Bool → Sto → Prop} (h : At s n xs) : WO (truW (.ref n) s) Q = Q (!xs.isEmpty) s := by
  unfold truW
  dsimp only
  rw [show s[n]? = some (.lst xs) from h]
  rfl
theorem wo_slL {lo hi : Option Int} (h : At s n xs) : WO (slW (.ref n) lo hi s) Q = Q (.ref s.length) (s ++ [.lst (cut xs lo hi)]) := by
  unfold slW
  dsimp only
  rw [show s[n]? = some (.lst xs) from h]
  rfl
theorem isT_L (h : At s n xs) : isT s "list" (.ref n) = true := by
  unfold isT
  dsimp only
  rw [show s[n]? = some (.lst xs) from h]
  rfl
@[simp] theorem isT_S : isT s "str" (.str x) = true := rfl
theorem wo_appendL (h : At s n xs) : WO (appendW (.ref n) [w] s) Q = (xs.length < sizeLine ∧ Q .non (s.set n (.lst (xs ++ [w])))) := by
  unfold appendW
  dsimp only
  rw [show s[n]? = some (.lst xs) from h]
  show WO (if xs.length < sizeLine then some (.non, s.set n (.lst (xs ++ [w]))) else none) Q = _
  by_cases h : xs.length < sizeLine
  · rw [if_pos h]; simp only [h, true_and, WO_some]
  · rw [if_neg h]; simp only [h, false_and, WO_none]
theorem wo_popL (h : At s n xs) : WO (popW (.ref n) [] s) Q = (∃ w, xs[xs.length - 1]? = some w ∧ Q w (s.set n (.lst xs.dropLast))) := by
  unfold popW
  dsimp only
  rw [show s[n]? = some (.lst xs) from h]
  show WO ((xs[xs.length - 1]?).map fun w => (w, s.set n (.lst xs.dropLast))) Q = _
  cases xs[xs.length - 1]? <;> simp
theorem setAt_L (h : At s n xs) : setAt (.ref n) (.int i) w s = (ixN xs.length i).map fun j => s.set n (.lst (xs.set j w)) := by
  unfold setAt
  dsimp only
  rw [show s[n]? = some (.lst xs) from h]
@[simp] theorem wo_splitS : WO (splitW (.str x) [.str y] s) Q = ((y ≠ [] ∧ y.all (· < 256) = true ∧ x.length + 2 ≤ sizeLine) ∧ Q (.ref s.length) (s ++ [.lst ((TL.spl y 0 [] x).map .str)])) := woif
theorem wo_inL (h : At s n xs) (hf : (flatW w && xs.all flatW) = true) (hn : ∀ k z, w = .str [k] → W.ref n = .str z → False) : WO (inW w (.ref n) s) Q = Q (.bl (inV (flV w) (xs.map flV))) s := by
  have e : inD s w (.ref n) = some (inV (flV w) (xs.map flV)) := by
    unfold inD
    split
    · rename_i h1
      cases h1
    · rename_i m h1
      cases h1
      rw [show s[n]? = some (.lst xs) from h]
      dsimp only
      rw [if_pos hf]
    · rename_i h1 h2
      exact absurd rfl (h1 n)
  unfold inW
  rw [e]
  rfl
/-! places of lists -/
theorem atI_nat' {α : Type} (l : List α) (k : Nat) : atI l (k : Int) = l[k]? := by
  unfold atI ixN
  rw [if_pos (Int.natCast_nonneg _)]
  by_cases h : (k : Int) < l.length
  · rw [if_pos h]; rfl
  · rw [if_neg h, List.getElem?_eq_none (by omega)]; rfl
@[simp] theorem atI_0 {α : Type} (l : List α) : atI l 0 = l[0]? := atI_nat' l 0
@[simp] theorem atI_1 {α : Type} (l : List α) : atI l 1 = l[1]? := atI_nat' l 1
@[simp] theorem atI_2 {α : Type} (l : List α) : atI l 2 = l[2]? := atI_nat' l 2
@[simp] theorem atI_3 {α : Type} (l : List α) : atI l 3 = l[3]? := atI_nat' l 3
theorem atI_m1 {α : Type} (l : List α) : atI l (-1) = l.getLast? := by
  rcases List.eq_nil_or_concat l with rfl | ⟨r, a, rfl⟩
  · rfl
  · rw [List.concat_eq_append, atI_last]
    simp
/-! isinstance -/
theorem kitI : kitB "int" "int" = some true := by decide +kernel
theorem kitIB : kitB "int" "bool" = some false := by decide +kernel
theorem kitIT : kitB "int" "tuple" = some false := by decide +kernel
theorem kitIS : kitB "int" "str" = some false := by decide +kernel
theorem kitBI : kitB "bool" "int" = some true := by decide +kernel
theorem kitBB : kitB "bool" "bool" = some true := by decide +kernel
theorem kitBT : kitB "bool" "tuple" = some false := by decide +kernel
theorem kitBS : kitB "bool" "str" = some false := by decide +kernel
theorem kitTI : kitB "tuple" "int" = some false := by decide +kernel
theorem kitTB : kitB "tuple" "bool" = some false := by decide +kernel
theorem kitTT : kitB "tuple" "tuple" = some true := by decide +kernel
theorem kitTS : kitB "tuple" "str" = some false := by decide +kernel
theorem kitSI : kitB "str" "int" = some false := by decide +kernel
theorem kitSB : kitB "str" "bool" = some false := by decide +kernel
theorem kitST : kitB "str" "tuple" = some false := by decide +kernel
theorem kitSS : kitB "str" "str" = some true := by decide +kernel
theorem kitNI : kitB "NoneType" "int" = some false := by decide +kernel
theorem kitNB : kitB "NoneType" "bool" = some false := by decide +kernel
theorem kitNT : kitB "NoneType" "tuple" = some false := by decide +kernel
theorem kitNS : kitB "NoneType" "str" = some false := by decide +kernel
def tyW : W → String
  | .non => "NoneType"
  | .bl _ => "bool"
  | .int _ => "int"
  | .str _ => "str"
  | .tup _ => "tuple"
  | _ => ""
def pureW : W → Bool
  | .ref _ => false
  | .scr _ => false
  | _ => true
theorem wo_isi {T : String} (hp : pureW w = true) {k : Bool} (h : kitB (tyW w) T = some k) : WO (isiW T w s) Q = Q (.bl k) s := by
  unfold isiW
  cases w with
  | ref n => cases hp
  | scr n => cases hp
  | _ =>
    simp only [tyW] at h
    show WO ((kitB _ T).map fun b => (W.bl b, s)) Q = _
    rw [h]
    rfl
@[simp] theorem isi_II : WO (isiW "int" (.int i) s) Q = Q (.bl true) s := wo_isi rfl kitI
@[simp] theorem isi_IB : WO (isiW "bool" (.int i) s) Q = Q (.bl false) s := wo_isi rfl kitIB
@[simp] theorem isi_IT : WO (isiW "tuple" (.int i) s) Q = Q (.bl false) s := wo_isi rfl kitIT
@[simp] theorem isi_IS : WO (isiW "str" (.int i) s) Q = Q (.bl false) s := wo_isi rfl kitIS
@[simp] theorem isi_BI : WO (isiW "int" (.bl b) s) Q = Q (.bl true) s := wo_isi rfl kitBI
@[simp] theorem isi_BB : WO (isiW "bool" (.bl b) s) Q = Q (.bl true) s := wo_isi rfl kitBB
@[simp] theorem isi_BT : WO (isiW "tuple" (.bl b) s) Q = Q (.bl false) s := wo_isi rfl kitBT
@[simp] theorem isi_BS : WO (isiW "str" (.bl b) s) Q = Q (.bl false) s := wo_isi rfl kitBS
@[simp] theorem isi_TI : WO (isiW "int" (.tup xs) s) Q = Q (.bl false) s := wo_isi rfl kitTI
@[simp] theorem isi_TB : WO (isiW "bool" (.tup xs) s) Q = Q (.bl false) s := wo_isi rfl kitTB
@[simp] theorem isi_TT : WO (isiW "tuple" (.tup xs) s) Q = Q (.bl true) s := wo_isi rfl kitTT
@[simp] theorem isi_TS : WO (isiW "str" (.tup xs) s) Q = Q (.bl false) s := wo_isi rfl kitTS
@[simp] theorem isi_SI : WO (isiW "int" (.str x) s) Q = Q (.bl false) s := wo_isi rfl kitSI
@[simp] theorem isi_SB : WO (isiW "bool" (.str x) s) Q = Q (.bl false) s := wo_isi rfl kitSB
@[simp] theorem isi_ST : WO (isiW "tuple" (.str x) s) Q = Q (.bl false) s := wo_isi rfl kitST
@[simp] theorem isi_SS : WO (isiW "str" (.str x) s) Q = Q (.bl true) s := wo_isi rfl kitSS
@[simp] theorem isi_NI : WO (isiW "int" .non s) Q = Q (.bl false) s := wo_isi rfl kitNI
@[simp] theorem isi_NB : WO (isiW "bool" .non s) Q = Q (.bl false) s := wo_isi rfl kitNB
@[simp] theorem isi_NT : WO (isiW "tuple" .non s) Q = Q (.bl false) s := wo_isi rfl kitNT
@[simp] theorem isi_NS : WO (isiW "str" .non s) Q = Q (.bl false) s := wo_isi rfl kitNS
end
end ME

set_option Elab.async false
set_option linter.all false
namespace ME
/-- TextError(1) -/
def h_fail : List W → M W := fun ws s => if ws.length = 0 then .er ⟨0, some (.int 1)⟩ s else .no
def msu_law_read (e : Er) : SM := fun ρ s => match e.arg with
  | some (.int l) => if l = 1 then some (.rt (.ref s.length), s ++ [.lst []]) else none
  | _ => none
def caught_law_read : Nat → Bool := fun _ => true
end ME

set_option Elab.async false
set_option linter.all false
set_option maxRecDepth 100000
namespace ME
noncomputable def m_divisor_1 : SM :=
  sWhile (xB (e2 neW (eVar 1) (eC (.int 0))))
      (sPar 0 1 (aCons (eVar 1) (aCons (e2 modW (eVar 0) (eVar 1)) aNil)))
noncomputable def m_divisor : SM :=
  (sSeq (sAsg (eN absW (aCons (eVar 0) aNil)) (gN 0))
  (sSeq (sAsg (eN absW (aCons (eVar 1) aNil)) (gN 1))
  (sSeq (m_divisor_1)
  (sRet (eVar 0)))))
noncomputable def f_divisor : List W → M W := runM 2 2 m_divisor
noncomputable def m_is_prime_4 : SM :=
  sIf (xB (e2 eqW (e2 modW (eVar 0) (eVar 1)) (eC (.int 0))))
      (sRet (eC (.bl false)))
      sSkip
noncomputable def m_is_prime_3 : SM :=
  sWhile (xB (e2 leW (e2 mulW (eVar 1) (eVar 1)) (eVar 0)))
      (sSeq (m_is_prime_4)
      (sAug 1 iaddW (eC (.int 2))))
noncomputable def m_is_prime_2 : SM :=
  sIf (xB (e2 eqW (e2 modW (eVar 0) (eC (.int 2))) (eC (.int 0))))
      (sRet (eC (.bl false)))
      sSkip
noncomputable def m_is_prime_1 : SM :=
  sIf (xB (e2 ltW (eVar 0) (eC (.int 4))))
      (sRet (e2 gtW (eVar 0) (eC (.int 1))))
      sSkip
noncomputable def m_is_prime : SM :=
  (sSeq (m_is_prime_1)
  (sSeq (m_is_prime_2)
  (sSeq (sAsg (eC (.int 3)) (gN 1))
  (sSeq (m_is_prime_3)
  (sRet (eC (.bl true)))))))
noncomputable def f_is_prime : List W → M W := runM 2 1 m_is_prime
noncomputable def m_is_integer : SM :=
  (sRet (eAndT (e1 (isiW "int") (eVar 0)) (eNotT (e1 (isiW "bool") (eVar 0)))))
noncomputable def f_is_integer : List W → M W := runM 1 1 m_is_integer
noncomputable def m_is_field_2 : SM :=
  sIf (xB (e2 eqW (e2 ixW (eVar 0) (eC (.int 0))) (eC (.str [81]))))
      (sRet (e2 eqW (eN lenW (aCons (eVar 0) aNil)) (eC (.int 1))))
      sSkip
noncomputable def m_is_field_1 : SM :=
  sIf (xOr (xNot (xTru truW (e1 (isiW "tuple") (eVar 0)))) (xOr (xB (e2 eqW (eN lenW (aCons (eVar 0) aNil)) (eC (.int 0)))) (xNot (xTru truW (e1 (isiW "str") (e2 ixW (eVar 0) (eC (.int 0))))))))
      (sRet (eC (.bl false)))
      sSkip
noncomputable def m_is_field : SM :=
  (sSeq (m_is_field_1)
  (sSeq (m_is_field_2)
  (sRet (eAndT (e2 eqW (e2 ixW (eVar 0) (eC (.int 0))) (eC (.str [70]))) (eAndT (e2 eqW (eN lenW (aCons (eVar 0) aNil)) (eC (.int 2))) (eAndT (eCall f_is_integer (aCons (e2 ixW (eVar 0) (eC (.int 1))) aNil)) (eAndT (eChain ltW leW (eC (.int 1)) (e2 ixW (eVar 0) (eC (.int 1))) (eC (.int 65521))) (eCall f_is_prime (aCons (e2 ixW (eVar 0) (eC (.int 1))) aNil)))))))))
noncomputable def f_is_field : List W → M W := runM 1 1 m_is_field
noncomputable def m_is_domain_2 : SM :=
  sIf (xB (e2 eqW (e2 ixW (eVar 0) (eC (.int 0))) (eC (.str [80]))))
      (sRet (eAndT (e2 eqW (eN lenW (aCons (eVar 0) aNil)) (eC (.int 2))) (eCall f_is_field (aCons (e2 ixW (eVar 0) (eC (.int 1))) aNil))))
      sSkip
noncomputable def m_is_domain_1 : SM :=
  sIf (xOr (xNot (xTru truW (e1 (isiW "tuple") (eVar 0)))) (xOr (xB (e2 eqW (eN lenW (aCons (eVar 0) aNil)) (eC (.int 0)))) (xNot (xTru truW (e1 (isiW "str") (e2 ixW (eVar 0) (eC (.int 0))))))))
      (sRet (eC (.bl false)))
      sSkip
noncomputable def m_is_domain : SM :=
  (sSeq (m_is_domain_1)
  (sSeq (m_is_domain_2)
  (sRet (eOrT (e2 eqW (eVar 0) (eTup (aCons (eC (.str [90])) aNil))) (eCall f_is_field (aCons (eVar 0) aNil))))))
noncomputable def f_is_domain : List W → M W := runM 1 1 m_is_domain
noncomputable def m_need_domain_1 : SM :=
  sIf (xNot (xTru truW (eCall f_is_domain (aCons (eVar 0) aNil))))
      (sNever)
      sSkip
noncomputable def m_need_domain : SM :=
  (m_need_domain_1)
noncomputable def f_need_domain : List W → M W := runM 1 1 m_need_domain
noncomputable def m_zero_1 : SM :=
  sIf (xB (e2 eqW (e2 ixW (eVar 0) (eC (.int 0))) (eC (.str [81]))))
      (sRet (eTup (aCons (eC (.int 0)) (aCons (eC (.int 1)) aNil))))
      sSkip
noncomputable def m_zero : SM :=
  (sSeq (m_zero_1)
  (sRet (eIf (xB (e2 eqW (e2 ixW (eVar 0) (eC (.int 0))) (eC (.str [80])))) (eTup aNil) (eC (.int 0)))))
noncomputable def f_zero : List W → M W := runM 1 1 m_zero
noncomputable def m_belongs_7 (r_belongs : List W → M W) : SM :=
  sIf (xNot (xTru truW (eCall r_belongs (aCons (e2 ixW (eVar 0) (eC (.int 1))) (aCons (eVar 2) aNil)))))
      (sRet (eC (.bl false)))
      sSkip
noncomputable def m_belongs_6 (r_belongs : List W → M W) : SM :=
  sFor (iVal (eVar 1)) (gN 2)
      (m_belongs_7 r_belongs)
noncomputable def m_belongs_5 (r_belongs : List W → M W) : SM :=
  sIf (xOr (xB (e2 neW (eN lenW (aCons (eVar 1) aNil)) (eC (.int 2)))) (xOr (xNot (xTru truW (eCall f_is_integer (aCons (e2 ixW (eVar 1) (eC (.int 0))) aNil)))) (xOr (xNot (xTru truW (eCall f_is_integer (aCons (e2 ixW (eVar 1) (eC (.int 1))) aNil)))) (xB (e2 ltW (e2 ixW (eVar 1) (eC (.int 1))) (eC (.int 1)))))))
      (sRet (eC (.bl false)))
      sSkip
noncomputable def m_belongs_4 (r_belongs : List W → M W) : SM :=
  sIf (xB (e2 eqW (e2 ixW (eVar 0) (eC (.int 0))) (eC (.str [81]))))
      (sSeq (m_belongs_5 r_belongs)
      (sRet (e2 eqW (eCall f_divisor (aCons (e2 ixW (eVar 1) (eC (.int 0))) (aCons (e2 ixW (eVar 1) (eC (.int 1))) aNil))) (eC (.int 1)))))
      sSkip
noncomputable def m_belongs_3 (r_belongs : List W → M W) : SM :=
  sIf (xNot (xTru truW (e1 (isiW "tuple") (eVar 1))))
      (sRet (eC (.bl false)))
      sSkip
noncomputable def m_belongs_2 (r_belongs : List W → M W) : SM :=
  sIf (xB (e2 eqW (e2 ixW (eVar 0) (eC (.int 0))) (eC (.str [70]))))
      (sRet (eAndT (eCall f_is_integer (aCons (eVar 1) aNil)) (eChain leW ltW (eC (.int 0)) (eVar 1) (e2 ixW (eVar 0) (eC (.int 1))))))
      sSkip
noncomputable def m_belongs_1 (r_belongs : List W → M W) : SM :=
  sIf (xB (e2 eqW (e2 ixW (eVar 0) (eC (.int 0))) (eC (.str [90]))))
      (sRet (eCall f_is_integer (aCons (eVar 1) aNil)))
      sSkip
noncomputable def m_belongs (r_belongs : List W → M W) : SM :=
  (sSeq (m_belongs_1 r_belongs)
  (sSeq (m_belongs_2 r_belongs)
  (sSeq (m_belongs_3 r_belongs)
  (sSeq (m_belongs_4 r_belongs)
  (sSeq (m_belongs_6 r_belongs)
  (sRet (eOrT (e2 eqW (eN lenW (aCons (eVar 1) aNil)) (eC (.int 0))) (e2 neW (e2 ixW (eVar 1) (e1 negW (eC (.int 1)))) (eCall f_zero (aCons (e2 ixW (eVar 0) (eC (.int 1))) aNil))))))))))
noncomputable def f_belongs : Nat → List W → M W
  | 0 => fun _ _ => .no
  | n + 1 => runM 3 2 (m_belongs (f_belongs n))
noncomputable def m_is_element : SM :=
  (sSeq (sExpr (eCall f_need_domain (aCons (eVar 0) aNil)))
  (sRet (eCall (f_belongs 6) (aCons (eVar 0) (aCons (eVar 1) aNil)))))
noncomputable def f_is_element : List W → M W := runM 2 2 m_is_element
noncomputable def m_is_matrix_6 : SM :=
  sIf (xNot (xTru truW (eCall (f_belongs 6) (aCons (eVar 0) (aCons (eVar 3) aNil)))))
      (sRet (eC (.bl false)))
      sSkip
noncomputable def m_is_matrix_5 : SM :=
  sFor (iVal (eVar 2)) (gN 3)
      (m_is_matrix_6)
noncomputable def m_is_matrix_4 : SM :=
  sIf (xOr (xNot (xTru truW (e1 (isiW "tuple") (eVar 2)))) (xB (e2 neW (eN lenW (aCons (eVar 2) aNil)) (e2 ixW (eVar 1) (eC (.int 1))))))
      (sRet (eC (.bl false)))
      sSkip
noncomputable def m_is_matrix_3 : SM :=
  sFor (iVal (e2 ixW (eVar 1) (eC (.int 2)))) (gN 2)
      (sSeq (m_is_matrix_4)
      (m_is_matrix_5))
noncomputable def m_is_matrix_2 : SM :=
  sIf (xOr (xNot (xTru truW (e1 (isiW "tuple") (e2 ixW (eVar 1) (eC (.int 2)))))) (xOr (xB (e2 neW (eN lenW (aCons (e2 ixW (eVar 1) (eC (.int 2))) aNil)) (e2 ixW (eVar 1) (eC (.int 0))))) (xB (e2 ltW (e2 ixW (eVar 1) (eC (.int 1))) (eC (.int 0))))))
      (sRet (eC (.bl false)))
      sSkip
noncomputable def m_is_matrix_1 : SM :=
  sIf (xOr (xNot (xTru truW (e1 (isiW "tuple") (eVar 1)))) (xOr (xB (e2 neW (eN lenW (aCons (eVar 1) aNil)) (eC (.int 3)))) (xOr (xNot (xTru truW (eCall f_is_integer (aCons (e2 ixW (eVar 1) (eC (.int 0))) aNil)))) (xNot (xTru truW (eCall f_is_integer (aCons (e2 ixW (eVar 1) (eC (.int 1))) aNil)))))))
      (sRet (eC (.bl false)))
      sSkip
noncomputable def m_is_matrix : SM :=
  (sSeq (sExpr (eCall f_need_domain (aCons (eVar 0) aNil)))
  (sSeq (m_is_matrix_1)
  (sSeq (m_is_matrix_2)
  (sSeq (m_is_matrix_3)
  (sRet (eC (.bl true)))))))
noncomputable def f_is_matrix : List W → M W := runM 4 2 m_is_matrix
noncomputable def m_piece_base_1 : SM :=
  sFor (iRange (aCons (eC (.int 10)) aNil)) (gN 1)
      (sAsg (e2 mulW (eVar 0) (eVar 0)) (gN 0))
noncomputable def m_piece_base : SM :=
  (sSeq (sAsg (eC (.int 10)) (gN 0))
  (sSeq (m_piece_base_1)
  (sRet (eVar 0))))
noncomputable def f_piece_base : List W → M W := runM 2 0 m_piece_base
noncomputable def m_read_natural_5 : SM :=
  sWhile (xB (e2 ltW (eVar 4) (eN lenW (aCons (eVar 0) aNil))))
      (sSeq (sAsg (e2 addW (e2 mulW (eVar 2) (eVar 3)) (eN intW (aCons (eSl slW (eVar 0) (pSome (eVar 4)) (pSome (e2 addW (eVar 4) (eC (.int 1024))))) aNil))) (gN 2))
      (sAug 4 iaddW (eC (.int 1024))))
noncomputable def m_read_natural_4 : SM :=
  sIf (xB (e2 gtW (eVar 4) (eC (.int 0))))
      (sAsg (eN intW (aCons (eSl slW (eVar 0) pNone (pSome (eVar 4))) aNil)) (gN 2))
      sSkip
noncomputable def m_read_natural_3 : SM :=
  sIf (xB (e2 notInW (eVar 1) (eC (.str [48, 49, 50, 51, 52, 53, 54, 55, 56, 57]))))
      (sExpr (eCall h_fail aNil))
      sSkip
noncomputable def m_read_natural_2 : SM :=
  sFor (iVal (eVar 0)) (gN 1)
      (m_read_natural_3)
noncomputable def m_read_natural_1 : SM :=
  sIf (xOr (xB (e2 eqW (eVar 0) (eC (.str [])))) (xOr (xB (e2 gtW (eN lenW (aCons (eVar 0) aNil)) (eC (.int 100000)))) (xAnd (xB (e2 gtW (eN lenW (aCons (eVar 0) aNil)) (eC (.int 1)))) (xB (e2 eqW (e2 ixW (eVar 0) (eC (.int 0))) (eC (.str [48])))))))
      (sExpr (eCall h_fail aNil))
      sSkip
noncomputable def m_read_natural : SM :=
  (sSeq (m_read_natural_1)
  (sSeq (m_read_natural_2)
  (sSeq (sAsg (eC (.int 0)) (gN 2))
  (sSeq (sAsg (eCall f_piece_base aNil) (gN 3))
  (sSeq (sAsg (e2 modW (eN lenW (aCons (eVar 0) aNil)) (eC (.int 1024))) (gN 4))
  (sSeq (m_read_natural_4)
  (sSeq (m_read_natural_5)
  (sRet (eVar 2)))))))))
noncomputable def f_read_natural : List W → M W := runM 5 1 m_read_natural
noncomputable def m_read_integer_2 : SM :=
  sIf (xB (e2 eqW (eVar 1) (eC (.int 0))))
      (sExpr (eCall h_fail aNil))
      sSkip
noncomputable def m_read_integer_1 : SM :=
  sIf (xTru truW (eM "str" startsW (eVar 0) (aCons (eC (.str [45])) aNil)))
      (sSeq (sAsg (e1 negW (eCall f_read_natural (aCons (eSl slW (eVar 0) (pSome (eC (.int 1))) pNone) aNil))) (gN 1))
      (sSeq (m_read_integer_2)
      (sRet (eVar 1))))
      sSkip
noncomputable def m_read_integer : SM :=
  (sSeq (m_read_integer_1)
  (sRet (eCall f_read_natural (aCons (eVar 0) aNil))))
noncomputable def f_read_integer : List W → M W := runM 2 1 m_read_integer
noncomputable def m_read_domain_4 (r_read_domain : List W → M W) : SM :=
  sIf (xNot (xTru truW (eCall f_is_domain (aCons (eVar 1) aNil))))
      (sExpr (eCall h_fail aNil))
      sSkip
noncomputable def m_read_domain_3 (r_read_domain : List W → M W) : SM :=
  sIf (xAnd (xTru truW (eM "str" startsW (eVar 0) (aCons (eC (.str [70])) aNil))) (xB (e2 ltW (eN lenW (aCons (eVar 0) aNil)) (eC (.int 9)))))
      (sAsg (eTup (aCons (eC (.str [70])) (aCons (eCall f_read_natural (aCons (eSl slW (eVar 0) (pSome (eC (.int 1))) pNone) aNil)) aNil))) (gN 1))
      (sAsg (eC .non) (gN 1))
noncomputable def m_read_domain_2 (r_read_domain : List W → M W) : SM :=
  sIf (xAnd (xTru truW (eM "str" startsW (eVar 0) (aCons (eC (.str [80])) aNil))) (xNot (xTru truW (eM "str" startsW (eVar 0) (aCons (eC (.str [80, 80])) aNil)))))
      (sAsg (eTup (aCons (eC (.str [80])) (aCons (eCall r_read_domain (aCons (eSl slW (eVar 0) (pSome (eC (.int 1))) pNone) aNil)) aNil))) (gN 1))
      (m_read_domain_3 r_read_domain)
noncomputable def m_read_domain_1 (r_read_domain : List W → M W) : SM :=
  sIf (xOr (xB (e2 eqW (eVar 0) (eC (.str [90])))) (xB (e2 eqW (eVar 0) (eC (.str [81])))))
      (sRet (eTup (aCons (eVar 0) aNil)))
      sSkip
noncomputable def m_read_domain (r_read_domain : List W → M W) : SM :=
  (sSeq (m_read_domain_1 r_read_domain)
  (sSeq (m_read_domain_2 r_read_domain)
  (sSeq (m_read_domain_4 r_read_domain)
  (sRet (eVar 1)))))
noncomputable def f_read_domain : Nat → List W → M W
  | 0 => fun _ _ => .no
  | n + 1 => runM 2 1 (m_read_domain (f_read_domain n))
noncomputable def m_pieces_4 : SM :=
  sIf (xB (e2 eqW (eVar 4) (eC (.str [125]))))
      (sAug 3 isubW (eC (.int 1)))
      sSkip
noncomputable def m_pieces_3 : SM :=
  sIf (xB (e2 eqW (eVar 4) (eC (.str [123]))))
      (sAug 3 iaddW (eC (.int 1)))
      (m_pieces_4)
noncomputable def m_pieces_2 : SM :=
  sIf (xAnd (xB (e2 eqW (eVar 4) (eC (.str [32])))) (xB (e2 eqW (eVar 3) (eC (.int 0)))))
      (sSeq (sExpr (eM "list" appendW (eVar 1) (aCons (eVar 2) aNil)))
      (sAsg (eC (.str [])) (gN 2)))
      (sAsg (e2 addW (eVar 2) (eVar 4)) (gN 2))
noncomputable def m_pieces_1 : SM :=
  sFor (iVal (eVar 0)) (gN 4)
      (sSeq (m_pieces_2)
      (m_pieces_3))
noncomputable def m_pieces : SM :=
  (sSeq (sAsg (eLst aNil) (gN 1))
  (sSeq (sAsg (eC (.str [])) (gN 2))
  (sSeq (sAsg (eC (.int 0)) (gN 3))
  (sSeq (m_pieces_1)
  (sSeq (sExpr (eM "list" appendW (eVar 1) (aCons (eVar 2) aNil)))
  (sRet (eVar 1)))))))
noncomputable def f_pieces : List W → M W := runM 5 1 m_pieces
noncomputable def m_read_element_5 (r_read_element : List W → M W) (r_read_list : List W → M W) : SM :=
  sIf (xNot (xTru truW (eCall f_is_element (aCons (eVar 0) (aCons (eVar 3) aNil)))))
      (sExpr (eCall h_fail aNil))
      sSkip
noncomputable def m_read_element_3 (r_read_element : List W → M W) (r_read_list : List W → M W) : SM :=
  sIf (xAnd (xB (e2 eqW (eN lenW (aCons (eVar 2) aNil)) (eC (.int 2)))) (xB (e2 ltW (e2 ixW (eVar 3) (eC (.int 1))) (eC (.int 2)))))
      (sExpr (eCall h_fail aNil))
      sSkip
noncomputable def m_read_element_2 (r_read_element : List W → M W) (r_read_list : List W → M W) : SM :=
  sIf (xB (e2 gtW (eN lenW (aCons (eVar 2) aNil)) (eC (.int 2))))
      (sExpr (eCall h_fail aNil))
      sSkip
noncomputable def m_read_element_4 (r_read_element : List W → M W) (r_read_list : List W → M W) : SM :=
  sIf (xB (e2 eqW (e2 ixW (eVar 0) (eC (.int 0))) (eC (.str [80]))))
      (sAsg (eCall r_read_list (aCons (e2 ixW (eVar 0) (eC (.int 1))) (aCons (eVar 1) (aCons (eC (.str [123])) (aCons (eC (.str [125])) aNil))))) (gN 3))
      (sAsg (eCall f_read_integer (aCons (eVar 1) aNil)) (gN 3))
noncomputable def m_read_element_1 (r_read_element : List W → M W) (r_read_list : List W → M W) : SM :=
  sIf (xB (e2 eqW (e2 ixW (eVar 0) (eC (.int 0))) (eC (.str [81]))))
      (sSeq (sAsg (eM "str" splitW (eVar 1) (aCons (eC (.str [47])) aNil)) (gN 2))
      (sSeq (m_read_element_2 r_read_element r_read_list)
      (sSeq (sAsg (eTup (aCons (eCall f_read_integer (aCons (e2 ixW (eVar 2) (eC (.int 0))) aNil)) (aCons (eIf (xB (e2 eqW (eN lenW (aCons (eVar 2) aNil)) (eC (.int 1)))) (eC (.int 1)) (eCall f_read_natural (aCons (e2 ixW (eVar 2) (eC (.int 1))) aNil))) aNil))) (gN 3))
      (m_read_element_3 r_read_element r_read_list))))
      (m_read_element_4 r_read_element r_read_list)
noncomputable def m_read_element (r_read_element : List W → M W) (r_read_list : List W → M W) : SM :=
  (sSeq (m_read_element_1 r_read_element r_read_list)
  (sSeq (m_read_element_5 r_read_element r_read_list)
  (sRet (eVar 3))))
noncomputable def m_read_list_2 (r_read_element : List W → M W) (r_read_list : List W → M W) : SM :=
  sIf (xB (e2 eqW (eVar 4) (eC (.str []))))
      (sRet (eTup aNil))
      sSkip
noncomputable def m_read_list_1 (r_read_element : List W → M W) (r_read_list : List W → M W) : SM :=
  sIf (xOr (xB (e2 ltW (eN lenW (aCons (eVar 1) aNil)) (eC (.int 2)))) (xOr (xB (e2 neW (e2 ixW (eVar 1) (eC (.int 0))) (eVar 2))) (xB (e2 neW (e2 ixW (eVar 1) (e1 negW (eC (.int 1)))) (eVar 3)))))
      (sExpr (eCall h_fail aNil))
      sSkip
noncomputable def m_read_list (r_read_element : List W → M W) (r_read_list : List W → M W) : SM :=
  (sSeq (m_read_list_1 r_read_element r_read_list)
  (sSeq (sAsg (eSl slW (eVar 1) (pSome (eC (.int 1))) (pSome (e1 negW (eC (.int 1))))) (gN 4))
  (sSeq (m_read_list_2 r_read_element r_read_list)
  (sRet (eN tupleW (aCons (eLc (iVal (eCall f_pieces (aCons (eVar 4) aNil))) (gN 5) xYes (eCall r_read_element (aCons (eVar 0) (aCons (eVar 5) aNil))) [5]) aNil))))))
mutual
noncomputable def f_read_element : Nat → List W → M W
  | 0 => fun _ _ => .no
  | n + 1 => runM 4 2 (m_read_element (f_read_element n) (f_read_list n))
noncomputable def f_read_list : Nat → List W → M W
  | 0 => fun _ _ => .no
  | n + 1 => runM 6 4 (m_read_list (f_read_element n) (f_read_list n))
end
noncomputable def m_read_vector : SM :=
  (sRet (eCall (f_read_list 6) (aCons (eVar 0) (aCons (eVar 1) (aCons (eC (.str [60])) (aCons (eC (.str [62])) aNil))))))
noncomputable def f_read_vector : List W → M W := runM 2 2 m_read_vector
noncomputable def m_read_sizes_2 : SM :=
  sIf (xOr (xAnd (xB (e2 gtW (eVar 2) (eC (.int 0)))) (xB (e2 gtW (eVar 3) (eC (.int 0))))) (xOr (xB (e2 gtW (eVar 2) (eC (.int 1000)))) (xB (e2 gtW (eVar 3) (eC (.int 1000))))))
      (sExpr (eCall h_fail aNil))
      sSkip
noncomputable def m_read_sizes_1 : SM :=
  sIf (xB (e2 neW (eN lenW (aCons (eVar 1) aNil)) (eC (.int 2))))
      (sExpr (eCall h_fail aNil))
      sSkip
noncomputable def m_read_sizes : SM :=
  (sSeq (sAsg (eM "str" splitW (eVar 0) (aCons (eC (.str [120])) aNil)) (gN 1))
  (sSeq (m_read_sizes_1)
  (sSeq (sAsg (eCall f_read_natural (aCons (e2 ixW (eVar 1) (eC (.int 0))) aNil)) (gN 2))
  (sSeq (sAsg (eCall f_read_natural (aCons (e2 ixW (eVar 1) (eC (.int 1))) aNil)) (gN 3))
  (sSeq (m_read_sizes_2)
  (sRet (eTup (aCons (eVar 2) (aCons (eVar 3) (aCons (eN tupleW (aCons (eLc (iRange (aCons (eVar 2) aNil)) (gN 4) xYes (eTup aNil) [4]) aNil)) aNil))))))))))
noncomputable def f_read_sizes : List W → M W := runM 5 1 m_read_sizes
noncomputable def m_read_matrix_3 : SM :=
  sIf (xNot (xTru truW (eCall f_is_matrix (aCons (eVar 0) (aCons (eVar 4) aNil)))))
      (sExpr (eCall h_fail aNil))
      sSkip
noncomputable def m_read_matrix_2 : SM :=
  sIf (xB (e2 inW (eC (.str [120])) (eVar 2)))
      (sRet (eCall f_read_sizes (aCons (eVar 2) aNil)))
      sSkip
noncomputable def m_read_matrix_1 : SM :=
  sIf (xOr (xB (e2 ltW (eN lenW (aCons (eVar 1) aNil)) (eC (.int 2)))) (xOr (xB (e2 neW (e2 ixW (eVar 1) (eC (.int 0))) (eC (.str [91])))) (xB (e2 neW (e2 ixW (eVar 1) (e1 negW (eC (.int 1)))) (eC (.str [93]))))))
      (sExpr (eCall h_fail aNil))
      sSkip
noncomputable def m_read_matrix : SM :=
  (sSeq (m_read_matrix_1)
  (sSeq (sAsg (eSl slW (eVar 1) (pSome (eC (.int 1))) (pSome (e1 negW (eC (.int 1))))) (gN 2))
  (sSeq (m_read_matrix_2)
  (sSeq (sAsg (eLc (iVal (eM "str" splitW (eVar 2) (aCons (eC (.str [59, 32])) aNil))) (gN 5) xYes (eN tupleW (aCons (eLc (iVal (eCall f_pieces (aCons (eVar 5) aNil))) (gN 6) xYes (eCall (f_read_element 6) (aCons (eVar 0) (aCons (eVar 6) aNil))) [6]) aNil)) [5]) (gN 3))
  (sSeq (sAsg (eTup (aCons (eN lenW (aCons (eVar 3) aNil)) (aCons (eN lenW (aCons (e2 ixW (eVar 3) (eC (.int 0))) aNil)) (aCons (eN tupleW (aCons (eVar 3) aNil)) aNil)))) (gN 4))
  (sSeq (m_read_matrix_3)
  (sRet (eVar 4))))))))
noncomputable def f_read_matrix : List W → M W := runM 7 2 m_read_matrix
noncomputable def m_law_start : SM :=
  (sRet (eLst (aCons (eLc (iVal (eSl slW (eVar 0) pNone (pSome (eC (.int 63))))) (gN 1) xYes (eN intW (aCons (eVar 1) aNil)) [1]) (aCons (eC (.int 0)) (aCons (eC (.int 0)) (aCons (eC (.int 0)) aNil))))))
noncomputable def f_law_start : List W → M W := runM 2 1 m_law_start
noncomputable def m_law_fill_4 : SM :=
  sIf (xAnd (xTru truW (e2 ixW (eVar 0) (eC (.int 0)))) (xB (e2 geW (e2 ixW (eVar 0) (eC (.int 1))) (eN lenW (aCons (e2 ixW (eVar 0) (eC (.int 0))) aNil)))))
      (sAsg (e2 addW (eVar 1) (e2 modW (eN intW (aCons (e2 ixW (e2 ixW (eVar 0) (eC (.int 0))) (e1 negW (eC (.int 1)))) aNil)) (eC (.int 1000003)))) (gN 1))
      sSkip
noncomputable def m_law_fill_3 : SM :=
  sIf (xB (e2 geW (eVar 1) (e2 powW (eC (.int 10)) (eC (.int 18)))))
      (sRet (eVar 1))
      sSkip
noncomputable def m_law_fill_2 : SM :=
  sIf (xB (e2 ltW (eVar 1) (eC (.int 0))))
      (sAsg (e2 subW (e2 subW (eC (.int 0)) (eC (.int 1))) (eVar 1)) (gN 1))
      sSkip
noncomputable def m_law_fill_1 : SM :=
  sIf (xB (e2 ltW (e2 ixW (eVar 0) (eC (.int 1))) (eN lenW (aCons (e2 ixW (eVar 0) (eC (.int 0))) aNil))))
      (sSeq (sAsg (e2 ixW (e2 ixW (eVar 0) (eC (.int 0))) (e2 ixW (eVar 0) (eC (.int 1)))) (gN 1))
      (sSeq (sAsg (e2 addW (e2 ixW (eVar 0) (eC (.int 1))) (eC (.int 1))) (gS (eVar 0) (eC (.int 1))))
      (sSeq (m_law_fill_2)
      (m_law_fill_3))))
      sSkip
noncomputable def m_law_fill : SM :=
  (sSeq (sAsg (e2 addW (e2 ixW (eVar 0) (eC (.int 3))) (eC (.int 1))) (gS (eVar 0) (eC (.int 3))))
  (sSeq (sAsg (e2 addW (e2 mulW (e2 ixW (eVar 0) (eC (.int 3))) (eC (.int 69621))) (eC (.int 12345))) (gN 1))
  (sSeq (m_law_fill_1)
  (sSeq (m_law_fill_4)
  (sSeq (sAsg (e2 modW (eN intW (aCons (e2 addW (e2 mulW (eVar 1) (eC (.int 48271))) (e2 mulW (e2 ixW (eVar 0) (eC (.int 3))) (eC (.int 69621)))) aNil)) (eC (.int 2147483647))) (gN 1))
  (sRet (e2 addW (e2 modW (eN intW (aCons (e2 addW (e2 addW (e2 mulW (eVar 1) (eVar 1)) (e2 mulW (e2 ixW (eVar 0) (eC (.int 3))) (eC (.int 7919)))) (eC (.int 11))) aNil)) (eC (.int 2305843009213693951))) (eC (.int 2305843009213693951)))))))))
noncomputable def f_law_fill : List W → M W := runM 2 1 m_law_fill
noncomputable def m_law_take_1 : SM :=
  sIf (xB (e2 ltW (e2 ixW (eVar 0) (eC (.int 2))) (eVar 1)))
      (sAsg (eCall f_law_fill (aCons (eVar 0) aNil)) (gS (eVar 0) (eC (.int 2))))
      sSkip
noncomputable def m_law_take : SM :=
  (sSeq (m_law_take_1)
  (sSeq (sAsg (e2 modW (eN intW (aCons (e2 ixW (eVar 0) (eC (.int 2))) aNil)) (eVar 1)) (gN 2))
  (sSeq (sAsg (e2 divW (e2 ixW (eVar 0) (eC (.int 2))) (eVar 1)) (gS (eVar 0) (eC (.int 2))))
  (sRet (eVar 2)))))
noncomputable def f_law_take : List W → M W := runM 3 2 m_law_take
noncomputable def m_law_zero_2 : SM :=
  sIf (xB (e2 eqW (e2 ixW (eVar 0) (eC (.int 0))) (eC (.str [80]))))
      (sRet (eTup aNil))
      sSkip
noncomputable def m_law_zero_1 : SM :=
  sIf (xB (e2 eqW (e2 ixW (eVar 0) (eC (.int 0))) (eC (.str [81]))))
      (sRet (eTup (aCons (eC (.int 0)) (aCons (eC (.int 1)) aNil))))
      sSkip
noncomputable def m_law_zero : SM :=
  (sSeq (m_law_zero_1)
  (sSeq (m_law_zero_2)
  (sRet (eC (.int 0)))))
noncomputable def f_law_zero : List W → M W := runM 1 1 m_law_zero
noncomputable def m_law_common_1 : SM :=
  sWhile (xB (e2 neW (eVar 1) (eC (.int 0))))
      (sSeq (sAsg (e2 modW (eN intW (aCons (eVar 0) aNil)) (eVar 1)) (gN 2))
      (sSeq (sAsg (eVar 1) (gN 0))
      (sAsg (eVar 2) (gN 1))))
noncomputable def m_law_common : SM :=
  (sSeq (sAsg (eN absW (aCons (eVar 0) aNil)) (gN 0))
  (sSeq (sAsg (eN absW (aCons (eVar 1) aNil)) (gN 1))
  (sSeq (m_law_common_1)
  (sRet (eVar 0)))))
noncomputable def f_law_common : List W → M W := runM 3 2 m_law_common
noncomputable def m_law_domain : SM :=
  (sSeq (sAsg (eLst (aCons (eTup (aCons (eC (.str [81])) aNil)) (aCons (eTup (aCons (eC (.str [81])) aNil)) (aCons (eTup (aCons (eC (.str [70])) (aCons (eC (.int 2)) aNil))) (aCons (eTup (aCons (eC (.str [70])) (aCons (eC (.int 3)) aNil))) (aCons (eTup (aCons (eC (.str [70])) (aCons (eC (.int 5)) aNil))) (aCons (eTup (aCons (eC (.str [70])) (aCons (eC (.int 7)) aNil))) (aCons (eTup (aCons (eC (.str [70])) (aCons (eC (.int 101)) aNil))) (aCons (eTup (aCons (eC (.str [70])) (aCons (eC (.int 65521)) aNil))) aNil))))))))) (gN 1))
  (sSeq (sAsg (eCall f_law_take (aCons (eVar 0) (aCons (eC (.int 6)) aNil))) (gN 2))
  (sSeq (sAsg (e2 ixW (eVar 1) (eCall f_law_take (aCons (eVar 0) (aCons (eC (.int 8)) aNil)))) (gN 3))
  (sRet (e2 ixW (eLst (aCons (eTup (aCons (eC (.str [90])) aNil)) (aCons (eVar 3) (aCons (eVar 3) (aCons (eVar 3) (aCons (eTup (aCons (eC (.str [80])) (aCons (eVar 3) aNil))) (aCons (eTup (aCons (eC (.str [80])) (aCons (eVar 3) aNil))) aNil))))))) (eVar 2))))))
noncomputable def f_law_domain : List W → M W := runM 4 1 m_law_domain
noncomputable def m_law_small_4 (r_law_small : List W → M W) : SM :=
  sWhile (xAnd (xTru truW (eVar 5)) (xB (e2 eqW (e2 ixW (eVar 5) (e1 negW (eC (.int 1)))) (eCall f_law_zero (aCons (e2 ixW (eVar 1) (eC (.int 1))) aNil)))))
      (sExpr (eM "list" popW (eVar 5) aNil))
noncomputable def m_law_small_3 (r_law_small : List W → M W) : SM :=
  sIf (xB (e2 eqW (e2 ixW (eVar 1) (eC (.int 0))) (eC (.str [80]))))
      (sSeq (sAsg (eLc (iRange (aCons (eCall f_law_take (aCons (eVar 0) (aCons (eC (.int 4)) aNil))) aNil)) (gN 6) xYes (eCall r_law_small (aCons (eVar 0) (aCons (e2 ixW (eVar 1) (eC (.int 1))) aNil))) [6]) (gN 5))
      (sSeq (m_law_small_4 r_law_small)
      (sRet (eN tupleW (aCons (eVar 5) aNil)))))
      sSkip
noncomputable def m_law_small_2 (r_law_small : List W → M W) : SM :=
  sIf (xB (e2 eqW (e2 ixW (eVar 1) (eC (.int 0))) (eC (.str [81]))))
      (sSeq (sAsg (e2 addW (eC (.int 1)) (eCall f_law_take (aCons (eVar 0) (aCons (eC (.int 4)) aNil)))) (gN 3))
      (sSeq (sAsg (eCall f_law_common (aCons (eVar 2) (aCons (eVar 3) aNil))) (gN 4))
      (sRet (eTup (aCons (e2 divW (eVar 2) (eVar 4)) (aCons (e2 divW (eVar 3) (eVar 4)) aNil))))))
      sSkip
noncomputable def m_law_small_1 (r_law_small : List W → M W) : SM :=
  sIf (xB (e2 eqW (e2 ixW (eVar 1) (eC (.int 0))) (eC (.str [70]))))
      (sRet (e2 modW (eN intW (aCons (eVar 2) aNil)) (e2 ixW (eVar 1) (eC (.int 1)))))
      sSkip
noncomputable def m_law_small (r_law_small : List W → M W) : SM :=
  (sSeq (sAsg (e2 ixW (eLst (aCons (e2 subW (eCall f_law_take (aCons (eVar 0) (aCons (eC (.int 9)) aNil))) (eC (.int 4))) (aCons (eC (.int 0)) (aCons (eC (.int 1)) (aCons (e2 subW (eCall f_law_take (aCons (eVar 0) (aCons (eC (.int 2000)) aNil))) (eC (.int 999))) aNil))))) (eCall f_law_take (aCons (eVar 0) (aCons (eC (.int 4)) aNil)))) (gN 2))
  (sSeq (m_law_small_1 r_law_small)
  (sSeq (m_law_small_2 r_law_small)
  (sSeq (m_law_small_3 r_law_small)
  (sRet (eVar 2))))))
noncomputable def f_law_small : Nat → List W → M W
  | 0 => fun _ _ => .no
  | n + 1 => runM 7 2 (m_law_small (f_law_small n))
noncomputable def m_law_matrix : SM :=
  (sRet (eTup (aCons (eVar 2) (aCons (eVar 3) (aCons (eN tupleW (aCons (eLc (iRange (aCons (eVar 2) aNil)) (gN 4) xYes (eN tupleW (aCons (eLc (iRange (aCons (eVar 3) aNil)) (gN 5) xYes (eCall (f_law_small 4) (aCons (eVar 0) (aCons (eVar 1) aNil))) [5]) aNil)) [4]) aNil)) aNil)))))
noncomputable def f_law_matrix : List W → M W := runM 6 4 m_law_matrix
noncomputable def m_law_domain_text_2 (r_law_domain_text : List W → M W) : SM :=
  sIf (xB (e2 eqW (e2 ixW (eVar 0) (eC (.int 0))) (eC (.str [80]))))
      (sRet (e2 addW (eC (.str [80])) (eCall r_law_domain_text (aCons (e2 ixW (eVar 0) (eC (.int 1))) aNil))))
      sSkip
noncomputable def m_law_domain_text_1 (r_law_domain_text : List W → M W) : SM :=
  sIf (xB (e2 eqW (e2 ixW (eVar 0) (eC (.int 0))) (eC (.str [70]))))
      (sRet (e2 addW (eC (.str [70])) (eN strW (aCons (e2 ixW (eVar 0) (eC (.int 1))) aNil))))
      sSkip
noncomputable def m_law_domain_text (r_law_domain_text : List W → M W) : SM :=
  (sSeq (m_law_domain_text_1 r_law_domain_text)
  (sSeq (m_law_domain_text_2 r_law_domain_text)
  (sRet (e2 ixW (eVar 0) (eC (.int 0))))))
noncomputable def f_law_domain_text : Nat → List W → M W
  | 0 => fun _ _ => .no
  | n + 1 => runM 1 1 (m_law_domain_text (f_law_domain_text n))
noncomputable def m_law_text_2 (r_law_text : List W → M W) : SM :=
  sIf (xB (e2 eqW (e2 ixW (eVar 0) (eC (.int 0))) (eC (.str [80]))))
      (sRet (e2 addW (e2 addW (eC (.str [123])) (eM "str" joinW (eC (.str [32])) (aCons (eLc (iVal (eVar 1)) (gN 2) xYes (eCall r_law_text (aCons (e2 ixW (eVar 0) (eC (.int 1))) (aCons (eVar 2) aNil))) [2]) aNil))) (eC (.str [125]))))
      sSkip
noncomputable def m_law_text_1 (r_law_text : List W → M W) : SM :=
  sIf (xB (e2 eqW (e2 ixW (eVar 0) (eC (.int 0))) (eC (.str [81]))))
      (sRet (e2 addW (eN strW (aCons (e2 ixW (eVar 1) (eC (.int 0))) aNil)) (e2 ixW (eLst (aCons (e2 addW (eC (.str [47])) (eN strW (aCons (e2 ixW (eVar 1) (eC (.int 1))) aNil))) (aCons (eC (.str [])) aNil))) (eN intW (aCons (e2 eqW (e2 ixW (eVar 1) (eC (.int 1))) (eC (.int 1))) aNil)))))
      sSkip
noncomputable def m_law_text (r_law_text : List W → M W) : SM :=
  (sSeq (m_law_text_1 r_law_text)
  (sSeq (m_law_text_2 r_law_text)
  (sRet (eN strW (aCons (eVar 1) aNil)))))
noncomputable def f_law_text : Nat → List W → M W
  | 0 => fun _ _ => .no
  | n + 1 => runM 3 2 (m_law_text (f_law_text n))
noncomputable def m_law_vector_text : SM :=
  (sRet (e2 addW (e2 addW (eC (.str [60])) (eM "str" joinW (eC (.str [32])) (aCons (eLc (iVal (eVar 1)) (gN 2) xYes (eCall (f_law_text 4) (aCons (eVar 0) (aCons (eVar 2) aNil))) [2]) aNil))) (eC (.str [62]))))
noncomputable def f_law_vector_text : List W → M W := runM 3 2 m_law_vector_text
noncomputable def m_law_matrix_text_1 : SM :=
  sIf (xOr (xB (e2 eqW (e2 ixW (eVar 1) (eC (.int 0))) (eC (.int 0)))) (xB (e2 eqW (e2 ixW (eVar 1) (eC (.int 1))) (eC (.int 0)))))
      (sRet (e2 addW (e2 addW (e2 addW (e2 addW (eC (.str [91])) (eN strW (aCons (e2 ixW (eVar 1) (eC (.int 0))) aNil))) (eC (.str [120]))) (eN strW (aCons (e2 ixW (eVar 1) (eC (.int 1))) aNil))) (eC (.str [93]))))
      sSkip
noncomputable def m_law_matrix_text : SM :=
  (sSeq (m_law_matrix_text_1)
  (sRet (e2 addW (e2 addW (eC (.str [91])) (eM "str" joinW (eC (.str [59, 32])) (aCons (eLc (iVal (e2 ixW (eVar 1) (eC (.int 2)))) (gN 2) xYes (eM "str" joinW (eC (.str [32])) (aCons (eLc (iVal (eVar 2)) (gN 3) xYes (eCall (f_law_text 4) (aCons (eVar 0) (aCons (eVar 3) aNil))) [3]) aNil)) [2]) aNil))) (eC (.str [93])))))
noncomputable def f_law_matrix_text : List W → M W := runM 4 2 m_law_matrix_text
noncomputable def m_law_natural_of_3 : SM :=
  sIf (xB (e2 notInW (eVar 1) (eC (.str [48, 49, 50, 51, 52, 53, 54, 55, 56, 57]))))
      (sRet (eC .non))
      sSkip
noncomputable def m_law_natural_of_2 : SM :=
  sFor (iVal (eVar 0)) (gN 1)
      (m_law_natural_of_3)
noncomputable def m_law_natural_of_1 : SM :=
  sIf (xOr (xB (e2 eqW (eVar 0) (eC (.str [])))) (xAnd (xB (e2 gtW (eN lenW (aCons (eVar 0) aNil)) (eC (.int 1)))) (xB (e2 eqW (e2 ixW (eVar 0) (eC (.int 0))) (eC (.str [48]))))))
      (sRet (eC .non))
      sSkip
noncomputable def m_law_natural_of : SM :=
  (sSeq (m_law_natural_of_1)
  (sSeq (m_law_natural_of_2)
  (sRet (eN intW (aCons (eVar 0) aNil)))))
noncomputable def f_law_natural_of : List W → M W := runM 2 1 m_law_natural_of
noncomputable def m_law_integer_of_2 : SM :=
  sIf (xOr (xB (e2 isW (eVar 1) (eC .non))) (xB (e2 eqW (eVar 1) (eC (.int 0)))))
      (sRet (eC .non))
      sSkip
noncomputable def m_law_integer_of_1 : SM :=
  sIf (xB (e2 eqW (eSl slW (eVar 0) pNone (pSome (eC (.int 1)))) (eC (.str [45]))))
      (sSeq (sAsg (eCall f_law_natural_of (aCons (eSl slW (eVar 0) (pSome (eC (.int 1))) pNone) aNil)) (gN 1))
      (sSeq (m_law_integer_of_2)
      (sRet (e2 subW (eC (.int 0)) (eVar 1)))))
      sSkip
noncomputable def m_law_integer_of : SM :=
  (sSeq (m_law_integer_of_1)
  (sRet (eCall f_law_natural_of (aCons (eVar 0) aNil))))
noncomputable def f_law_integer_of : List W → M W := runM 2 1 m_law_integer_of
noncomputable def m_law_domain_of_6 (r_law_domain_of : List W → M W) : SM :=
  sIf (xAnd (xB (e2 leW (e2 mulW (eVar 3) (eVar 3)) (eVar 2))) (xB (e2 eqW (e2 modW (eN intW (aCons (eVar 2) aNil)) (eVar 3)) (eC (.int 0)))))
      (sRet (eC .non))
      sSkip
noncomputable def m_law_domain_of_5 (r_law_domain_of : List W → M W) : SM :=
  sFor (iRange (aCons (eC (.int 2)) (aCons (eC (.int 256)) aNil))) (gN 3)
      (m_law_domain_of_6 r_law_domain_of)
noncomputable def m_law_domain_of_4 (r_law_domain_of : List W → M W) : SM :=
  sIf (xOr (xB (e2 neW (eSl slW (eVar 0) pNone (pSome (eC (.int 1)))) (eC (.str [70])))) (xOr (xB (e2 isW (eVar 2) (eC .non))) (xOr (xB (e2 ltW (eVar 2) (eC (.int 2)))) (xB (e2 gtW (eVar 2) (eC (.int 65521)))))))
      (sRet (eC .non))
      sSkip
noncomputable def m_law_domain_of_3 (r_law_domain_of : List W → M W) : SM :=
  sIf (xB (e2 isW (eVar 1) (eC .non)))
      (sRet (eC .non))
      sSkip
noncomputable def m_law_domain_of_2 (r_law_domain_of : List W → M W) : SM :=
  sIf (xAnd (xB (e2 eqW (eSl slW (eVar 0) pNone (pSome (eC (.int 1)))) (eC (.str [80])))) (xAnd (xB (e2 neW (eSl slW (eVar 0) (pSome (eC (.int 1))) pNone) (eC (.str [90])))) (xB (e2 neW (eSl slW (eVar 0) (pSome (eC (.int 1))) (pSome (eC (.int 2)))) (eC (.str [80]))))))
      (sSeq (sAsg (eCall r_law_domain_of (aCons (eSl slW (eVar 0) (pSome (eC (.int 1))) pNone) aNil)) (gN 1))
      (sSeq (m_law_domain_of_3 r_law_domain_of)
      (sRet (eTup (aCons (eC (.str [80])) (aCons (eVar 1) aNil))))))
      sSkip
noncomputable def m_law_domain_of_1 (r_law_domain_of : List W → M W) : SM :=
  sIf (xB (e2 inW (eVar 0) (eLst (aCons (eC (.str [90])) (aCons (eC (.str [81])) aNil)))))
      (sRet (eTup (aCons (eVar 0) aNil)))
      sSkip
noncomputable def m_law_domain_of (r_law_domain_of : List W → M W) : SM :=
  (sSeq (m_law_domain_of_1 r_law_domain_of)
  (sSeq (m_law_domain_of_2 r_law_domain_of)
  (sSeq (sAsg (eCall f_law_natural_of (aCons (eSl slW (eVar 0) (pSome (eC (.int 1))) pNone) aNil)) (gN 2))
  (sSeq (m_law_domain_of_4 r_law_domain_of)
  (sSeq (m_law_domain_of_5 r_law_domain_of)
  (sRet (eTup (aCons (eC (.str [70])) (aCons (eVar 2) aNil)))))))))
noncomputable def f_law_domain_of : Nat → List W → M W
  | 0 => fun _ _ => .no
  | n + 1 => runM 4 1 (m_law_domain_of (f_law_domain_of n))
noncomputable def m_law_element_of_8 (r_law_element_of : List W → M W) : SM :=
  sIf (xB (e2 eqW (e2 ixW (eVar 0) (eC (.int 0))) (eC (.str [81]))))
      (sRet (eTup (aCons (eVar 4) (aCons (eC (.int 1)) aNil))))
      sSkip
noncomputable def m_law_element_of_7 (r_law_element_of : List W → M W) : SM :=
  sIf (xOr (xB (e2 isW (eVar 4) (eC .non))) (xAnd (xB (e2 eqW (e2 ixW (eVar 0) (eC (.int 0))) (eC (.str [70])))) (xNot (xB (eChain leW ltW (eC (.int 0)) (eVar 4) (e2 ixW (eVar 0) (eC (.int 1))))))))
      (sRet (eC .non))
      sSkip
noncomputable def m_law_element_of_6 (r_law_element_of : List W → M W) : SM :=
  sIf (xOr (xB (e2 neW (eN lenW (aCons (eVar 3) aNil)) (eC (.int 2)))) (xOr (xB (e2 isW (eVar 4) (eC .non))) (xOr (xB (e2 isW (eVar 5) (eC .non))) (xOr (xB (e2 ltW (eVar 5) (eC (.int 2)))) (xB (e2 neW (eCall f_law_common (aCons (eVar 4) (aCons (eVar 5) aNil))) (eC (.int 1))))))))
      (sRet (eC .non))
      sSkip
noncomputable def m_law_element_of_5 (r_law_element_of : List W → M W) : SM :=
  sIf (xAnd (xB (e2 eqW (e2 ixW (eVar 0) (eC (.int 0))) (eC (.str [81])))) (xB (e2 inW (eC (.str [47])) (eVar 1))))
      (sSeq (sAsg (eM "str" splitW (eVar 1) (aCons (eC (.str [47])) aNil)) (gN 3))
      (sSeq (sAsg (eCall f_law_integer_of (aCons (e2 ixW (eVar 3) (eC (.int 0))) aNil)) (gN 4))
      (sSeq (sAsg (eCall f_law_natural_of (aCons (e2 ixW (eVar 3) (eC (.int 1))) aNil)) (gN 5))
      (sSeq (m_law_element_of_6 r_law_element_of)
      (sRet (eTup (aCons (eVar 4) (aCons (eVar 5) aNil))))))))
      sSkip
noncomputable def m_law_element_of_4 (r_law_element_of : List W → M W) : SM :=
  sIf (xOr (xB (e2 inW (eC .non) (eVar 2))) (xB (e2 eqW (e2 ixW (eVar 2) (e1 negW (eC (.int 1)))) (eCall f_law_zero (aCons (e2 ixW (eVar 0) (eC (.int 1))) aNil)))))
      (sRet (eC .non))
      sSkip
noncomputable def m_law_element_of_3 (r_law_element_of : List W → M W) : SM :=
  sIf (xOr (xB (e2 ltW (eN lenW (aCons (eVar 1) aNil)) (eC (.int 3)))) (xOr (xB (e2 neW (e2 ixW (eVar 1) (eC (.int 0))) (eC (.str [123])))) (xB (e2 neW (e2 ixW (eVar 1) (e1 negW (eC (.int 1)))) (eC (.str [125]))))))
      (sRet (eC .non))
      sSkip
noncomputable def m_law_element_of_2 (r_law_element_of : List W → M W) : SM :=
  sIf (xB (e2 eqW (eVar 1) (eC (.str [123, 125]))))
      (sRet (eTup aNil))
      sSkip
noncomputable def m_law_element_of_1 (r_law_element_of : List W → M W) : SM :=
  sIf (xB (e2 eqW (e2 ixW (eVar 0) (eC (.int 0))) (eC (.str [80]))))
      (sSeq (m_law_element_of_2 r_law_element_of)
      (sSeq (m_law_element_of_3 r_law_element_of)
      (sSeq (sAsg (eLc (iVal (eM "str" splitW (eSl slW (eVar 1) (pSome (eC (.int 1))) (pSome (e1 negW (eC (.int 1))))) (aCons (eC (.str [32])) aNil))) (gN 6) xYes (eCall r_law_element_of (aCons (e2 ixW (eVar 0) (eC (.int 1))) (aCons (eVar 6) aNil))) [6]) (gN 2))
      (sSeq (m_law_element_of_4 r_law_element_of)
      (sRet (eN tupleW (aCons (eVar 2) aNil)))))))
      sSkip
noncomputable def m_law_element_of (r_law_element_of : List W → M W) : SM :=
  (sSeq (m_law_element_of_1 r_law_element_of)
  (sSeq (m_law_element_of_5 r_law_element_of)
  (sSeq (sAsg (eCall f_law_integer_of (aCons (eVar 1) aNil)) (gN 4))
  (sSeq (m_law_element_of_7 r_law_element_of)
  (sSeq (m_law_element_of_8 r_law_element_of)
  (sRet (eVar 4)))))))
noncomputable def f_law_element_of : Nat → List W → M W
  | 0 => fun _ _ => .no
  | n + 1 => runM 7 2 (m_law_element_of (f_law_element_of n))
noncomputable def m_law_pieces_2 : SM :=
  sIf (xAnd (xB (e2 eqW (eVar 3) (eC (.str [32])))) (xB (e2 eqW (eVar 2) (eC (.int 0)))))
      (sExpr (eM "list" appendW (eVar 1) (aCons (eC (.str [])) aNil)))
      (sAsg (e2 addW (e2 ixW (eVar 1) (e1 negW (eC (.int 1)))) (eVar 3)) (gS (eVar 1) (e1 negW (eC (.int 1)))))
noncomputable def m_law_pieces_1 : SM :=
  sFor (iVal (eVar 0)) (gN 3)
      (sSeq (sAsg (e2 subW (e2 addW (eVar 2) (eN intW (aCons (e2 eqW (eVar 3) (eC (.str [123]))) aNil))) (eN intW (aCons (e2 eqW (eVar 3) (eC (.str [125]))) aNil))) (gN 2))
      (m_law_pieces_2))
noncomputable def m_law_pieces : SM :=
  (sSeq (sAsg (eLst (aCons (eC (.str [])) aNil)) (gN 1))
  (sSeq (sAsg (eC (.int 0)) (gN 2))
  (sSeq (m_law_pieces_1)
  (sRet (eVar 1)))))
noncomputable def f_law_pieces : List W → M W := runM 4 1 m_law_pieces
noncomputable def m_law_list_of_1 : SM :=
  sIf (xB (e2 inW (eC .non) (eVar 2)))
      (sRet (eC .non))
      sSkip
noncomputable def m_law_list_of : SM :=
  (sSeq (sAsg (eLc (iVal (eCall f_law_pieces (aCons (eVar 1) aNil))) (gN 3) xYes (eCall (f_law_element_of 4) (aCons (eVar 0) (aCons (eVar 3) aNil))) [3]) (gN 2))
  (sSeq (m_law_list_of_1)
  (sRet (eN tupleW (aCons (eVar 2) aNil)))))
noncomputable def f_law_list_of : List W → M W := runM 4 2 m_law_list_of
noncomputable def m_law_vector_of_2 : SM :=
  sIf (xB (e2 eqW (eVar 1) (eC (.str [60, 62]))))
      (sRet (eTup aNil))
      sSkip
noncomputable def m_law_vector_of_1 : SM :=
  sIf (xOr (xB (e2 ltW (eN lenW (aCons (eVar 1) aNil)) (eC (.int 2)))) (xOr (xB (e2 neW (e2 ixW (eVar 1) (eC (.int 0))) (eC (.str [60])))) (xB (e2 neW (e2 ixW (eVar 1) (e1 negW (eC (.int 1)))) (eC (.str [62]))))))
      (sRet (eC .non))
      sSkip
noncomputable def m_law_vector_of : SM :=
  (sSeq (m_law_vector_of_1)
  (sSeq (m_law_vector_of_2)
  (sRet (eCall f_law_list_of (aCons (eVar 0) (aCons (eSl slW (eVar 1) (pSome (eC (.int 1))) (pSome (e1 negW (eC (.int 1))))) aNil))))))
noncomputable def f_law_vector_of : List W → M W := runM 2 2 m_law_vector_of
noncomputable def m_law_matrix_of_6 : SM :=
  sIf (xB (e2 neW (eN lenW (aCons (eVar 5) aNil)) (eN lenW (aCons (e2 ixW (eVar 3) (eC (.int 0))) aNil))))
      (sRet (eC .non))
      sSkip
noncomputable def m_law_matrix_of_5 : SM :=
  sFor (iVal (eVar 3)) (gN 5)
      (m_law_matrix_of_6)
noncomputable def m_law_matrix_of_4 : SM :=
  sIf (xB (e2 inW (eC .non) (eVar 3)))
      (sRet (eC .non))
      sSkip
noncomputable def m_law_matrix_of_3 : SM :=
  sIf (xOr (xB (e2 neW (eN lenW (aCons (eVar 3) aNil)) (eC (.int 2)))) (xOr (xB (e2 inW (eC .non) (eVar 4))) (xOr (xB (e2 gtW (eN maxW (aCons (eVar 4) aNil)) (eC (.int 1000)))) (xB (e2 gtW (eN minW (aCons (eVar 4) aNil)) (eC (.int 0)))))))
      (sRet (eC .non))
      sSkip
noncomputable def m_law_matrix_of_2 : SM :=
  sIf (xB (e2 inW (eC (.str [120])) (eVar 2)))
      (sSeq (sAsg (eM "str" splitW (eVar 2) (aCons (eC (.str [120])) aNil)) (gN 3))
      (sSeq (sAsg (eLc (iVal (eVar 3)) (gN 6) xYes (eCall f_law_natural_of (aCons (eVar 6) aNil)) [6]) (gN 4))
      (sSeq (m_law_matrix_of_3)
      (sRet (eTup (aCons (e2 ixW (eVar 4) (eC (.int 0))) (aCons (e2 ixW (eVar 4) (eC (.int 1))) (aCons (e2 mulW (eTup (aCons (eTup aNil) aNil)) (e2 ixW (eVar 4) (eC (.int 0)))) aNil))))))))
      sSkip
noncomputable def m_law_matrix_of_1 : SM :=
  sIf (xOr (xB (e2 ltW (eN lenW (aCons (eVar 1) aNil)) (eC (.int 2)))) (xOr (xB (e2 neW (e2 ixW (eVar 1) (eC (.int 0))) (eC (.str [91])))) (xB (e2 neW (e2 ixW (eVar 1) (e1 negW (eC (.int 1)))) (eC (.str [93]))))))
      (sRet (eC .non))
      sSkip
noncomputable def m_law_matrix_of : SM :=
  (sSeq (m_law_matrix_of_1)
  (sSeq (sAsg (eSl slW (eVar 1) (pSome (eC (.int 1))) (pSome (e1 negW (eC (.int 1))))) (gN 2))
  (sSeq (m_law_matrix_of_2)
  (sSeq (sAsg (eLc (iVal (eM "str" splitW (eVar 2) (aCons (eC (.str [59, 32])) aNil))) (gN 5) xYes (eCall f_law_list_of (aCons (eVar 0) (aCons (eVar 5) aNil))) [5]) (gN 3))
  (sSeq (m_law_matrix_of_4)
  (sSeq (m_law_matrix_of_5)
  (sRet (eTup (aCons (eN lenW (aCons (eVar 3) aNil)) (aCons (eN lenW (aCons (e2 ixW (eVar 3) (eC (.int 0))) aNil)) (aCons (eN tupleW (aCons (eVar 3) aNil)) aNil)))))))))))
noncomputable def f_law_matrix_of : List W → M W := runM 7 2 m_law_matrix_of
noncomputable def m_law_due_3 : SM :=
  sIf (xB (e2 eqW (eVar 0) (eC (.int 2))))
      (sRet (eCall f_law_vector_of (aCons (eVar 1) (aCons (eVar 2) aNil))))
      sSkip
noncomputable def m_law_due_2 : SM :=
  sIf (xB (e2 eqW (eVar 0) (eC (.int 1))))
      (sRet (eCall (f_law_element_of 4) (aCons (eVar 1) (aCons (eVar 2) aNil))))
      sSkip
noncomputable def m_law_due_1 : SM :=
  sIf (xB (e2 eqW (eVar 0) (eC (.int 0))))
      (sRet (eCall (f_law_domain_of 4) (aCons (eVar 2) aNil)))
      sSkip
noncomputable def m_law_due : SM :=
  (sSeq (m_law_due_1)
  (sSeq (m_law_due_2)
  (sSeq (m_law_due_3)
  (sRet (eCall f_law_matrix_of (aCons (eVar 1) (aCons (eVar 2) aNil)))))))
noncomputable def f_law_due : List W → M W := runM 3 3 m_law_due
noncomputable def m_law_made_3 : SM :=
  sIf (xB (e2 eqW (eVar 0) (eC (.int 2))))
      (sRet (eCall f_law_vector_text (aCons (eVar 1) (aCons (eVar 2) aNil))))
      sSkip
noncomputable def m_law_made_2 : SM :=
  sIf (xB (e2 eqW (eVar 0) (eC (.int 1))))
      (sRet (eCall (f_law_text 4) (aCons (eVar 1) (aCons (eVar 2) aNil))))
      sSkip
noncomputable def m_law_made_1 : SM :=
  sIf (xB (e2 eqW (eVar 0) (eC (.int 0))))
      (sRet (eCall (f_law_domain_text 4) (aCons (eVar 2) aNil)))
      sSkip
noncomputable def m_law_made : SM :=
  (sSeq (m_law_made_1)
  (sSeq (m_law_made_2)
  (sSeq (m_law_made_3)
  (sRet (eCall f_law_matrix_text (aCons (eVar 1) (aCons (eVar 2) aNil)))))))
noncomputable def f_law_made : List W → M W := runM 3 3 m_law_made
noncomputable def m_law_read_4 : SM :=
  sIf (xB (e2 eqW (eVar 0) (eC (.int 2))))
      (sRet (eLst (aCons (eCall f_read_vector (aCons (eVar 1) (aCons (eVar 2) aNil))) aNil)))
      sSkip
noncomputable def m_law_read_3 : SM :=
  sIf (xB (e2 eqW (eVar 0) (eC (.int 1))))
      (sRet (eLst (aCons (eCall (f_read_element 6) (aCons (eVar 1) (aCons (eVar 2) aNil))) aNil)))
      sSkip
noncomputable def m_law_read_2 : SM :=
  sIf (xB (e2 eqW (eVar 0) (eC (.int 0))))
      (sRet (eLst (aCons (eCall (f_read_domain 4) (aCons (eVar 2) aNil)) aNil)))
      sSkip
noncomputable def m_law_read_1 : SM :=
  sTryAs 3 caught_law_read
      (sSeq (m_law_read_2)
      (sSeq (m_law_read_3)
      (sSeq (m_law_read_4)
      (sRet (eLst (aCons (eCall f_read_matrix (aCons (eVar 1) (aCons (eVar 2) aNil))) aNil))))))
      msu_law_read
noncomputable def m_law_read : SM :=
  (m_law_read_1)
noncomputable def f_law_read : List W → M W := runM 4 3 m_law_read
noncomputable def m_law_changed_1 : SM :=
  sFor (iRange (aCons (eCall f_law_take (aCons (eVar 0) (aCons (eC (.int 4)) aNil))) aNil)) (gN 2)
      (sSeq (sAsg (eCall f_law_take (aCons (eVar 0) (aCons (e2 addW (eN lenW (aCons (eVar 1) aNil)) (eC (.int 1))) aNil))) (gN 3))
      (sSeq (sAsg (e2 ixW (eC (.str [48, 32, 49, 45, 47, 123, 125, 60, 62, 91, 93, 59, 120, 50, 81, 10, 55, 70, 80, 43, 95])) (eCall f_law_take (aCons (eVar 0) (aCons (eC (.int 21)) aNil)))) (gN 4))
      (sAsg (e2 ixW (eLst (aCons (e2 addW (e2 addW (eSl slW (eVar 1) pNone (pSome (eVar 3))) (eVar 4)) (eSl slW (eVar 1) (pSome (eVar 3)) pNone)) (aCons (e2 addW (eSl slW (eVar 1) pNone (pSome (eVar 3))) (eSl slW (eVar 1) (pSome (e2 addW (eVar 3) (eC (.int 1)))) pNone)) (aCons (e2 addW (e2 addW (eSl slW (eVar 1) pNone (pSome (eVar 3))) (eVar 4)) (eSl slW (eVar 1) (pSome (e2 addW (eVar 3) (eC (.int 1)))) pNone)) aNil)))) (eCall f_law_take (aCons (eVar 0) (aCons (eC (.int 3)) aNil)))) (gN 1))))
noncomputable def m_law_changed : SM :=
  (sSeq (m_law_changed_1)
  (sRet (e2 addW (eVar 1) (e2 mulW (eC (.str [10])) (eN intW (aCons (e2 eqW (eCall f_law_take (aCons (eVar 0) (aCons (eC (.int 8)) aNil))) (eC (.int 0))) aNil))))))
noncomputable def f_law_changed : List W → M W := runM 5 2 m_law_changed
noncomputable def m_law_pieced : SM :=
  (sSeq (sAsg (eM "str" splitW (eC (.str [70, 44, 81, 44, 90, 44, 80, 44, 55, 44, 50, 53, 44, 53, 54, 49, 44, 54, 53, 53, 49, 57, 44, 54, 53, 53, 50, 49, 44, 54, 53, 53, 51, 55, 44, 48, 44, 49, 44, 45, 44, 47, 44, 123, 44, 125, 44, 60, 44, 62, 44, 91, 44, 93, 44, 59, 44, 32, 44, 120, 44, 50, 44, 48, 49, 44, 49, 47, 50, 44, 50, 47, 52, 44, 59, 32, 44, 123, 49, 125, 44, 45, 51, 44, 49, 48, 48, 48, 44, 49, 48, 48, 49])) (aCons (eC (.str [44])) aNil)) (gN 1))
  (sRet (eM "str" joinW (eC (.str [])) (aCons (eLc (iRange (aCons (eCall f_law_take (aCons (eVar 0) (aCons (eC (.int 9)) aNil))) aNil)) (gN 2) xYes (e2 ixW (eVar 1) (eCall f_law_take (aCons (eVar 0) (aCons (eC (.int 32)) aNil)))) [2]) aNil))))
noncomputable def f_law_pieced : List W → M W := runM 3 1 m_law_pieced
noncomputable def m_law_3 : SM :=
  sIf (xB (e2 isW (eVar 10) (eC .non)))
      (sRet (e2 eqW (eVar 11) (eLst aNil)))
      sSkip
noncomputable def m_law_2 : SM :=
  sIf (xB (e2 eqW (eCall f_law_take (aCons (eVar 1) (aCons (eC (.int 3)) aNil))) (eC (.int 0))))
      (sSeq (sAsg (e2 ixW (eLst (aCons (eC (.str [])) (aCons (eC (.str [])) (aCons (eC (.str [60])) (aCons (eC (.str [91])) aNil))))) (eVar 3)) (gN 9))
      (sAsg (e2 addW (e2 addW (eVar 9) (eCall f_law_pieced (aCons (eVar 1) aNil))) (e2 ixW (eLst (aCons (eC (.str [])) (aCons (eC (.str [])) (aCons (eC (.str [62])) (aCons (eC (.str [93])) aNil))))) (eVar 3))) (gN 7)))
      (sAsg (eCall f_law_changed (aCons (eVar 1) (aCons (eVar 7) aNil))) (gN 7))
noncomputable def m_law_1 : SM :=
  sIf (xAnd (xB (e2 eqW (eVar 3) (eC (.int 3)))) (xAnd (xB (e2 gtW (eVar 4) (eC (.int 1)))) (xB (e2 eqW (eCall f_law_take (aCons (eVar 1) (aCons (eC (.int 6)) aNil))) (eC (.int 0))))))
      (sSeq (sAsg (eCall f_law_take (aCons (eVar 1) (aCons (eVar 4) aNil))) (gN 5))
      (sSeq (sAsg (eM "str" splitW (eSl slW (eVar 7) (pSome (eC (.int 1))) (pSome (e1 negW (eC (.int 1))))) (aCons (eC (.str [59, 32])) aNil)) (gN 8))
      (sSeq (sAsg (e2 ixW (eLst (aCons (e2 addW (e2 addW (e2 ixW (eVar 8) (eVar 5)) (eC (.str [32]))) (eCall (f_law_text 4) (aCons (eVar 2) (aCons (eCall (f_law_small 4) (aCons (eVar 1) (aCons (eVar 2) aNil))) aNil)))) (aCons (eM "str" joinW (eC (.str [32])) (aCons (eSl slW (eCall f_law_pieces (aCons (e2 ixW (eVar 8) (eVar 5)) aNil)) (pSome (eC (.int 1))) pNone) aNil)) aNil))) (eCall f_law_take (aCons (eVar 1) (aCons (eC (.int 2)) aNil)))) (gS (eVar 8) (eVar 5)))
      (sAsg (e2 addW (e2 addW (eC (.str [91])) (eM "str" joinW (eC (.str [59, 32])) (aCons (eVar 8) aNil))) (eC (.str [93]))) (gN 7)))))
      (m_law_2)
noncomputable def m_law : SM :=
  (sSeq (sAsg (eCall f_law_start (aCons (eVar 0) aNil)) (gN 1))
  (sSeq (sAsg (eCall f_law_domain (aCons (eVar 1) aNil)) (gN 2))
  (sSeq (sAsg (eCall f_law_take (aCons (eVar 1) (aCons (eC (.int 4)) aNil))) (gN 3))
  (sSeq (sAsg (eCall f_law_take (aCons (eVar 1) (aCons (eC (.int 4)) aNil))) (gN 4))
  (sSeq (sAsg (eLst (aCons (eVar 2) (aCons (eCall (f_law_small 4) (aCons (eVar 1) (aCons (eVar 2) aNil))) (aCons (eN tupleW (aCons (eLc (iRange (aCons (eVar 4) aNil)) (gN 5) xYes (eCall (f_law_small 4) (aCons (eVar 1) (aCons (eVar 2) aNil))) [5]) aNil)) (aCons (eCall f_law_matrix (aCons (eVar 1) (aCons (eVar 2) (aCons (eVar 4) (aCons (e2 addW (eC (.int 1)) (eCall f_law_take (aCons (eVar 1) (aCons (eC (.int 3)) aNil)))) aNil))))) aNil))))) (gN 6))
  (sSeq (sAsg (eCall f_law_made (aCons (eVar 3) (aCons (eVar 2) (aCons (e2 ixW (eVar 6) (eVar 3)) aNil)))) (gN 7))
  (sSeq (m_law_1)
  (sSeq (sAsg (eCall f_law_due (aCons (eVar 3) (aCons (eVar 2) (aCons (eVar 7) aNil)))) (gN 10))
  (sSeq (sAsg (eCall f_law_read (aCons (eVar 3) (aCons (eVar 2) (aCons (eVar 7) aNil)))) (gN 11))
  (sSeq (m_law_3)
  (sRet (e2 eqW (eVar 11) (eLst (aCons (eVar 10) aNil))))))))))))))
noncomputable def f_law : List W → M W := runM 12 1 m_law
end ME

set_option Elab.async false
set_option linter.all false
set_option maxRecDepth 100000
set_option maxHeartbeats 1000000
namespace FL
open PySem PySem.Spec PyProof.Rows L2 PySem.NumText
section
variable {P : Program} {w : World} {K : PySem.W.Frag} {mg : Str → Option Value} {base : Heap} {C fI : Addr}
/-- an error of the class at C with line 1 leaves, old objects stand -/
def Bad (C : Addr) (H : Hp) (E : XK) : Prop := ∀ d H', Same H H' → H' d = some (.xd [("line", .int 1)]) → E (.ref C) (some d) H'
theorem Bad.of {H H' : Hp} {E : XK} (h : Bad C H E) (s : Same H H') : Bad C H' E := fun d H2 s2 e => h d H2 (s.trans s2) e
def spFail (C : Addr) : Sp := fun vs H Q E => vs = [] ∧ Bad C H E
abbrev s_fail : Stmt := topS 26
abbrev N_fail : List Str := []
theorem sc_fail : FnScope N_fail [] (defScope s_fail) := ⟨rfl, rfl, rfl, by decide +kernel, rfl, by decide +kernel, by decide +kernel⟩
theorem ok_fail {f : Addr} {fd : FuncData} (D : DefAt K mg "fail" s_fail [] f fd) (TX : PySem.TeX.TeTxt P K mg C fI) : FnOk P w K mg base (L2.CX P w) 3 f fd [] (spFail C) := by
  refine D.F.okX sc_fail (fun vs H Q E h => ?_) (fun cdv A outer s H vs Q E hr h => ?_)
  · obtain ⟨rfl, _⟩ := h
    rfl
  obtain ⟨rfl, b⟩ := h
  refine ⟨_, (pss_one (ps_raiseTe rfl TX hr (takes_of rfl rfl rfl rfl) (by exact (pa_cons pe_int pa_nil)))), ?_⟩
  refine ⟨_, rfl, fun d nd => b d _ (same_new (Same.refl H) nd) upd_same⟩

theorem digits_in {c : Nat} : decide (c ∈ (Str.ofString "0123456789").cps.toList) = isDig c := by
  rw [show (Str.ofString "0123456789").cps.toList = [48, 49, 50, 51, 52, 53, 54, 55, 56, 57] by decide +kernel]
  rw [Bool.eq_iff_iff, decide_eq_true_eq, isDig_iff]
  simp only [List.mem_cons, List.not_mem_nil, or_false]
  omega

theorem via_no {H : Hp} {T : (Bool → Hp → Prop) → Prop} {q : Bool → Hp → Prop} (h : ∀ q : Bool → Hp → Prop, q false H → T q) (r : q false H) : T q := h q r
theorem via_yes {H : Hp} {T : (Bool → Hp → Prop) → Prop} {q : Bool → Hp → Prop} (h : ∀ q : Bool → Hp → Prop, q true H → T q) (r : q true H) : T q := h q r
theorem S_empty {t : List Nat} (h : V.str (S t) = V.str (Str.ofString "")) : t = [] := by
  injection h with h
  rw [show Str.ofString "" = S [] from rfl] at h
  exact S_inj h
theorem at_head {c : Nat} {t : List Nat} : atI (S (c :: t)).cps.toList (0 : Int) = some c := atI_nat (j := 0) (show (c :: t)[0]? = some c from rfl)
theorem one_is {c k : Nat} (h : V.str ⟨#[c]⟩ = V.str (S [k])) : c = k := by
  injection h with h
  injection h with h
  simpa using h
def spRN (C : Addr) : Sp := fun vs H Q E => ∃ t : List Nat, vs = [.str (S t)] ∧ t.length ≤ 500 ∧ (∀ n : Nat, rNat t = some n → Q (.int (n : Int)) H) ∧ (rNat t = none → Bad C H E)
abbrev s_read_natural : Stmt := topS 27
abbrev N_read_natural : List Str := ["text", "character", "found", "base", "at"]
theorem sc_read_natural : FnScope N_read_natural ["text"] (defScope s_read_natural) := ⟨rfl, rfl, rfl, by decide +kernel, rfl, by decide +kernel, by decide +kernel⟩
theorem ok_read_natural {f ff fb : Addr} {fd fdf fdb : FuncData} (D_read_natural : DefAt K mg "read_natural" s_read_natural ["text"] f fd) (D_fail : DefAt K mg "fail" s_fail [] ff fdf) (D_piece_base : DefAt K mg "piece_base" s_piece_base [] fb fdb)
    {tp tm td : Tok} (c_PIECE : mg "PIECE" = some (.int 1024 tp)) (c_MOST_DIGITS : mg "MOST_DIGITS" = some (.int 100000 tm)) (c_DIGITS : mg "DIGITS" = some (.str (Str.ofString "0123456789") td)) (z_len : mg "len" = none) (z_int : mg "int" = none)
    (G_piece_base : FnOk P w K mg base CX0 1 fb fdb [] spBase) (G_fail : FnOk P w K mg base (L2.CX P w) 3 ff fdf [] (spFail C)) : FnOk P w K mg base (L2.CX P w) 4 f fd ["text"] (spRN C) := by
  refine D_read_natural.F.okX sc_read_natural (fun vs H Q E h => ?_) (fun cdv A outer s H vs Q E hr h => ?_)
  · obtain ⟨t, rfl, _⟩ := h
    rfl
  obtain ⟨t, rfl, ht, q, b⟩ := h
  refine ⟨_, (pss_cons (ps_if (PW.pt (pw_or (pt_cmpR op_eq (pv 0) pe_str (nomark _)) (pw_or (pt_cmpR op_gt (pe_callB call_len (by rfl) z_len (by decide +kernel) (pa_cons (pv 0) pa_nil)) (pe_glob (v := .int 100000) (by rfl) c_MOST_DIGITS ⟨_, rfl⟩) (nomark _)) (pw_or1 (PW.pt (pw_and (pt_cmpR op_gt (pe_callB call_len (by rfl) z_len (by decide +kernel) (pa_cons (pv 0) pa_nil)) pe_int (nomark _)) (pw_and1 (pt_cmpR op_eq (pe_ix ix_str (pv 0) pe_int (fun _ _ => rfl)) pe_str (nomark _))))))))) (pss_one (ps_expr (pe_call0 G_fail (hr.mono (by first | decide | omega)) (by rfl) D_fail.m D_fail.F.kp D_fail.b .nil (passes_call (takes_of rfl rfl rfl rfl) (fun _ _ _ _ h => h)))))
        pss_nil)
      (pss_cons (ps_for (passes_of rfl) rfl (pi_str (pv 0)) (pg_name (i := 1) sc_read_natural.nd rfl (Or.inl rfl))
        (pss_one (ps_if (pt_cmpR op_notIn_sign (pv 1) (pe_glob (v := .str "0123456789") (by rfl) c_DIGITS ⟨_, rfl⟩) rfl) (pss_one (ps_expr (pe_call0 G_fail (hr.mono (by first | decide | omega)) (by rfl) D_fail.m D_fail.F.kp D_fail.b .nil (passes_call (takes_of rfl rfl rfl rfl) (fun _ _ _ _ h => h)))))
          pss_nil)))
      (pss_cons (ps_set (i := 2) sc_read_natural.nd rfl (Or.inl rfl) pe_int)
      (pss_cons (ps_set (i := 3) sc_read_natural.nd rfl (Or.inl rfl) (pe_call0 G_piece_base (hr.mono (by first | decide | omega)) (by rfl) D_piece_base.m D_piece_base.F.kp D_piece_base.b .nil pass0))
      (pss_cons (ps_set (i := 4) sc_read_natural.nd rfl (Or.inl rfl) (pe_op op_mod (pe_callB call_len (by rfl) z_len (by decide +kernel) (pa_cons (pv 0) pa_nil)) (pe_glob (v := .int 1024) (by rfl) c_PIECE ⟨_, rfl⟩)))
      (C8.pss_cut (ps_if (pt_cmpR op_gt (pv 4) pe_int (nomark _)) (pss_one (ps_set (i := 2) sc_read_natural.nd rfl (Or.inl rfl) (pe_callTy call_int_str (by rfl) z_int (by decide +kernel) (pa_cons (pe_slice sl_str (pv 0) po_none (po_some (pv 4))) pa_nil))))
        pss_nil)
      (pss_cons (ps_while (passes_of rfl) (pt_cmpR op_lt (pv 4) (pe_callB call_len (by rfl) z_len (by decide +kernel) (pa_cons (pv 0) pa_nil)) (nomark _)) (pss_cons (ps_set (i := 2) sc_read_natural.nd rfl (Or.inl rfl) (pe_op op_add (pe_op op_mulW (pv 2) (pv 3)) (pe_callTy call_int_str (by rfl) z_int (by decide +kernel) (pa_cons (pe_slice sl_str (pv 0) (po_some (pv 4)) (po_some (pe_op op_add (pv 4) (pe_glob (v := .int 1024) (by rfl) c_PIECE ⟨_, rfl⟩)))) pa_nil))))
        (pss_one (ps_aug (i := 4) sc_read_natural.nd rfl (Or.inl rfl) (pe_glob (v := .int 1024) (by rfl) c_PIECE ⟨_, rfl⟩) ip_add))))
      (pss_one (ps_ret (pv 2)))))))))), ?_⟩
  have hlen : t.length ≤ sizeLine := by rw [sizeLine_eq]; omega
  -- the for and what follows
  refine ⟨_, rfl, rfl, _, rfl, ite2 (fun e => ite2 (fun _ => ?_) (fun e2 => absurd rfl e2)) (fun e => ?_)⟩
  · exact ⟨rfl, b (by rw [S_empty (of_decide_eq_true e)]; rfl)⟩
  have e0 : t ≠ [] := fun z => e (by rw [z]; rfl)
  refine ⟨_, rfl, _, _, rfl, ⟨hlen, rfl⟩, _, _, rfl, rfl, _, rfl, ite2 (fun e1 => absurd (of_decide_eq_true e1) (by show ¬ ((t.length : Int) > 100000); omega)) (fun e1 => ?_)⟩
  by_cases h0 : 1 < t.length ∧ t.head? = some 48
  · obtain ⟨h1, h2⟩ := h0
    refine via_yes (H := H) (T := fun q => tAnd _ _ _ _ q) (fun q r => ?_) ?_
    · refine ⟨_, rfl, _, _, rfl, ⟨hlen, rfl⟩, _, _, rfl, rfl, _, rfl, ite2 (fun _ => ?_) (fun e => absurd (decide_eq_true (show (1 : Int) < (t.length : Int) by omega)) e)⟩
      obtain ⟨c, t', rfl⟩ : ∃ c t', t = c :: t' := by
        cases t with
        | nil => cases h2
        | cons c t' => exact ⟨c, t', rfl⟩
      have : c = 48 := by simpa using h2
      subst this
      exact ⟨_, rfl, _, 0, 48, rfl, rfl, hlen, at_head, rfl, _, rfl, r⟩
    · refine ite2 (fun _ => ⟨rfl, b (by unfold rNat; rw [if_pos (.inr (.inl ⟨h1, h2⟩))])⟩) (fun e => absurd rfl e)
  refine via_no (H := H) (T := fun q => tAnd _ _ _ _ q) (fun q r => ?_) ?_
  · refine ⟨_, rfl, _, _, rfl, ⟨hlen, rfl⟩, _, _, rfl, rfl, _, rfl, ite2 (fun e => ?_) (fun _ => r)⟩
    have h1 : 1 < (t.length : Int) := of_decide_eq_true e
    obtain ⟨c, t', rfl⟩ : ∃ c t', t = c :: t' := by
      cases t with
      | nil => exact absurd rfl e0
      | cons c t' => exact ⟨c, t', rfl⟩
    refine ⟨_, rfl, _, 0, c, rfl, rfl, hlen, at_head, rfl, _, rfl, ?_⟩
    have : decide (V.str ⟨#[c]⟩ = V.str (Str.ofString "0")) = false := by
      refine decide_eq_false fun z => h0 ⟨by omega, ?_⟩
      rw [one_is (k := 48) z]; rfl
    rw [this]
    exact r
  refine ite2 (fun e => nomatch e) (fun _ => ?_)
  -- for character in text
  refine ⟨_, rfl, _, rfl, for_txt (fun i σ H' => (∃ v, σ = [some (.str (S t)), v, none, none, none]) ∧ H' = H ∧ ∀ c ∈ t.take i, isDig c = true) ⟨⟨_, rfl⟩, rfl, by simp⟩ ?_ ?_⟩
  · rintro i c σ H' hc ⟨⟨v, rfl⟩, rfl, hd⟩
    refine ⟨_, rfl, c, _, rfl, rfl, _, rfl, ite2 (fun e => ?_) (fun e => ?_)⟩
    · rw [digits_in] at e
      refine ⟨rfl, b ?_⟩
      have hm : c ∈ t := List.mem_of_getElem? (show t[i]? = some c by simpa using hc)
      have hz : ¬ t.all isDig = true := fun z => by
        have e2 := List.all_eq_true.mp z c hm
        rw [e2] at e
        cases e
      unfold rNat
      rw [if_pos (.inr (.inr hz))]
    · rw [digits_in] at e
      refine ⟨⟨_, rfl⟩, rfl, fun x hx => ?_⟩
      rw [List.take_succ, show t[i]? = some c by simpa using hc] at hx
      rcases List.mem_append.mp hx with hx | hx
      · exact hd x hx
      · have : x = c := by simpa using hx
        subst this
        cases q : isDig x with
        | true => rfl
        | false => rw [q] at e; exact absurd rfl e
  rintro σ H' ⟨⟨v, rfl⟩, e, hd⟩
  obtain rfl := e.symm
  have hall : AllDigits t := all_digits.mp (List.all_eq_true.mpr fun c hc => hd c (by show c ∈ t.take t.length; rw [List.take_length]; exact hc))
  have hn : rNat t = some (digitsVal t) := by
    unfold rNat
    rw [if_neg]
    rintro (h | h | h)
    · exact e0 h
    · exact h0 h
    · exact h (all_digits.mpr hall)
  have hpos : 0 < t.length := List.length_pos_iff.mpr e0
  -- found = 0; base = piece_base(); at = len(text) % PIECE
  refine ⟨rfl, _, rfl, _, _, rfl, ⟨hlen, rfl⟩, _, _, rfl, rfl, (show (0 : Int) < 1024 by decide), ?_⟩
  dsimp only [gName, List.set]
  rw [show ((S t).length : Int) % 1024 = (t.length : Int) by show (t.length : Int) % 1024 = _; omega]
  -- if at > 0
  refine ⟨fun σ' H' => σ' = [some (.str (S t)), v, some (.int (digitsVal t : Nat)), some (.int ((10 ^ 1024 : Nat) : Int)), some (.int (t.length : Int))] ∧ H' = H, ?_, ?_⟩
  · refine ⟨_, rfl, _, _, rfl, rfl, _, rfl, ite2 (fun e => ?_) (fun e => absurd (decide_eq_true (show (0 : Int) < (t.length : Int) by omega)) e)⟩
    refine ⟨_, rfl, _, rfl, _, rfl, _, rfl, hlen, ?_⟩
    rw [cut_to, List.take_length]
    refine ⟨_, _, rfl, SX.int_S (by have := all_digits.mpr hall; exact this) e0 (by omega), by show t.length ≤ 640; omega, rfl, rfl⟩
  · rintro σ' H' ⟨rfl, e⟩
    obtain rfl := e.symm
    refine ⟨fun _ σ' H' => σ' = [some (.str (S t)), v, some (.int (digitsVal t : Nat)), some (.int ((10 ^ 1024 : Nat) : Int)), some (.int (t.length : Int))] ∧ H' = H, ⟨0, rfl, rfl⟩, fun m σ' H' hw => ?_⟩
    obtain ⟨rfl, rfl⟩ := hw
    refine ⟨_, rfl, _, rfl, _, _, rfl, ⟨hlen, rfl⟩, _, _, rfl, rfl, _, rfl, ite2 (fun e3 => ?_) (fun e3 => ?_)⟩
    · have : (t.length : Int) < (t.length : Int) := of_decide_eq_true e3
      omega
    · exact ⟨_, rfl, q _ hn⟩
end
end FL

set_option Elab.async false
set_option linter.all false
set_option maxRecDepth 100000
set_option maxHeartbeats 2000000
namespace ME
open PySem PySem.Spec PyProof.Rows L2
/-- the error classes -/
structure ErrC (K : PySem.W.Frag) (mg : Str → Option Value) (C C0 C1 C2 C3 : Addr) : Prop where
  g0 : mg "FacetloreError" = some (.ref C0)
  g1 : mg "DomainError" = some (.ref C1)
  g2 : mg "ShapeError" = some (.ref C2)
  g3 : mg "SingularError" = some (.ref C3)
  ex : PySem.W.exmOne K (.ref C) (.ref C0) = some true
  own : PySem.W.kitOne K (.ref C) (.ref C) = some true
  n1 : PySem.W.kitOne K (.ref C) (.ref C1) = some false
  n2 : PySem.W.kitOne K (.ref C) (.ref C2) = some false
  n3 : PySem.W.kitOne K (.ref C) (.ref C3) = some false
  F : FL.IsiE K C
abbrev rIsE (K : PySem.W.Frag) (C a : Addr) (cls : Value) (d : Option Addr) : List V → Hp → VK → Prop := fun xs H Q => ∃ (c : V) (u : Value) (b : Bool) (dd : Addr) (v : V), xs = [.ref a, c] ∧ cls = .ref C ∧ d = some dd ∧ H dd = some (.xd [(("line" : Str), v)]) ∧ ClsV c u ∧ PySem.W.kitOne K (.ref C) u = some b ∧ Q (.bl b) H
abbrev rIsET (K : PySem.W.Frag) (C a : Addr) (cls : Value) (d : Option Addr) : List V → Hp → VK → Prop := fun xs H Q => ∃ (tp : Addr) (cs : List V) (us : List Value) (b : Bool) (dd : Addr) (v : V), xs = [.ref a, .ref tp] ∧ cls = .ref C ∧ d = some dd ∧ H dd = some (.xd [(("line" : Str), v)]) ∧ H tp = some (.tup cs) ∧ Paired ClsV cs us ∧ PySem.W.kitAny K (.ref C) us = some b ∧ Q (.bl b) H
abbrev rIntB : List V → Hp → VK → Prop := fun xs H Q => (∃ i, xs = [V.int i] ∧ Q (V.int i) H) ∨ ∃ k, xs = [V.bl k] ∧ Q (V.int (if k = true then 1 else 0)) H
/-- the suite of the law's try -/
abbrev ts_read (K : PySem.W.Frag) (C C1 C2 C3 : Addr) (i : Nat) : Addr → Value → Option Addr → TS := fun a cls d =>
  tSeq (tIfS (tOr (tNot (tB (tCB (rIsE K C a cls d) (tCons (tVar i) (tCons (tC (.ref C)) tNil))))) (tB (tCB (rIsET K C a cls d) (tCons (tVar i) (tCons (tTup (tCons (tC (.ref C1)) (tCons (tC (.ref C2)) (tCons (tC (.ref C3)) tNil)))) tNil))))) (tRet (tC .non)) tNext)
    (tRet (tSl (rSlL K) (tLst (tCons (tC .non) tNil)) tNoPart (tPart (tCB rIntB (tCons (tOp rNe (tLine C a cls d (tVar i)) (tC (V.int 1))) tNil)))))
theorem hts_read {c : Cfg} {mg : Str → Option Value} {C C0 C1 C2 C3 : Addr} {i : Nat} (EX : ErrC c.K mg C C0 C1 C2 C3) (hC : ∀ k, c.cls k = C)
    (e : Er) (a : Addr) (cls : Value) (d : Option Addr) (D : Ends) (ρ : Env) (σ : L2.St) (H : Hp) (μ : List Addr) (s : Sto) (fl : Fl) (s' : Sto) (hc : caught_law_read e.k = true) (re : RE c H μ ρ σ) (rs : RS c μ s H) (rx : RX c H μ e cls d) (na : H a = none) (hi : σ[i]? = some (some (.ref a))) (hm : msu_law_read e ρ s = some (fl, s')) (q : fin c (fun _ _ _ _ => False) D μ H fl s') : ts_read c.K C C1 C2 C3 i a cls d D σ H := by
  obtain ⟨rc, rx⟩ := rx
  rw [hC] at rc
  subst rc
  unfold msu_law_read at hm
  split at hm
  · rename_i l el
    rw [el] at rx
    obtain ⟨dd, v, rfl, hd, rv⟩ := rx
    cases (show v = _ from rv)
    split at hm
    · rename_i hl
      subst hl
      cases hm
      refine ⟨_, hi, .ref C, .ref C, true, dd, _, rfl, rfl, rfl, hd, .own C, EX.own, true, rfl, ?_⟩
      refine ite2 (fun e => nomatch e) (fun _ => ?_)
      refine ⟨_, hi, by show 3 ≤ sizeLine; decide, fun tp ntp => ?_⟩
      have nd : dd ≠ tp := ne_of_none hd ntp
      have any : PySem.W.kitAny c.K (.ref C) [.ref C1, .ref C2, .ref C3] = some false :=
        kitAny_cons EX.n1 (fun _ => kitAny_cons EX.n2 (fun _ => kitAny_cons EX.n3 (fun _ => kitAny_nil) (fun h => nomatch h)) (fun h => nomatch h)) (fun h => nomatch h)
      refine ⟨tp, _, _, false, dd, _, rfl, rfl, rfl, by rw [upd_ne nd]; exact hd, upd_same, .cons (.own C1) (.cons (.own C2) (.cons (.own C3) .nil)), any, false, rfl, ?_⟩
      refine ite2 (fun e => nomatch e) (fun _ => ?_)
      refine ⟨by show 1 ≤ sizeLine; decide, fun p1 np1 => ?_⟩
      have nd1 : dd ≠ p1 := ne_of_none (by rw [upd_ne nd]; exact hd) np1
      refine ⟨_, hi, rfl, rfl, dd, _, rfl, by rw [upd_ne nd1, upd_ne nd]; exact hd, rfl, .inr ⟨_, rfl, _, rfl, ?_⟩⟩
      refine ⟨p1, _, rfl, SqL.of upd_same, fun p2 np2 => ?_⟩
      have rs1 := rs.new (o := .tup [V.ref C1, V.ref C2, V.ref C3]) ntp
      have rs2 := rs1.new (o := .lst [V.non]) np1
      have g2 := (Go.new (μ := μ) (o := .tup [V.ref C1, V.ref C2, V.ref C3]) ntp).trans (Go.new (μ := μ) (o := .lst [V.non]) np1)
      obtain ⟨g3, rs3, rv3⟩ := rs2.alloc np2 (ws := []) (vs := []) rfl
      exact q _ _ (g2.trans g3) rs3 _ rv3
    · cases hm
  · cases hm
/-- the def that raises -/
theorem ok_fail' {c : Cfg} {P : Program} {w : World} {mg : Str → Option Value} {base : Heap} {C fI a : Addr} {d : FuncData} {st : Stmt} (hst : st = FL.s_fail) (D : DefAt c.K mg "fail" st [] a d) (TX : PySem.TeX.TeTxt P c.K mg C fI) (hC : c.cls 0 = C) :
    FnOk P w c.K mg base (L2.CX P w) 3 a d [] (spM c h_fail) := by
  subst hst
  refine (FL.ok_fail (P := P) (w := w) (base := base) ⟨D.F, D.m, D.b⟩ TX).imp fun vs H Q E h => ?_
  obtain ⟨ws, μ, s, rv, rs, h⟩ := h
  unfold h_fail at h
  split at h
  · rename_i hl
    refine ⟨List.length_eq_zero_iff.mp (rv.len.trans hl), fun dd H' hs hd => ?_⟩
    exact h μ H' _ _ (Same.go hs) (rs.same hs) ⟨congrArg Value.ref hC.symm, dd, _, rfl, hd, rfl⟩
  · exact h.elim
end ME

set_option Elab.async false
set_option linter.all false
set_option maxRecDepth 100000
set_option maxHeartbeats 4000000
namespace ME
open PySem PySem.Spec PyProof.Rows L2
section
variable {P : Program} {w : World} {mg : Str → Option Value} {base : Heap} {c : Cfg}
abbrev N_divisor : List Str := ["a", "b"]
theorem sc_divisor : FnScope N_divisor ["a", "b"] (defScope s_divisor) := ⟨rfl, rfl, rfl, by decide +kernel, rfl, by decide +kernel, by decide +kernel⟩
theorem ok_divisor {a_divisor : Addr} {d_divisor : FuncData} (D_divisor : DefAt c.K mg "divisor" s_divisor ["a", "b"] a_divisor d_divisor)
    (z_abs : mg "abs" = none) :
    FnOk P w c.K mg base (L2.CX P w) 1 a_divisor d_divisor ["a", "b"] (spM c f_divisor) :=
  okM D_divisor.F sc_divisor fun cdv A outer s H E hr G tk =>
      (sss_cons (ss_set (ps_set (i := 0) sc_divisor.nd rfl (Or.inl rfl) (se_cb (pe_callB cr_abs' (by rfl) z_abs (by decide +kernel) (sa_cons (pa_cons (se_var (pv 0)) sa_nil))))))
      (sss_cons (ss_set (ps_set (i := 1) sc_divisor.nd rfl (Or.inl rfl) (se_cb (pe_callB cr_abs' (by rfl) z_abs (by decide +kernel) (sa_cons (pa_cons (se_var (pv 1)) sa_nil))))))
      (sss_cons (ss_while (ps_while (passes_of rfl) (st_op (pt_cmpR (op_ne' G.hu64 G.hK) (se_var (pv 1)) (se_con (w := .int 0) pe_int (fun _ _ => rfl)) (nomark _)))
      (sss_one (ss_par (ps_par (i := 0) (j := 1) (by rfl) sc_divisor.nd rfl rfl (by decide) rfl rfl (sa_cons (pa_cons (se_var (pv 1)) (sa_cons (pa_cons (se_op (pe_op op_mod' (se_var (pv 0)) (se_var (pv 1)))) sa_nil)))) (by rfl))))))
      (sss_one (ss_ret (ps_ret (se_var (pv 0))))))))
abbrev N_is_prime : List Str := ["n", "k"]
theorem sc_is_prime : FnScope N_is_prime ["n"] (defScope s_is_prime) := ⟨rfl, rfl, rfl, by decide +kernel, rfl, by decide +kernel, by decide +kernel⟩
theorem ok_is_prime {a_is_prime : Addr} {d_is_prime : FuncData} (D_is_prime : DefAt c.K mg "is_prime" s_is_prime ["n"] a_is_prime d_is_prime) :
    FnOk P w c.K mg base (L2.CX P w) 1 a_is_prime d_is_prime ["n"] (spM c f_is_prime) :=
  okM D_is_prime.F sc_is_prime fun cdv A outer s H E hr G tk =>
      (sss_cons (ss_if (ps_if (st_op (pt_cmpR op_lt' (se_var (pv 0)) (se_con (w := .int 4) pe_int (fun _ _ => rfl)) (nomark _)))
      (sss_one (ss_ret (ps_ret (se_op (pe_cmpR op_gt' (se_var (pv 0)) (se_con (w := .int 1) pe_int (fun _ _ => rfl)) (nomark _))))))
      sss_nil))
      (sss_cons (ss_if (ps_if (st_op (pt_cmpR (op_eq' G.hu64 G.hK) (se_op (pe_op op_mod' (se_var (pv 0)) (se_con (w := .int 2) pe_int (fun _ _ => rfl)))) (se_con (w := .int 0) pe_int (fun _ _ => rfl)) (nomark _)))
      (sss_one (ss_ret (ps_ret (se_con (w := .bl false) pe_bl (fun _ _ => rfl)))))
      sss_nil))
      (sss_cons (ss_set (ps_set (i := 1) sc_is_prime.nd rfl (Or.inl rfl) (se_con (w := .int 3) pe_int (fun _ _ => rfl))))
      (sss_cons (ss_while (ps_while (passes_of rfl) (st_op (pt_cmpR op_le' (se_op (pe_op (op_mul' G.hK) (se_var (pv 1)) (se_var (pv 1)))) (se_var (pv 0)) (nomark _)))
      (sss_cons (ss_if (ps_if (st_op (pt_cmpR (op_eq' G.hu64 G.hK) (se_op (pe_op op_mod' (se_var (pv 0)) (se_var (pv 1)))) (se_con (w := .int 0) pe_int (fun _ _ => rfl)) (nomark _)))
      (sss_one (ss_ret (ps_ret (se_con (w := .bl false) pe_bl (fun _ _ => rfl)))))
      sss_nil))
      (sss_one (ss_aug (ps_aug (i := 1) sc_is_prime.nd rfl (Or.inl rfl) (se_con (w := .int 2) pe_int (fun _ _ => rfl)) ip_add'))))))
      (sss_one (ss_ret (ps_ret (se_con (w := .bl true) pe_bl (fun _ _ => rfl)))))))))
abbrev N_is_integer : List Str := ["x"]
theorem sc_is_integer : FnScope N_is_integer ["x"] (defScope s_is_integer) := ⟨rfl, rfl, rfl, by decide +kernel, rfl, by decide +kernel, by decide +kernel⟩
theorem ok_is_integer {a_is_integer : Addr} {d_is_integer : FuncData} (D_is_integer : DefAt c.K mg "is_integer" s_is_integer ["x"] a_is_integer d_is_integer)
    (z_isinstance : mg "isinstance" = none)
    (z_bool : mg "bool" = none)
    (z_int : mg "int" = none) :
    FnOk P w c.K mg base (L2.CX P w) 1 a_is_integer d_is_integer ["x"] (spM c f_is_integer) :=
  okM D_is_integer.F sc_is_integer fun cdv A outer s H E hr G tk =>
      (sss_one (ss_ret (ps_ret (se_andT G.hK (pe_andT (se_isi G.hK (pe_callB call_isi (by rfl) z_isinstance (by decide +kernel) (pa_cons (se_var (pv 0)) (pa_cons (pe_bltn (v := .ty "int") (by rfl) z_int (by decide +kernel) rfl) pa_nil)))) (pe_one (se_notT G.hK (pe_notT (se_isi G.hK (pe_callB call_isi (by rfl) z_isinstance (by decide +kernel) (pa_cons (se_var (pv 0)) (pa_cons (pe_bltn (v := .ty "bool") (by rfl) z_bool (by decide +kernel) rfl) pa_nil))))))))))))
abbrev N_is_field : List Str := ["d"]
theorem sc_is_field : FnScope N_is_field ["d"] (defScope s_is_field) := ⟨rfl, rfl, rfl, by decide +kernel, rfl, by decide +kernel, by decide +kernel⟩
theorem ok_is_field {a_is_field a_is_prime a_is_integer : Addr} {d_is_field d_is_prime d_is_integer : FuncData} {tk_MOST_PRIME : Tok} (D_is_field : DefAt c.K mg "is_field" s_is_field ["d"] a_is_field d_is_field)
    (D_is_prime : DefAt c.K mg "is_prime" s_is_prime ["n"] a_is_prime d_is_prime)
    (D_is_integer : DefAt c.K mg "is_integer" s_is_integer ["x"] a_is_integer d_is_integer)
    (z_len : mg "len" = none)
    (z_isinstance : mg "isinstance" = none)
    (z_str : mg "str" = none)
    (z_tuple : mg "tuple" = none)
    (c_MOST_PRIME : mg "MOST_PRIME" = some (.int 65521 tk_MOST_PRIME))
    (G_is_prime : FnOk P w c.K mg base (L2.CX P w) 1 a_is_prime d_is_prime ["n"] (spM c f_is_prime))
    (G_is_integer : FnOk P w c.K mg base (L2.CX P w) 1 a_is_integer d_is_integer ["x"] (spM c f_is_integer)) :
    FnOk P w c.K mg base (L2.CX P w) 2 a_is_field d_is_field ["d"] (spM c f_is_field) :=
  okM D_is_field.F sc_is_field fun cdv A outer s H E hr G tk =>
      (sss_cons (ss_if (ps_if (PW.pt (sw_or (pw_or (st_not (pt_not (tru_ok' G.hK (pt_truth (se_isi G.hK (pe_callB call_isi (by rfl) z_isinstance (by decide +kernel) (pa_cons (se_var (pv 0)) (pa_cons (pe_bltn (v := .ty "tuple") (by rfl) z_tuple (by decide +kernel) rfl) pa_nil)))) (by intro _; rfl))))) (sw_or (pw_or (st_op (pt_cmpR (op_eq' G.hu64 G.hK) (se_cb (pe_callB (cr_len' G.hK) (by rfl) z_len (by decide +kernel) (sa_cons (pa_cons (se_var (pv 0)) sa_nil)))) (se_con (w := .int 0) pe_int (fun _ _ => rfl)) (nomark _))) (pw_or1 (st_not (pt_not (tru_ok' G.hK (pt_truth (se_isi G.hK (pe_callB call_isi (by rfl) z_isinstance (by decide +kernel) (pa_cons (se_op (pe_ix (ix_ok' G.hK) (se_var (pv 0)) (se_con (w := .int 0) pe_int (fun _ _ => rfl)) (fun _ _ => rfl))) (pa_cons (pe_bltn (v := .ty "str") (by rfl) z_str (by decide +kernel) rfl) pa_nil)))) (by intro _; rfl)))))))))))
      (sss_one (ss_ret (ps_ret (se_con (w := .bl false) pe_bl (fun _ _ => rfl)))))
      sss_nil))
      (sss_cons (ss_if (ps_if (st_op (pt_cmpR (op_eq' G.hu64 G.hK) (se_op (pe_ix (ix_ok' G.hK) (se_var (pv 0)) (se_con (w := .int 0) pe_int (fun _ _ => rfl)) (fun _ _ => rfl))) (se_con (w := .str [81]) pe_str (fun _ _ => congrArg V.str (by decide +kernel))) (nomark _)))
      (sss_one (ss_ret (ps_ret (se_op (pe_cmpR (op_eq' G.hu64 G.hK) (se_cb (pe_callB (cr_len' G.hK) (by rfl) z_len (by decide +kernel) (sa_cons (pa_cons (se_var (pv 0)) sa_nil)))) (se_con (w := .int 1) pe_int (fun _ _ => rfl)) (nomark _))))))
      sss_nil))
      (sss_one (ss_ret (ps_ret (se_andT G.hK (pe_andT (se_op (pe_cmpR (op_eq' G.hu64 G.hK) (se_op (pe_ix (ix_ok' G.hK) (se_var (pv 0)) (se_con (w := .int 0) pe_int (fun _ _ => rfl)) (fun _ _ => rfl))) (se_con (w := .str [70]) pe_str (fun _ _ => congrArg V.str (by decide +kernel))) (nomark _))) (se_andT G.hK (pe_andT (se_op (pe_cmpR (op_eq' G.hu64 G.hK) (se_cb (pe_callB (cr_len' G.hK) (by rfl) z_len (by decide +kernel) (sa_cons (pa_cons (se_var (pv 0)) sa_nil)))) (se_con (w := .int 2) pe_int (fun _ _ => rfl)) (nomark _))) (se_andT G.hK (pe_andT (se_call (pe_callS G_is_integer (hr.mono (by omega)) (by rfl) D_is_integer.m D_is_integer.F.kp D_is_integer.b (fun σ => (G.lets σ).fly) (sa_cons (pa_cons (se_op (pe_ix (ix_ok' G.hK) (se_var (pv 0)) (se_con (w := .int 1) pe_int (fun _ _ => rfl)) (fun _ _ => rfl))) sa_nil)))) (se_andT G.hK (pe_andT (se_chain (pe_chain op_lt' op_le' (se_con (w := .int 1) pe_int (fun _ _ => rfl)) (se_op (pe_ix (ix_ok' G.hK) (se_var (pv 0)) (se_con (w := .int 1) pe_int (fun _ _ => rfl)) (fun _ _ => rfl))) (se_con (w := .int 65521) (pe_glob (v := .int 65521) (by rfl) c_MOST_PRIME ⟨_, rfl⟩) (fun _ _ => rfl)))) (pe_one (se_call (pe_callS G_is_prime (hr.mono (by omega)) (by rfl) D_is_prime.m D_is_prime.F.kp D_is_prime.b (fun σ => (G.lets σ).fly) (sa_cons (pa_cons (se_op (pe_ix (ix_ok' G.hK) (se_var (pv 0)) (se_con (w := .int 1) pe_int (fun _ _ => rfl)) (fun _ _ => rfl))) sa_nil))))))))))))))))))
abbrev N_is_domain : List Str := ["d"]
theorem sc_is_domain : FnScope N_is_domain ["d"] (defScope s_is_domain) := ⟨rfl, rfl, rfl, by decide +kernel, rfl, by decide +kernel, by decide +kernel⟩
theorem ok_is_domain {a_is_domain a_is_field : Addr} {d_is_domain d_is_field : FuncData} (D_is_domain : DefAt c.K mg "is_domain" s_is_domain ["d"] a_is_domain d_is_domain)
    (D_is_field : DefAt c.K mg "is_field" s_is_field ["d"] a_is_field d_is_field)
    (z_len : mg "len" = none)
    (z_isinstance : mg "isinstance" = none)
    (z_str : mg "str" = none)
    (z_tuple : mg "tuple" = none)
    (G_is_field : FnOk P w c.K mg base (L2.CX P w) 2 a_is_field d_is_field ["d"] (spM c f_is_field)) :
    FnOk P w c.K mg base (L2.CX P w) 3 a_is_domain d_is_domain ["d"] (spM c f_is_domain) :=
  okM D_is_domain.F sc_is_domain fun cdv A outer s H E hr G tk =>
      (sss_cons (ss_if (ps_if (PW.pt (sw_or (pw_or (st_not (pt_not (tru_ok' G.hK (pt_truth (se_isi G.hK (pe_callB call_isi (by rfl) z_isinstance (by decide +kernel) (pa_cons (se_var (pv 0)) (pa_cons (pe_bltn (v := .ty "tuple") (by rfl) z_tuple (by decide +kernel) rfl) pa_nil)))) (by intro _; rfl))))) (sw_or (pw_or (st_op (pt_cmpR (op_eq' G.hu64 G.hK) (se_cb (pe_callB (cr_len' G.hK) (by rfl) z_len (by decide +kernel) (sa_cons (pa_cons (se_var (pv 0)) sa_nil)))) (se_con (w := .int 0) pe_int (fun _ _ => rfl)) (nomark _))) (pw_or1 (st_not (pt_not (tru_ok' G.hK (pt_truth (se_isi G.hK (pe_callB call_isi (by rfl) z_isinstance (by decide +kernel) (pa_cons (se_op (pe_ix (ix_ok' G.hK) (se_var (pv 0)) (se_con (w := .int 0) pe_int (fun _ _ => rfl)) (fun _ _ => rfl))) (pa_cons (pe_bltn (v := .ty "str") (by rfl) z_str (by decide +kernel) rfl) pa_nil)))) (by intro _; rfl)))))))))))
      (sss_one (ss_ret (ps_ret (se_con (w := .bl false) pe_bl (fun _ _ => rfl)))))
      sss_nil))
      (sss_cons (ss_if (ps_if (st_op (pt_cmpR (op_eq' G.hu64 G.hK) (se_op (pe_ix (ix_ok' G.hK) (se_var (pv 0)) (se_con (w := .int 0) pe_int (fun _ _ => rfl)) (fun _ _ => rfl))) (se_con (w := .str [80]) pe_str (fun _ _ => congrArg V.str (by decide +kernel))) (nomark _)))
      (sss_one (ss_ret (ps_ret (se_andT G.hK (pe_andT (se_op (pe_cmpR (op_eq' G.hu64 G.hK) (se_cb (pe_callB (cr_len' G.hK) (by rfl) z_len (by decide +kernel) (sa_cons (pa_cons (se_var (pv 0)) sa_nil)))) (se_con (w := .int 2) pe_int (fun _ _ => rfl)) (nomark _))) (pe_one (se_call (pe_callS G_is_field (hr.mono (by omega)) (by rfl) D_is_field.m D_is_field.F.kp D_is_field.b (fun σ => (G.lets σ).fly) (sa_cons (pa_cons (se_op (pe_ix (ix_ok' G.hK) (se_var (pv 0)) (se_con (w := .int 1) pe_int (fun _ _ => rfl)) (fun _ _ => rfl))) sa_nil))))))))))
      sss_nil))
      (sss_one (ss_ret (ps_ret (se_orT G.hK (pe_orT (se_op (pe_cmpR (op_eq' G.hu64 G.hK) (se_var (pv 0)) (se_tup (pe_tup (sa_cons (pa_cons (se_con (w := .str [90]) pe_str (fun _ _ => congrArg V.str (by decide +kernel))) sa_nil)))) (nomark _))) (pe_one (se_call (pe_callS G_is_field (hr.mono (by omega)) (by rfl) D_is_field.m D_is_field.F.kp D_is_field.b (fun σ => (G.lets σ).fly) (sa_cons (pa_cons (se_var (pv 0)) sa_nil))))))))))))
abbrev N_need_domain : List Str := ["d"]
theorem sc_need_domain : FnScope N_need_domain ["d"] (defScope s_need_domain) := ⟨rfl, rfl, rfl, by decide +kernel, rfl, by decide +kernel, by decide +kernel⟩
theorem ok_need_domain {a_need_domain a_is_domain : Addr} {d_need_domain d_is_domain : FuncData} (D_need_domain : DefAt c.K mg "need_domain" s_need_domain ["d"] a_need_domain d_need_domain)
    (D_is_domain : DefAt c.K mg "is_domain" s_is_domain ["d"] a_is_domain d_is_domain)
    (G_is_domain : FnOk P w c.K mg base (L2.CX P w) 3 a_is_domain d_is_domain ["d"] (spM c f_is_domain)) :
    FnOk P w c.K mg base (L2.CX P w) 4 a_need_domain d_need_domain ["d"] (spM c f_need_domain) :=
  okM D_need_domain.F sc_need_domain fun cdv A outer s H E hr G tk =>
      (sss_one (ss_if (ps_if (st_not (pt_not (tru_ok' G.hK (pt_truth (se_call (pe_callS G_is_domain (hr.mono (by omega)) (by rfl) D_is_domain.m D_is_domain.F.kp D_is_domain.b (fun σ => (G.lets σ).fly) (sa_cons (pa_cons (se_var (pv 0)) sa_nil)))) (by intro _; rfl)))))
      (sss_one (ss_never ps_never))
      sss_nil)))
abbrev N_zero : List Str := ["d"]
theorem sc_zero : FnScope N_zero ["d"] (defScope s_zero) := ⟨rfl, rfl, rfl, by decide +kernel, rfl, by decide +kernel, by decide +kernel⟩
theorem ok_zero {a_zero : Addr} {d_zero : FuncData} (D_zero : DefAt c.K mg "zero" s_zero ["d"] a_zero d_zero) :
    FnOk P w c.K mg base (L2.CX P w) 1 a_zero d_zero ["d"] (spM c f_zero) :=
  okM D_zero.F sc_zero fun cdv A outer s H E hr G tk =>
      (sss_cons (ss_if (ps_if (st_op (pt_cmpR (op_eq' G.hu64 G.hK) (se_op (pe_ix (ix_ok' G.hK) (se_var (pv 0)) (se_con (w := .int 0) pe_int (fun _ _ => rfl)) (fun _ _ => rfl))) (se_con (w := .str [81]) pe_str (fun _ _ => congrArg V.str (by decide +kernel))) (nomark _)))
      (sss_one (ss_ret (ps_ret (se_tup (pe_tup (sa_cons (pa_cons (se_con (w := .int 0) pe_int (fun _ _ => rfl)) (sa_cons (pa_cons (se_con (w := .int 1) pe_int (fun _ _ => rfl)) sa_nil)))))))))
      sss_nil))
      (sss_one (ss_ret (ps_ret (se_ifExp (pe_ifExp (st_op (pt_cmpR (op_eq' G.hu64 G.hK) (se_op (pe_ix (ix_ok' G.hK) (se_var (pv 0)) (se_con (w := .int 0) pe_int (fun _ _ => rfl)) (fun _ _ => rfl))) (se_con (w := .str [80]) pe_str (fun _ _ => congrArg V.str (by decide +kernel))) (nomark _))) (se_tup (pe_tup sa_nil)) (se_con (w := .int 0) pe_int (fun _ _ => rfl))))))))
abbrev N_belongs : List Str := ["d", "x", "part"]
theorem sc_belongs : FnScope N_belongs ["d", "x"] (defScope s_belongs) := ⟨rfl, rfl, rfl, by decide +kernel, rfl, by decide +kernel, by decide +kernel⟩
theorem oks_belongs {a_belongs a_zero a_divisor a_is_integer : Addr} {d_belongs d_zero d_divisor d_is_integer : FuncData} (D_belongs : DefAt c.K mg "belongs" s_belongs ["d", "x"] a_belongs d_belongs)
    (D_zero : DefAt c.K mg "zero" s_zero ["d"] a_zero d_zero)
    (D_divisor : DefAt c.K mg "divisor" s_divisor ["a", "b"] a_divisor d_divisor)
    (D_is_integer : DefAt c.K mg "is_integer" s_is_integer ["x"] a_is_integer d_is_integer)
    (z_len : mg "len" = none)
    (z_isinstance : mg "isinstance" = none)
    (z_tuple : mg "tuple" = none)
    (G_zero : FnOk P w c.K mg base (L2.CX P w) 1 a_zero d_zero ["d"] (spM c f_zero))
    (G_divisor : FnOk P w c.K mg base (L2.CX P w) 1 a_divisor d_divisor ["a", "b"] (spM c f_divisor))
    (G_is_integer : FnOk P w c.K mg base (L2.CX P w) 1 a_is_integer d_is_integer ["x"] (spM c f_is_integer)) :
    ∀ n : Nat, (FnOk P w c.K mg base (L2.CX P w) (1 + n) a_belongs d_belongs ["d", "x"] (spM c (f_belongs n)))
  | 0 => (none_left (fun vs H Q E h => spM_no h)).mono (Nat.zero_le _)
  | n + 1 => by
    have ih := oks_belongs D_belongs D_zero D_divisor D_is_integer z_len z_isinstance z_tuple G_zero G_divisor G_is_integer n
    have G_belongs := ih
    exact okM D_belongs.F sc_belongs (k := 1 + n) fun cdv A outer s H E hr G tk =>
      (sss_cons (ss_if (ps_if (st_op (pt_cmpR (op_eq' G.hu64 G.hK) (se_op (pe_ix (ix_ok' G.hK) (se_var (pv 0)) (se_con (w := .int 0) pe_int (fun _ _ => rfl)) (fun _ _ => rfl))) (se_con (w := .str [90]) pe_str (fun _ _ => congrArg V.str (by decide +kernel))) (nomark _)))
      (sss_one (ss_ret (ps_ret (se_call (pe_callS G_is_integer (hr.mono (by omega)) (by rfl) D_is_integer.m D_is_integer.F.kp D_is_integer.b (fun σ => (G.lets σ).fly) (sa_cons (pa_cons (se_var (pv 1)) sa_nil)))))))
      sss_nil))
      (sss_cons (ss_if (ps_if (st_op (pt_cmpR (op_eq' G.hu64 G.hK) (se_op (pe_ix (ix_ok' G.hK) (se_var (pv 0)) (se_con (w := .int 0) pe_int (fun _ _ => rfl)) (fun _ _ => rfl))) (se_con (w := .str [70]) pe_str (fun _ _ => congrArg V.str (by decide +kernel))) (nomark _)))
      (sss_one (ss_ret (ps_ret (se_andT G.hK (pe_andT (se_call (pe_callS G_is_integer (hr.mono (by omega)) (by rfl) D_is_integer.m D_is_integer.F.kp D_is_integer.b (fun σ => (G.lets σ).fly) (sa_cons (pa_cons (se_var (pv 1)) sa_nil)))) (pe_one (se_chain (pe_chain op_le' op_lt' (se_con (w := .int 0) pe_int (fun _ _ => rfl)) (se_var (pv 1)) (se_op (pe_ix (ix_ok' G.hK) (se_var (pv 0)) (se_con (w := .int 1) pe_int (fun _ _ => rfl)) (fun _ _ => rfl)))))))))))
      sss_nil))
      (sss_cons (ss_if (ps_if (st_not (pt_not (tru_ok' G.hK (pt_truth (se_isi G.hK (pe_callB call_isi (by rfl) z_isinstance (by decide +kernel) (pa_cons (se_var (pv 1)) (pa_cons (pe_bltn (v := .ty "tuple") (by rfl) z_tuple (by decide +kernel) rfl) pa_nil)))) (by intro _; rfl)))))
      (sss_one (ss_ret (ps_ret (se_con (w := .bl false) pe_bl (fun _ _ => rfl)))))
      sss_nil))
      (sss_cons (ss_if (ps_if (st_op (pt_cmpR (op_eq' G.hu64 G.hK) (se_op (pe_ix (ix_ok' G.hK) (se_var (pv 0)) (se_con (w := .int 0) pe_int (fun _ _ => rfl)) (fun _ _ => rfl))) (se_con (w := .str [81]) pe_str (fun _ _ => congrArg V.str (by decide +kernel))) (nomark _)))
      (sss_cons (ss_if (ps_if (PW.pt (sw_or (pw_or (st_op (pt_cmpR (op_ne' G.hu64 G.hK) (se_cb (pe_callB (cr_len' G.hK) (by rfl) z_len (by decide +kernel) (sa_cons (pa_cons (se_var (pv 1)) sa_nil)))) (se_con (w := .int 2) pe_int (fun _ _ => rfl)) (nomark _))) (sw_or (pw_or (st_not (pt_not (tru_ok' G.hK (pt_truth (se_call (pe_callS G_is_integer (hr.mono (by omega)) (by rfl) D_is_integer.m D_is_integer.F.kp D_is_integer.b (fun σ => (G.lets σ).fly) (sa_cons (pa_cons (se_op (pe_ix (ix_ok' G.hK) (se_var (pv 1)) (se_con (w := .int 0) pe_int (fun _ _ => rfl)) (fun _ _ => rfl))) sa_nil)))) (by intro _; rfl))))) (sw_or (pw_or (st_not (pt_not (tru_ok' G.hK (pt_truth (se_call (pe_callS G_is_integer (hr.mono (by omega)) (by rfl) D_is_integer.m D_is_integer.F.kp D_is_integer.b (fun σ => (G.lets σ).fly) (sa_cons (pa_cons (se_op (pe_ix (ix_ok' G.hK) (se_var (pv 1)) (se_con (w := .int 1) pe_int (fun _ _ => rfl)) (fun _ _ => rfl))) sa_nil)))) (by intro _; rfl))))) (pw_or1 (st_op (pt_cmpR op_lt' (se_op (pe_ix (ix_ok' G.hK) (se_var (pv 1)) (se_con (w := .int 1) pe_int (fun _ _ => rfl)) (fun _ _ => rfl))) (se_con (w := .int 1) pe_int (fun _ _ => rfl)) (nomark _)))))))))))
      (sss_one (ss_ret (ps_ret (se_con (w := .bl false) pe_bl (fun _ _ => rfl)))))
      sss_nil))
      (sss_one (ss_ret (ps_ret (se_op (pe_cmpR (op_eq' G.hu64 G.hK) (se_call (pe_callS G_divisor (hr.mono (by omega)) (by rfl) D_divisor.m D_divisor.F.kp D_divisor.b (fun σ => (G.lets σ).fly) (sa_cons (pa_cons (se_op (pe_ix (ix_ok' G.hK) (se_var (pv 1)) (se_con (w := .int 0) pe_int (fun _ _ => rfl)) (fun _ _ => rfl))) (sa_cons (pa_cons (se_op (pe_ix (ix_ok' G.hK) (se_var (pv 1)) (se_con (w := .int 1) pe_int (fun _ _ => rfl)) (fun _ _ => rfl))) sa_nil)))))) (se_con (w := .int 1) pe_int (fun _ _ => rfl)) (nomark _)))))))
      sss_nil))
      (sss_cons (ss_for (ps_for (passes_of rfl) rfl (si_val G.hK (se_var (pv 1))) (sg_name (pg_name (i := 2) sc_belongs.nd rfl (Or.inl rfl)))
      (sss_one (ss_if (ps_if (st_not (pt_not (tru_ok' G.hK (pt_truth (se_call (pe_callS G_belongs (hr.mono (by omega)) (by rfl) D_belongs.m D_belongs.F.kp D_belongs.b (fun σ => (G.lets σ).fly) (sa_cons (pa_cons (se_op (pe_ix (ix_ok' G.hK) (se_var (pv 0)) (se_con (w := .int 1) pe_int (fun _ _ => rfl)) (fun _ _ => rfl))) (sa_cons (pa_cons (se_var (pv 2)) sa_nil)))))) (by intro _; rfl)))))
      (sss_one (ss_ret (ps_ret (se_con (w := .bl false) pe_bl (fun _ _ => rfl)))))
      sss_nil)))))
      (sss_one (ss_ret (ps_ret (se_orT G.hK (pe_orT (se_op (pe_cmpR (op_eq' G.hu64 G.hK) (se_cb (pe_callB (cr_len' G.hK) (by rfl) z_len (by decide +kernel) (sa_cons (pa_cons (se_var (pv 1)) sa_nil)))) (se_con (w := .int 0) pe_int (fun _ _ => rfl)) (nomark _))) (pe_one (se_op (pe_cmpR (op_ne' G.hu64 G.hK) (se_op (pe_ix (ix_ok' G.hK) (se_var (pv 1)) (se_un (pe_un un_neg' (se_con (w := .int 1) pe_int (fun _ _ => rfl)))) (fun _ _ => rfl))) (se_call (pe_callS G_zero (hr.mono (by omega)) (by rfl) D_zero.m D_zero.F.kp D_zero.b (fun σ => (G.lets σ).fly) (sa_cons (pa_cons (se_op (pe_ix (ix_ok' G.hK) (se_var (pv 0)) (se_con (w := .int 1) pe_int (fun _ _ => rfl)) (fun _ _ => rfl))) sa_nil)))) (nomark _))))))))))))))
abbrev N_is_element : List Str := ["d", "x"]
theorem sc_is_element : FnScope N_is_element ["d", "x"] (defScope s_is_element) := ⟨rfl, rfl, rfl, by decide +kernel, rfl, by decide +kernel, by decide +kernel⟩
theorem ok_is_element {a_is_element a_belongs a_need_domain : Addr} {d_is_element d_belongs d_need_domain : FuncData} (D_is_element : DefAt c.K mg "is_element" s_is_element ["d", "x"] a_is_element d_is_element)
    (D_belongs : DefAt c.K mg "belongs" s_belongs ["d", "x"] a_belongs d_belongs)
    (D_need_domain : DefAt c.K mg "need_domain" s_need_domain ["d"] a_need_domain d_need_domain)
    (G_belongs : FnOk P w c.K mg base (L2.CX P w) 7 a_belongs d_belongs ["d", "x"] (spM c (f_belongs 6)))
    (G_need_domain : FnOk P w c.K mg base (L2.CX P w) 4 a_need_domain d_need_domain ["d"] (spM c f_need_domain)) :
    FnOk P w c.K mg base (L2.CX P w) 8 a_is_element d_is_element ["d", "x"] (spM c f_is_element) :=
  okM D_is_element.F sc_is_element fun cdv A outer s H E hr G tk =>
      (sss_cons (ss_expr (ps_expr (se_call (pe_callS G_need_domain (hr.mono (by omega)) (by rfl) D_need_domain.m D_need_domain.F.kp D_need_domain.b (fun σ => (G.lets σ).fly) (sa_cons (pa_cons (se_var (pv 0)) sa_nil))))))
      (sss_one (ss_ret (ps_ret (se_call (pe_callS G_belongs (hr.mono (by omega)) (by rfl) D_belongs.m D_belongs.F.kp D_belongs.b (fun σ => (G.lets σ).fly) (sa_cons (pa_cons (se_var (pv 0)) (sa_cons (pa_cons (se_var (pv 1)) sa_nil))))))))))
abbrev N_is_matrix : List Str := ["d", "a", "row", "x"]
theorem sc_is_matrix : FnScope N_is_matrix ["d", "a"] (defScope s_is_matrix) := ⟨rfl, rfl, rfl, by decide +kernel, rfl, by decide +kernel, by decide +kernel⟩
theorem ok_is_matrix {a_is_matrix a_belongs a_is_integer a_need_domain : Addr} {d_is_matrix d_belongs d_is_integer d_need_domain : FuncData} (D_is_matrix : DefAt c.K mg "is_matrix" s_is_matrix ["d", "a"] a_is_matrix d_is_matrix)
    (D_belongs : DefAt c.K mg "belongs" s_belongs ["d", "x"] a_belongs d_belongs)
    (D_is_integer : DefAt c.K mg "is_integer" s_is_integer ["x"] a_is_integer d_is_integer)
    (D_need_domain : DefAt c.K mg "need_domain" s_need_domain ["d"] a_need_domain d_need_domain)
    (z_len : mg "len" = none)
    (z_isinstance : mg "isinstance" = none)
    (z_tuple : mg "tuple" = none)
    (G_belongs : FnOk P w c.K mg base (L2.CX P w) 7 a_belongs d_belongs ["d", "x"] (spM c (f_belongs 6)))
    (G_is_integer : FnOk P w c.K mg base (L2.CX P w) 1 a_is_integer d_is_integer ["x"] (spM c f_is_integer))
    (G_need_domain : FnOk P w c.K mg base (L2.CX P w) 4 a_need_domain d_need_domain ["d"] (spM c f_need_domain)) :
    FnOk P w c.K mg base (L2.CX P w) 8 a_is_matrix d_is_matrix ["d", "a"] (spM c f_is_matrix) :=
  okM D_is_matrix.F sc_is_matrix fun cdv A outer s H E hr G tk =>
      (sss_cons (ss_expr (ps_expr (se_call (pe_callS G_need_domain (hr.mono (by omega)) (by rfl) D_need_domain.m D_need_domain.F.kp D_need_domain.b (fun σ => (G.lets σ).fly) (sa_cons (pa_cons (se_var (pv 0)) sa_nil))))))
      (sss_cons (ss_if (ps_if (PW.pt (sw_or (pw_or (st_not (pt_not (tru_ok' G.hK (pt_truth (se_isi G.hK (pe_callB call_isi (by rfl) z_isinstance (by decide +kernel) (pa_cons (se_var (pv 1)) (pa_cons (pe_bltn (v := .ty "tuple") (by rfl) z_tuple (by decide +kernel) rfl) pa_nil)))) (by intro _; rfl))))) (sw_or (pw_or (st_op (pt_cmpR (op_ne' G.hu64 G.hK) (se_cb (pe_callB (cr_len' G.hK) (by rfl) z_len (by decide +kernel) (sa_cons (pa_cons (se_var (pv 1)) sa_nil)))) (se_con (w := .int 3) pe_int (fun _ _ => rfl)) (nomark _))) (sw_or (pw_or (st_not (pt_not (tru_ok' G.hK (pt_truth (se_call (pe_callS G_is_integer (hr.mono (by omega)) (by rfl) D_is_integer.m D_is_integer.F.kp D_is_integer.b (fun σ => (G.lets σ).fly) (sa_cons (pa_cons (se_op (pe_ix (ix_ok' G.hK) (se_var (pv 1)) (se_con (w := .int 0) pe_int (fun _ _ => rfl)) (fun _ _ => rfl))) sa_nil)))) (by intro _; rfl))))) (pw_or1 (st_not (pt_not (tru_ok' G.hK (pt_truth (se_call (pe_callS G_is_integer (hr.mono (by omega)) (by rfl) D_is_integer.m D_is_integer.F.kp D_is_integer.b (fun σ => (G.lets σ).fly) (sa_cons (pa_cons (se_op (pe_ix (ix_ok' G.hK) (se_var (pv 1)) (se_con (w := .int 1) pe_int (fun _ _ => rfl)) (fun _ _ => rfl))) sa_nil)))) (by intro _; rfl)))))))))))))
      (sss_one (ss_ret (ps_ret (se_con (w := .bl false) pe_bl (fun _ _ => rfl)))))
      sss_nil))
      (sss_cons (ss_if (ps_if (PW.pt (sw_or (pw_or (st_not (pt_not (tru_ok' G.hK (pt_truth (se_isi G.hK (pe_callB call_isi (by rfl) z_isinstance (by decide +kernel) (pa_cons (se_op (pe_ix (ix_ok' G.hK) (se_var (pv 1)) (se_con (w := .int 2) pe_int (fun _ _ => rfl)) (fun _ _ => rfl))) (pa_cons (pe_bltn (v := .ty "tuple") (by rfl) z_tuple (by decide +kernel) rfl) pa_nil)))) (by intro _; rfl))))) (sw_or (pw_or (st_op (pt_cmpR (op_ne' G.hu64 G.hK) (se_cb (pe_callB (cr_len' G.hK) (by rfl) z_len (by decide +kernel) (sa_cons (pa_cons (se_op (pe_ix (ix_ok' G.hK) (se_var (pv 1)) (se_con (w := .int 2) pe_int (fun _ _ => rfl)) (fun _ _ => rfl))) sa_nil)))) (se_op (pe_ix (ix_ok' G.hK) (se_var (pv 1)) (se_con (w := .int 0) pe_int (fun _ _ => rfl)) (fun _ _ => rfl))) (nomark _))) (pw_or1 (st_op (pt_cmpR op_lt' (se_op (pe_ix (ix_ok' G.hK) (se_var (pv 1)) (se_con (w := .int 1) pe_int (fun _ _ => rfl)) (fun _ _ => rfl))) (se_con (w := .int 0) pe_int (fun _ _ => rfl)) (nomark _)))))))))
      (sss_one (ss_ret (ps_ret (se_con (w := .bl false) pe_bl (fun _ _ => rfl)))))
      sss_nil))
      (sss_cons (ss_for (ps_for (passes_of rfl) rfl (si_val G.hK (se_op (pe_ix (ix_ok' G.hK) (se_var (pv 1)) (se_con (w := .int 2) pe_int (fun _ _ => rfl)) (fun _ _ => rfl)))) (sg_name (pg_name (i := 2) sc_is_matrix.nd rfl (Or.inl rfl)))
      (sss_cons (ss_if (ps_if (PW.pt (sw_or (pw_or (st_not (pt_not (tru_ok' G.hK (pt_truth (se_isi G.hK (pe_callB call_isi (by rfl) z_isinstance (by decide +kernel) (pa_cons (se_var (pv 2)) (pa_cons (pe_bltn (v := .ty "tuple") (by rfl) z_tuple (by decide +kernel) rfl) pa_nil)))) (by intro _; rfl))))) (pw_or1 (st_op (pt_cmpR (op_ne' G.hu64 G.hK) (se_cb (pe_callB (cr_len' G.hK) (by rfl) z_len (by decide +kernel) (sa_cons (pa_cons (se_var (pv 2)) sa_nil)))) (se_op (pe_ix (ix_ok' G.hK) (se_var (pv 1)) (se_con (w := .int 1) pe_int (fun _ _ => rfl)) (fun _ _ => rfl))) (nomark _)))))))
      (sss_one (ss_ret (ps_ret (se_con (w := .bl false) pe_bl (fun _ _ => rfl)))))
      sss_nil))
      (sss_one (ss_for (ps_for (passes_of rfl) rfl (si_val G.hK (se_var (pv 2))) (sg_name (pg_name (i := 3) sc_is_matrix.nd rfl (Or.inl rfl)))
      (sss_one (ss_if (ps_if (st_not (pt_not (tru_ok' G.hK (pt_truth (se_call (pe_callS G_belongs (hr.mono (by omega)) (by rfl) D_belongs.m D_belongs.F.kp D_belongs.b (fun σ => (G.lets σ).fly) (sa_cons (pa_cons (se_var (pv 0)) (sa_cons (pa_cons (se_var (pv 3)) sa_nil)))))) (by intro _; rfl)))))
      (sss_one (ss_ret (ps_ret (se_con (w := .bl false) pe_bl (fun _ _ => rfl)))))
      sss_nil)))))))))
      (sss_one (ss_ret (ps_ret (se_con (w := .bl true) pe_bl (fun _ _ => rfl)))))))))
abbrev N_piece_base : List Str := ["base", "_"]
theorem sc_piece_base : FnScope N_piece_base [] (defScope s_piece_base) := ⟨rfl, rfl, rfl, by decide +kernel, rfl, by decide +kernel, by decide +kernel⟩
theorem ok_piece_base {a_piece_base : Addr} {d_piece_base : FuncData} (D_piece_base : DefAt c.K mg "piece_base" s_piece_base [] a_piece_base d_piece_base)
    (z_range : mg "range" = none) :
    FnOk P w c.K mg base (L2.CX P w) 1 a_piece_base d_piece_base [] (spM c f_piece_base) :=
  okM D_piece_base.F sc_piece_base fun cdv A outer s H E hr G tk =>
      (sss_cons (ss_set (ps_set (i := 0) sc_piece_base.nd rfl (Or.inl rfl) (se_con (w := .int 10) pe_int (fun _ _ => rfl))))
      (sss_cons (ss_for (ps_for (passes_of rfl) rfl (si_range1 (pi_range1 (by rfl) z_range (sa_cons (pa_cons (se_con (w := .int 10) pe_int (fun _ _ => rfl)) sa_nil))) (hl_cons hl_nil)) (sg_name (pg_name (i := 1) sc_piece_base.nd rfl (Or.inl rfl)))
      (sss_one (ss_set (ps_set (i := 0) sc_piece_base.nd rfl (Or.inl rfl) (se_op (pe_op (op_mul' G.hK) (se_var (pv 0)) (se_var (pv 0)))))))))
      (sss_one (ss_ret (ps_ret (se_var (pv 0)))))))
abbrev N_read_natural : List Str := ["text", "character", "found", "base", "at"]
theorem sc_read_natural : FnScope N_read_natural ["text"] (defScope s_read_natural) := ⟨rfl, rfl, rfl, by decide +kernel, rfl, by decide +kernel, by decide +kernel⟩
theorem ok_read_natural {a_read_natural a_piece_base a_fail : Addr} {d_read_natural d_piece_base d_fail : FuncData} {tk_PIECE tk_DIGITS tk_MOST_DIGITS : Tok} (D_read_natural : DefAt c.K mg "read_natural" s_read_natural ["text"] a_read_natural d_read_natural)
    (D_piece_base : DefAt c.K mg "piece_base" s_piece_base [] a_piece_base d_piece_base)
    (D_fail : DefAt c.K mg "fail" s_fail [] a_fail d_fail)
    (z_len : mg "len" = none)
    (z_int : mg "int" = none)
    (c_PIECE : mg "PIECE" = some (.int 1024 tk_PIECE))
    (c_DIGITS : mg "DIGITS" = some (.str "0123456789" tk_DIGITS))
    (c_MOST_DIGITS : mg "MOST_DIGITS" = some (.int 100000 tk_MOST_DIGITS))
    (G_piece_base : FnOk P w c.K mg base (L2.CX P w) 1 a_piece_base d_piece_base [] (spM c f_piece_base))
    (G_fail : FnOk P w c.K mg base (L2.CX P w) 3 a_fail d_fail [] (spM c h_fail)) :
    FnOk P w c.K mg base (L2.CX P w) 4 a_read_natural d_read_natural ["text"] (spM c f_read_natural) :=
  okM D_read_natural.F sc_read_natural fun cdv A outer s H E hr G tk =>
      (sss_cons (ss_if (ps_if (PW.pt (sw_or (pw_or (st_op (pt_cmpR (op_eq' G.hu64 G.hK) (se_var (pv 0)) (se_con (w := .str []) pe_str (fun _ _ => congrArg V.str (by decide +kernel))) (nomark _))) (sw_or (pw_or (st_op (pt_cmpR op_gt' (se_cb (pe_callB (cr_len' G.hK) (by rfl) z_len (by decide +kernel) (sa_cons (pa_cons (se_var (pv 0)) sa_nil)))) (se_con (w := .int 100000) (pe_glob (v := .int 100000) (by rfl) c_MOST_DIGITS ⟨_, rfl⟩) (fun _ _ => rfl)) (nomark _))) (pw_or1 (PW.pt (sw_and (pw_and (st_op (pt_cmpR op_gt' (se_cb (pe_callB (cr_len' G.hK) (by rfl) z_len (by decide +kernel) (sa_cons (pa_cons (se_var (pv 0)) sa_nil)))) (se_con (w := .int 1) pe_int (fun _ _ => rfl)) (nomark _))) (pw_and1 (st_op (pt_cmpR (op_eq' G.hu64 G.hK) (se_op (pe_ix (ix_ok' G.hK) (se_var (pv 0)) (se_con (w := .int 0) pe_int (fun _ _ => rfl)) (fun _ _ => rfl))) (se_con (w := .str [48]) pe_str (fun _ _ => congrArg V.str (by decide +kernel))) (nomark _)))))))))))))
      (sss_one (ss_expr (ps_expr (se_call0 (pe_call0S G_fail (hr.mono (by omega)) (by rfl) D_fail.m D_fail.F.kp D_fail.b (fun σ => (G.lets σ).fly))))))
      sss_nil))
      (sss_cons (ss_for (ps_for (passes_of rfl) rfl (si_val G.hK (se_var (pv 0))) (sg_name (pg_name (i := 1) sc_read_natural.nd rfl (Or.inl rfl)))
      (sss_one (ss_if (ps_if (st_op (pt_cmpR op_notIn' (se_var (pv 1)) (se_con (w := .str [48, 49, 50, 51, 52, 53, 54, 55, 56, 57]) (pe_glob (v := .str "0123456789") (by rfl) c_DIGITS ⟨_, rfl⟩) (fun _ _ => congrArg V.str (by decide +kernel))) (by rfl)))
      (sss_one (ss_expr (ps_expr (se_call0 (pe_call0S G_fail (hr.mono (by omega)) (by rfl) D_fail.m D_fail.F.kp D_fail.b (fun σ => (G.lets σ).fly))))))
      sss_nil)))))
      (sss_cons (ss_set (ps_set (i := 2) sc_read_natural.nd rfl (Or.inl rfl) (se_con (w := .int 0) pe_int (fun _ _ => rfl))))
      (sss_cons (ss_set (ps_set (i := 3) sc_read_natural.nd rfl (Or.inl rfl) (se_call0 (pe_call0S G_piece_base (hr.mono (by omega)) (by rfl) D_piece_base.m D_piece_base.F.kp D_piece_base.b (fun σ => (G.lets σ).fly)))))
      (sss_cons (ss_set (ps_set (i := 4) sc_read_natural.nd rfl (Or.inl rfl) (se_op (pe_op op_mod' (se_cb (pe_callB (cr_len' G.hK) (by rfl) z_len (by decide +kernel) (sa_cons (pa_cons (se_var (pv 0)) sa_nil)))) (se_con (w := .int 1024) (pe_glob (v := .int 1024) (by rfl) c_PIECE ⟨_, rfl⟩) (fun _ _ => rfl))))))
      (sss_cons (ss_if (ps_if (st_op (pt_cmpR op_gt' (se_var (pv 4)) (se_con (w := .int 0) pe_int (fun _ _ => rfl)) (nomark _)))
      (sss_one (ss_set (ps_set (i := 2) sc_read_natural.nd rfl (Or.inl rfl) (se_cb (pe_callTy cr_int' (by rfl) z_int (by decide +kernel) (sa_cons (pa_cons (se_sl (pe_slice (sl_ok' G.hK) (se_var (pv 0)) so_none (so_some (se_var (pv 4))))) sa_nil)))))))
      sss_nil))
      (sss_cons (ss_while (ps_while (passes_of rfl) (st_op (pt_cmpR op_lt' (se_var (pv 4)) (se_cb (pe_callB (cr_len' G.hK) (by rfl) z_len (by decide +kernel) (sa_cons (pa_cons (se_var (pv 0)) sa_nil)))) (nomark _)))
      (sss_cons (ss_set (ps_set (i := 2) sc_read_natural.nd rfl (Or.inl rfl) (se_op (pe_op (op_add' G.hK) (se_op (pe_op (op_mul' G.hK) (se_var (pv 2)) (se_var (pv 3)))) (se_cb (pe_callTy cr_int' (by rfl) z_int (by decide +kernel) (sa_cons (pa_cons (se_sl (pe_slice (sl_ok' G.hK) (se_var (pv 0)) (so_some (se_var (pv 4))) (so_some (se_op (pe_op (op_add' G.hK) (se_var (pv 4)) (se_con (w := .int 1024) (pe_glob (v := .int 1024) (by rfl) c_PIECE ⟨_, rfl⟩) (fun _ _ => rfl))))))) sa_nil))))))))
      (sss_one (ss_aug (ps_aug (i := 4) sc_read_natural.nd rfl (Or.inl rfl) (se_con (w := .int 1024) (pe_glob (v := .int 1024) (by rfl) c_PIECE ⟨_, rfl⟩) (fun _ _ => rfl)) ip_add'))))))
      (sss_one (ss_ret (ps_ret (se_var (pv 2))))))))))))
abbrev N_read_integer : List Str := ["text", "n"]
theorem sc_read_integer : FnScope N_read_integer ["text"] (defScope s_read_integer) := ⟨rfl, rfl, rfl, by decide +kernel, rfl, by decide +kernel, by decide +kernel⟩
theorem ok_read_integer {a_read_integer a_read_natural a_fail : Addr} {d_read_integer d_read_natural d_fail : FuncData} (D_read_integer : DefAt c.K mg "read_integer" s_read_integer ["text"] a_read_integer d_read_integer)
    (D_read_natural : DefAt c.K mg "read_natural" s_read_natural ["text"] a_read_natural d_read_natural)
    (D_fail : DefAt c.K mg "fail" s_fail [] a_fail d_fail)
    (G_read_natural : FnOk P w c.K mg base (L2.CX P w) 4 a_read_natural d_read_natural ["text"] (spM c f_read_natural))
    (G_fail : FnOk P w c.K mg base (L2.CX P w) 3 a_fail d_fail [] (spM c h_fail)) :
    FnOk P w c.K mg base (L2.CX P w) 5 a_read_integer d_read_integer ["text"] (spM c f_read_integer) :=
  okM D_read_integer.F sc_read_integer fun cdv A outer s H E hr G tk =>
      (sss_cons (ss_if (ps_if (tru_ok' G.hK (pt_truth (se_bm G.hK (pe_bm PySem.F.plainAttrs_str PySem.F.slot_str_startswith PySem.F.type_str_startswith mt_starts' (se_var (pv 0)) (sa_cons (pa_cons (se_con (w := .str [45]) pe_str (fun _ _ => congrArg V.str (by decide +kernel))) sa_nil)))) (by intro _; rfl)))
      (sss_cons (ss_set (ps_set (i := 1) sc_read_integer.nd rfl (Or.inl rfl) (se_un (pe_un un_neg' (se_call (pe_callS G_read_natural (hr.mono (by omega)) (by rfl) D_read_natural.m D_read_natural.F.kp D_read_natural.b (fun σ => (G.lets σ).fly) (sa_cons (pa_cons (se_sl (pe_slice (sl_ok' G.hK) (se_var (pv 0)) (so_some (se_con (w := .int 1) pe_int (fun _ _ => rfl))) so_none)) sa_nil))))))))
      (sss_cons (ss_if (ps_if (st_op (pt_cmpR (op_eq' G.hu64 G.hK) (se_var (pv 1)) (se_con (w := .int 0) pe_int (fun _ _ => rfl)) (nomark _)))
      (sss_one (ss_expr (ps_expr (se_call0 (pe_call0S G_fail (hr.mono (by omega)) (by rfl) D_fail.m D_fail.F.kp D_fail.b (fun σ => (G.lets σ).fly))))))
      sss_nil))
      (sss_one (ss_ret (ps_ret (se_var (pv 1)))))))
      sss_nil))
      (sss_one (ss_ret (ps_ret (se_call (pe_callS G_read_natural (hr.mono (by omega)) (by rfl) D_read_natural.m D_read_natural.F.kp D_read_natural.b (fun σ => (G.lets σ).fly) (sa_cons (pa_cons (se_var (pv 0)) sa_nil))))))))
abbrev N_read_domain : List Str := ["text", "d"]
theorem sc_read_domain : FnScope N_read_domain ["text"] (defScope s_read_domain) := ⟨rfl, rfl, rfl, by decide +kernel, rfl, by decide +kernel, by decide +kernel⟩
theorem oks_read_domain {a_read_domain a_is_domain a_fail a_read_natural : Addr} {d_read_domain d_is_domain d_fail d_read_natural : FuncData} (D_read_domain : DefAt c.K mg "read_domain" s_read_domain ["text"] a_read_domain d_read_domain)
    (D_is_domain : DefAt c.K mg "is_domain" s_is_domain ["d"] a_is_domain d_is_domain)
    (D_fail : DefAt c.K mg "fail" s_fail [] a_fail d_fail)
    (D_read_natural : DefAt c.K mg "read_natural" s_read_natural ["text"] a_read_natural d_read_natural)
    (z_len : mg "len" = none)
    (G_is_domain : FnOk P w c.K mg base (L2.CX P w) 3 a_is_domain d_is_domain ["d"] (spM c f_is_domain))
    (G_fail : FnOk P w c.K mg base (L2.CX P w) 3 a_fail d_fail [] (spM c h_fail))
    (G_read_natural : FnOk P w c.K mg base (L2.CX P w) 4 a_read_natural d_read_natural ["text"] (spM c f_read_natural)) :
    ∀ n : Nat, (FnOk P w c.K mg base (L2.CX P w) (4 + n) a_read_domain d_read_domain ["text"] (spM c (f_read_domain n)))
  | 0 => (none_left (fun vs H Q E h => spM_no h)).mono (Nat.zero_le _)
  | n + 1 => by
    have ih := oks_read_domain D_read_domain D_is_domain D_fail D_read_natural z_len G_is_domain G_fail G_read_natural n
    have G_read_domain := ih
    exact okM D_read_domain.F sc_read_domain (k := 4 + n) fun cdv A outer s H E hr G tk =>
      (sss_cons (ss_if (ps_if (PW.pt (sw_or (pw_or (st_op (pt_cmpR (op_eq' G.hu64 G.hK) (se_var (pv 0)) (se_con (w := .str [90]) pe_str (fun _ _ => congrArg V.str (by decide +kernel))) (nomark _))) (pw_or1 (st_op (pt_cmpR (op_eq' G.hu64 G.hK) (se_var (pv 0)) (se_con (w := .str [81]) pe_str (fun _ _ => congrArg V.str (by decide +kernel))) (nomark _)))))))
      (sss_one (ss_ret (ps_ret (se_tup (pe_tup (sa_cons (pa_cons (se_var (pv 0)) sa_nil)))))))
      sss_nil))
      (sss_cons (ss_if (ps_if (PW.pt (sw_and (pw_and (tru_ok' G.hK (pt_truth (se_bm G.hK (pe_bm PySem.F.plainAttrs_str PySem.F.slot_str_startswith PySem.F.type_str_startswith mt_starts' (se_var (pv 0)) (sa_cons (pa_cons (se_con (w := .str [80]) pe_str (fun _ _ => congrArg V.str (by decide +kernel))) sa_nil)))) (by intro _; rfl))) (pw_and1 (st_not (pt_not (tru_ok' G.hK (pt_truth (se_bm G.hK (pe_bm PySem.F.plainAttrs_str PySem.F.slot_str_startswith PySem.F.type_str_startswith mt_starts' (se_var (pv 0)) (sa_cons (pa_cons (se_con (w := .str [80, 80]) pe_str (fun _ _ => congrArg V.str (by decide +kernel))) sa_nil)))) (by intro _; rfl)))))))))
      (sss_one (ss_set (ps_set (i := 1) sc_read_domain.nd rfl (Or.inl rfl) (se_tup (pe_tup (sa_cons (pa_cons (se_con (w := .str [80]) pe_str (fun _ _ => congrArg V.str (by decide +kernel))) (sa_cons (pa_cons (se_call (pe_callS G_read_domain (hr.mono (by omega)) (by rfl) D_read_domain.m D_read_domain.F.kp D_read_domain.b (fun σ => (G.lets σ).fly) (sa_cons (pa_cons (se_sl (pe_slice (sl_ok' G.hK) (se_var (pv 0)) (so_some (se_con (w := .int 1) pe_int (fun _ _ => rfl))) so_none)) sa_nil)))) sa_nil)))))))))
      (sss_one (ss_if (ps_if (PW.pt (sw_and (pw_and (tru_ok' G.hK (pt_truth (se_bm G.hK (pe_bm PySem.F.plainAttrs_str PySem.F.slot_str_startswith PySem.F.type_str_startswith mt_starts' (se_var (pv 0)) (sa_cons (pa_cons (se_con (w := .str [70]) pe_str (fun _ _ => congrArg V.str (by decide +kernel))) sa_nil)))) (by intro _; rfl))) (pw_and1 (st_op (pt_cmpR op_lt' (se_cb (pe_callB (cr_len' G.hK) (by rfl) z_len (by decide +kernel) (sa_cons (pa_cons (se_var (pv 0)) sa_nil)))) (se_con (w := .int 9) pe_int (fun _ _ => rfl)) (nomark _)))))))
      (sss_one (ss_set (ps_set (i := 1) sc_read_domain.nd rfl (Or.inl rfl) (se_tup (pe_tup (sa_cons (pa_cons (se_con (w := .str [70]) pe_str (fun _ _ => congrArg V.str (by decide +kernel))) (sa_cons (pa_cons (se_call (pe_callS G_read_natural (hr.mono (by omega)) (by rfl) D_read_natural.m D_read_natural.F.kp D_read_natural.b (fun σ => (G.lets σ).fly) (sa_cons (pa_cons (se_sl (pe_slice (sl_ok' G.hK) (se_var (pv 0)) (so_some (se_con (w := .int 1) pe_int (fun _ _ => rfl))) so_none)) sa_nil)))) sa_nil)))))))))
      (sss_one (ss_set (ps_set (i := 1) sc_read_domain.nd rfl (Or.inl rfl) (se_con (w := .non) pe_non (fun _ _ => rfl))))))))))
      (sss_cons (ss_if (ps_if (st_not (pt_not (tru_ok' G.hK (pt_truth (se_call (pe_callS G_is_domain (hr.mono (by omega)) (by rfl) D_is_domain.m D_is_domain.F.kp D_is_domain.b (fun σ => (G.lets σ).fly) (sa_cons (pa_cons (se_var (pv 1)) sa_nil)))) (by intro _; rfl)))))
      (sss_one (ss_expr (ps_expr (se_call0 (pe_call0S G_fail (hr.mono (by omega)) (by rfl) D_fail.m D_fail.F.kp D_fail.b (fun σ => (G.lets σ).fly))))))
      sss_nil))
      (sss_one (ss_ret (ps_ret (se_var (pv 1))))))))
abbrev N_pieces : List Str := ["text", "found", "piece", "depth", "character"]
theorem sc_pieces : FnScope N_pieces ["text"] (defScope s_pieces) := ⟨rfl, rfl, rfl, by decide +kernel, rfl, by decide +kernel, by decide +kernel⟩
theorem ok_pieces {a_pieces : Addr} {d_pieces : FuncData} (D_pieces : DefAt c.K mg "pieces" s_pieces ["text"] a_pieces d_pieces) :
    FnOk P w c.K mg base (L2.CX P w) 1 a_pieces d_pieces ["text"] (spM c f_pieces) :=
  okM D_pieces.F sc_pieces fun cdv A outer s H E hr G tk =>
      (sss_cons (ss_set (ps_set (i := 1) sc_pieces.nd rfl (Or.inl rfl) (se_lst (pe_lst sa_nil))))
      (sss_cons (ss_set (ps_set (i := 2) sc_pieces.nd rfl (Or.inl rfl) (se_con (w := .str []) pe_str (fun _ _ => congrArg V.str (by decide +kernel)))))
      (sss_cons (ss_set (ps_set (i := 3) sc_pieces.nd rfl (Or.inl rfl) (se_con (w := .int 0) pe_int (fun _ _ => rfl))))
      (sss_cons (ss_for (ps_for (passes_of rfl) rfl (si_val G.hK (se_var (pv 0))) (sg_name (pg_name (i := 4) sc_pieces.nd rfl (Or.inl rfl)))
      (sss_cons (ss_if (ps_if (PW.pt (sw_and (pw_and (st_op (pt_cmpR (op_eq' G.hu64 G.hK) (se_var (pv 4)) (se_con (w := .str [32]) pe_str (fun _ _ => congrArg V.str (by decide +kernel))) (nomark _))) (pw_and1 (st_op (pt_cmpR (op_eq' G.hu64 G.hK) (se_var (pv 3)) (se_con (w := .int 0) pe_int (fun _ _ => rfl)) (nomark _)))))))
      (sss_cons (ss_expr (ps_expr (se_bm G.hK (pe_bm PySem.F.plainAttrs_list PySem.F.slot_list_append PySem.F.type_list_append mt_append' (se_var (pv 1)) (sa_cons (pa_cons (se_var (pv 2)) sa_nil))))))
      (sss_one (ss_set (ps_set (i := 2) sc_pieces.nd rfl (Or.inl rfl) (se_con (w := .str []) pe_str (fun _ _ => congrArg V.str (by decide +kernel)))))))
      (sss_one (ss_set (ps_set (i := 2) sc_pieces.nd rfl (Or.inl rfl) (se_op (pe_op (op_add' G.hK) (se_var (pv 2)) (se_var (pv 4)))))))))
      (sss_one (ss_if (ps_if (st_op (pt_cmpR (op_eq' G.hu64 G.hK) (se_var (pv 4)) (se_con (w := .str [123]) pe_str (fun _ _ => congrArg V.str (by decide +kernel))) (nomark _)))
      (sss_one (ss_aug (ps_aug (i := 3) sc_pieces.nd rfl (Or.inl rfl) (se_con (w := .int 1) pe_int (fun _ _ => rfl)) ip_add')))
      (sss_one (ss_if (ps_if (st_op (pt_cmpR (op_eq' G.hu64 G.hK) (se_var (pv 4)) (se_con (w := .str [125]) pe_str (fun _ _ => congrArg V.str (by decide +kernel))) (nomark _)))
      (sss_one (ss_aug (ps_aug (i := 3) sc_pieces.nd rfl (Or.inl rfl) (se_con (w := .int 1) pe_int (fun _ _ => rfl)) ip_sub')))
      sss_nil)))))))))
      (sss_cons (ss_expr (ps_expr (se_bm G.hK (pe_bm PySem.F.plainAttrs_list PySem.F.slot_list_append PySem.F.type_list_append mt_append' (se_var (pv 1)) (sa_cons (pa_cons (se_var (pv 2)) sa_nil))))))
      (sss_one (ss_ret (ps_ret (se_var (pv 1))))))))))
abbrev N_read_element : List Str := ["d", "text", "parts", "x"]
theorem sc_read_element : FnScope N_read_element ["d", "text"] (defScope s_read_element) := ⟨rfl, rfl, rfl, by decide +kernel, rfl, by decide +kernel, by decide +kernel⟩
abbrev N_read_list : List Str := ["d", "text", "opening", "closing", "inner", "piece"]
theorem sc_read_list : FnScope N_read_list ["d", "text", "opening", "closing"] (defScope s_read_list) := ⟨rfl, rfl, rfl, by decide +kernel, rfl, by decide +kernel, by decide +kernel⟩
theorem oks_read_element {a_read_element a_read_list a_is_element a_fail a_read_natural a_read_integer a_pieces : Addr} {d_read_element d_read_list d_is_element d_fail d_read_natural d_read_integer d_pieces : FuncData} (D_read_element : DefAt c.K mg "read_element" s_read_element ["d", "text"] a_read_element d_read_element)
    (D_read_list : DefAt c.K mg "read_list" s_read_list ["d", "text", "opening", "closing"] a_read_list d_read_list)
    (D_is_element : DefAt c.K mg "is_element" s_is_element ["d", "x"] a_is_element d_is_element)
    (D_fail : DefAt c.K mg "fail" s_fail [] a_fail d_fail)
    (D_read_natural : DefAt c.K mg "read_natural" s_read_natural ["text"] a_read_natural d_read_natural)
    (D_read_integer : DefAt c.K mg "read_integer" s_read_integer ["text"] a_read_integer d_read_integer)
    (D_pieces : DefAt c.K mg "pieces" s_pieces ["text"] a_pieces d_pieces)
    (z_len : mg "len" = none)
    (z_tuple : mg "tuple" = none)
    (G_is_element : FnOk P w c.K mg base (L2.CX P w) 8 a_is_element d_is_element ["d", "x"] (spM c f_is_element))
    (G_fail : FnOk P w c.K mg base (L2.CX P w) 3 a_fail d_fail [] (spM c h_fail))
    (G_read_natural : FnOk P w c.K mg base (L2.CX P w) 4 a_read_natural d_read_natural ["text"] (spM c f_read_natural))
    (G_read_integer : FnOk P w c.K mg base (L2.CX P w) 5 a_read_integer d_read_integer ["text"] (spM c f_read_integer))
    (G_pieces : FnOk P w c.K mg base (L2.CX P w) 1 a_pieces d_pieces ["text"] (spM c f_pieces)) :
    ∀ n : Nat, (FnOk P w c.K mg base (L2.CX P w) (8 + n) a_read_element d_read_element ["d", "text"] (spM c (f_read_element n))) ∧ (FnOk P w c.K mg base (L2.CX P w) (8 + n) a_read_list d_read_list ["d", "text", "opening", "closing"] (spM c (f_read_list n)))
  | 0 => ⟨(none_left (fun vs H Q E h => spM_no h)).mono (Nat.zero_le _), (none_left (fun vs H Q E h => spM_no h)).mono (Nat.zero_le _)⟩
  | n + 1 => by
    have ih := oks_read_element D_read_element D_read_list D_is_element D_fail D_read_natural D_read_integer D_pieces z_len z_tuple G_is_element G_fail G_read_natural G_read_integer G_pieces n
    obtain ⟨G_read_element, G_read_list⟩ := ih
    refine ⟨?_, ?_⟩
    · exact okM D_read_element.F sc_read_element (k := 8 + n) fun cdv A outer s H E hr G tk =>
      (sss_cons (ss_if (ps_if (st_op (pt_cmpR (op_eq' G.hu64 G.hK) (se_op (pe_ix (ix_ok' G.hK) (se_var (pv 0)) (se_con (w := .int 0) pe_int (fun _ _ => rfl)) (fun _ _ => rfl))) (se_con (w := .str [81]) pe_str (fun _ _ => congrArg V.str (by decide +kernel))) (nomark _)))
      (sss_cons (ss_set (ps_set (i := 2) sc_read_element.nd rfl (Or.inl rfl) (se_bm G.hK (pe_bm PySem.F.plainAttrs_str PySem.F.slot_str_split PySem.F.type_str_split mt_split' (se_var (pv 1)) (sa_cons (pa_cons (se_con (w := .str [47]) pe_str (fun _ _ => congrArg V.str (by decide +kernel))) sa_nil))))))
      (sss_cons (ss_if (ps_if (st_op (pt_cmpR op_gt' (se_cb (pe_callB (cr_len' G.hK) (by rfl) z_len (by decide +kernel) (sa_cons (pa_cons (se_var (pv 2)) sa_nil)))) (se_con (w := .int 2) pe_int (fun _ _ => rfl)) (nomark _)))
      (sss_one (ss_expr (ps_expr (se_call0 (pe_call0S G_fail (hr.mono (by omega)) (by rfl) D_fail.m D_fail.F.kp D_fail.b (fun σ => (G.lets σ).fly))))))
      sss_nil))
      (sss_cons (ss_set (ps_set (i := 3) sc_read_element.nd rfl (Or.inl rfl) (se_tup (pe_tup (sa_cons (pa_cons (se_call (pe_callS G_read_integer (hr.mono (by omega)) (by rfl) D_read_integer.m D_read_integer.F.kp D_read_integer.b (fun σ => (G.lets σ).fly) (sa_cons (pa_cons (se_op (pe_ix (ix_ok' G.hK) (se_var (pv 2)) (se_con (w := .int 0) pe_int (fun _ _ => rfl)) (fun _ _ => rfl))) sa_nil)))) (sa_cons (pa_cons (se_ifExp (pe_ifExp (st_op (pt_cmpR (op_eq' G.hu64 G.hK) (se_cb (pe_callB (cr_len' G.hK) (by rfl) z_len (by decide +kernel) (sa_cons (pa_cons (se_var (pv 2)) sa_nil)))) (se_con (w := .int 1) pe_int (fun _ _ => rfl)) (nomark _))) (se_con (w := .int 1) pe_int (fun _ _ => rfl)) (se_call (pe_callS G_read_natural (hr.mono (by omega)) (by rfl) D_read_natural.m D_read_natural.F.kp D_read_natural.b (fun σ => (G.lets σ).fly) (sa_cons (pa_cons (se_op (pe_ix (ix_ok' G.hK) (se_var (pv 2)) (se_con (w := .int 1) pe_int (fun _ _ => rfl)) (fun _ _ => rfl))) sa_nil)))))) sa_nil))))))))
      (sss_one (ss_if (ps_if (PW.pt (sw_and (pw_and (st_op (pt_cmpR (op_eq' G.hu64 G.hK) (se_cb (pe_callB (cr_len' G.hK) (by rfl) z_len (by decide +kernel) (sa_cons (pa_cons (se_var (pv 2)) sa_nil)))) (se_con (w := .int 2) pe_int (fun _ _ => rfl)) (nomark _))) (pw_and1 (st_op (pt_cmpR op_lt' (se_op (pe_ix (ix_ok' G.hK) (se_var (pv 3)) (se_con (w := .int 1) pe_int (fun _ _ => rfl)) (fun _ _ => rfl))) (se_con (w := .int 2) pe_int (fun _ _ => rfl)) (nomark _)))))))
      (sss_one (ss_expr (ps_expr (se_call0 (pe_call0S G_fail (hr.mono (by omega)) (by rfl) D_fail.m D_fail.F.kp D_fail.b (fun σ => (G.lets σ).fly))))))
      sss_nil))))))
      (sss_one (ss_if (ps_if (st_op (pt_cmpR (op_eq' G.hu64 G.hK) (se_op (pe_ix (ix_ok' G.hK) (se_var (pv 0)) (se_con (w := .int 0) pe_int (fun _ _ => rfl)) (fun _ _ => rfl))) (se_con (w := .str [80]) pe_str (fun _ _ => congrArg V.str (by decide +kernel))) (nomark _)))
      (sss_one (ss_set (ps_set (i := 3) sc_read_element.nd rfl (Or.inl rfl) (se_call (pe_callS G_read_list (hr.mono (by omega)) (by rfl) D_read_list.m D_read_list.F.kp D_read_list.b (fun σ => (G.lets σ).fly) (sa_cons (pa_cons (se_op (pe_ix (ix_ok' G.hK) (se_var (pv 0)) (se_con (w := .int 1) pe_int (fun _ _ => rfl)) (fun _ _ => rfl))) (sa_cons (pa_cons (se_var (pv 1)) (sa_cons (pa_cons (se_con (w := .str [123]) pe_str (fun _ _ => congrArg V.str (by decide +kernel))) (sa_cons (pa_cons (se_con (w := .str [125]) pe_str (fun _ _ => congrArg V.str (by decide +kernel))) sa_nil)))))))))))))
      (sss_one (ss_set (ps_set (i := 3) sc_read_element.nd rfl (Or.inl rfl) (se_call (pe_callS G_read_integer (hr.mono (by omega)) (by rfl) D_read_integer.m D_read_integer.F.kp D_read_integer.b (fun σ => (G.lets σ).fly) (sa_cons (pa_cons (se_var (pv 1)) sa_nil))))))))))))
      (sss_cons (ss_if (ps_if (st_not (pt_not (tru_ok' G.hK (pt_truth (se_call (pe_callS G_is_element (hr.mono (by omega)) (by rfl) D_is_element.m D_is_element.F.kp D_is_element.b (fun σ => (G.lets σ).fly) (sa_cons (pa_cons (se_var (pv 0)) (sa_cons (pa_cons (se_var (pv 3)) sa_nil)))))) (by intro _; rfl)))))
      (sss_one (ss_expr (ps_expr (se_call0 (pe_call0S G_fail (hr.mono (by omega)) (by rfl) D_fail.m D_fail.F.kp D_fail.b (fun σ => (G.lets σ).fly))))))
      sss_nil))
      (sss_one (ss_ret (ps_ret (se_var (pv 3)))))))
    · exact okM D_read_list.F sc_read_list (k := 8 + n) fun cdv A outer s H E hr G tk =>
      (sss_cons (ss_if (ps_if (PW.pt (sw_or (pw_or (st_op (pt_cmpR op_lt' (se_cb (pe_callB (cr_len' G.hK) (by rfl) z_len (by decide +kernel) (sa_cons (pa_cons (se_var (pv 1)) sa_nil)))) (se_con (w := .int 2) pe_int (fun _ _ => rfl)) (nomark _))) (sw_or (pw_or (st_op (pt_cmpR (op_ne' G.hu64 G.hK) (se_op (pe_ix (ix_ok' G.hK) (se_var (pv 1)) (se_con (w := .int 0) pe_int (fun _ _ => rfl)) (fun _ _ => rfl))) (se_var (pv 2)) (nomark _))) (pw_or1 (st_op (pt_cmpR (op_ne' G.hu64 G.hK) (se_op (pe_ix (ix_ok' G.hK) (se_var (pv 1)) (se_un (pe_un un_neg' (se_con (w := .int 1) pe_int (fun _ _ => rfl)))) (fun _ _ => rfl))) (se_var (pv 3)) (nomark _)))))))))
      (sss_one (ss_expr (ps_expr (se_call0 (pe_call0S G_fail (hr.mono (by omega)) (by rfl) D_fail.m D_fail.F.kp D_fail.b (fun σ => (G.lets σ).fly))))))
      sss_nil))
      (sss_cons (ss_set (ps_set (i := 4) sc_read_list.nd rfl (Or.inl rfl) (se_sl (pe_slice (sl_ok' G.hK) (se_var (pv 1)) (so_some (se_con (w := .int 1) pe_int (fun _ _ => rfl))) (so_some (se_un (pe_un un_neg' (se_con (w := .int 1) pe_int (fun _ _ => rfl)))))))))
      (sss_cons (ss_if (ps_if (st_op (pt_cmpR (op_eq' G.hu64 G.hK) (se_var (pv 4)) (se_con (w := .str []) pe_str (fun _ _ => congrArg V.str (by decide +kernel))) (nomark _)))
      (sss_one (ss_ret (ps_ret (se_tup (pe_tup sa_nil)))))
      sss_nil))
      (sss_one (ss_ret (ps_ret (se_cb (pe_callTy (cr_tuple' G.hK) (by rfl) z_tuple (by decide +kernel) (sa_cons (pa_cons (se_lc (ng_name (by decide)) (pe_lc2' (own := [("piece", 5)]) (g := (gName 5)) G.lets (by rfl) sc_read_list.nd (si_val G.hK (se_call (pe_callS G_pieces (hr.mono (by omega)) (by rfl) D_pieces.m D_pieces.F.kp D_pieces.b (fun σ => (G.lets σ).fly) (sa_cons (pa_cons (se_var (pv 4)) sa_nil))))) (blkOk_by (own := [("piece", 5)]) (N := N_read_list) (sc := (defScope s_read_list)) (by decide +kernel)) (fun _ _ _ _ _ _ => (pg_name (i := 5) sc_read_list.nd rfl (Or.inl rfl))) (fun _ _ _ _ _ _ _ _ => spts_nil) (fun E0 _ _ _ _ _ _ le => have G := G.bx le; (se_call (pe_callS G_read_element (hr.mono (by omega)) (by rfl) D_read_element.m D_read_element.F.kp D_read_element.b (fun σ => (G.lets σ).fly) (sa_cons (pa_cons (se_var (pv 0)) (sa_cons (pa_cons (se_var (pv 5)) sa_nil))))))))) sa_nil))))))))))
abbrev N_read_vector : List Str := ["d", "text"]
theorem sc_read_vector : FnScope N_read_vector ["d", "text"] (defScope s_read_vector) := ⟨rfl, rfl, rfl, by decide +kernel, rfl, by decide +kernel, by decide +kernel⟩
theorem ok_read_vector {a_read_vector a_read_list : Addr} {d_read_vector d_read_list : FuncData} (D_read_vector : DefAt c.K mg "read_vector" s_read_vector ["d", "text"] a_read_vector d_read_vector)
    (D_read_list : DefAt c.K mg "read_list" s_read_list ["d", "text", "opening", "closing"] a_read_list d_read_list)
    (G_read_list : FnOk P w c.K mg base (L2.CX P w) 14 a_read_list d_read_list ["d", "text", "opening", "closing"] (spM c (f_read_list 6))) :
    FnOk P w c.K mg base (L2.CX P w) 15 a_read_vector d_read_vector ["d", "text"] (spM c f_read_vector) :=
  okM D_read_vector.F sc_read_vector fun cdv A outer s H E hr G tk =>
      (sss_one (ss_ret (ps_ret (se_call (pe_callS G_read_list (hr.mono (by omega)) (by rfl) D_read_list.m D_read_list.F.kp D_read_list.b (fun σ => (G.lets σ).fly) (sa_cons (pa_cons (se_var (pv 0)) (sa_cons (pa_cons (se_var (pv 1)) (sa_cons (pa_cons (se_con (w := .str [60]) pe_str (fun _ _ => congrArg V.str (by decide +kernel))) (sa_cons (pa_cons (se_con (w := .str [62]) pe_str (fun _ _ => congrArg V.str (by decide +kernel))) sa_nil)))))))))))))
abbrev N_read_sizes : List Str := ["text", "parts", "m", "n", "k"]
theorem sc_read_sizes : FnScope N_read_sizes ["text"] (defScope s_read_sizes) := ⟨rfl, rfl, rfl, by decide +kernel, rfl, by decide +kernel, by decide +kernel⟩
theorem ok_read_sizes {a_read_sizes a_fail a_read_natural : Addr} {d_read_sizes d_fail d_read_natural : FuncData} {tk_MOST_SIZE : Tok} (D_read_sizes : DefAt c.K mg "read_sizes" s_read_sizes ["text"] a_read_sizes d_read_sizes)
    (D_fail : DefAt c.K mg "fail" s_fail [] a_fail d_fail)
    (D_read_natural : DefAt c.K mg "read_natural" s_read_natural ["text"] a_read_natural d_read_natural)
    (z_tuple : mg "tuple" = none)
    (z_range : mg "range" = none)
    (z_len : mg "len" = none)
    (c_MOST_SIZE : mg "MOST_SIZE" = some (.int 1000 tk_MOST_SIZE))
    (G_fail : FnOk P w c.K mg base (L2.CX P w) 3 a_fail d_fail [] (spM c h_fail))
    (G_read_natural : FnOk P w c.K mg base (L2.CX P w) 4 a_read_natural d_read_natural ["text"] (spM c f_read_natural)) :
    FnOk P w c.K mg base (L2.CX P w) 5 a_read_sizes d_read_sizes ["text"] (spM c f_read_sizes) :=
  okM D_read_sizes.F sc_read_sizes fun cdv A outer s H E hr G tk =>
      (sss_cons (ss_set (ps_set (i := 1) sc_read_sizes.nd rfl (Or.inl rfl) (se_bm G.hK (pe_bm PySem.F.plainAttrs_str PySem.F.slot_str_split PySem.F.type_str_split mt_split' (se_var (pv 0)) (sa_cons (pa_cons (se_con (w := .str [120]) pe_str (fun _ _ => congrArg V.str (by decide +kernel))) sa_nil))))))
      (sss_cons (ss_if (ps_if (st_op (pt_cmpR (op_ne' G.hu64 G.hK) (se_cb (pe_callB (cr_len' G.hK) (by rfl) z_len (by decide +kernel) (sa_cons (pa_cons (se_var (pv 1)) sa_nil)))) (se_con (w := .int 2) pe_int (fun _ _ => rfl)) (nomark _)))
      (sss_one (ss_expr (ps_expr (se_call0 (pe_call0S G_fail (hr.mono (by omega)) (by rfl) D_fail.m D_fail.F.kp D_fail.b (fun σ => (G.lets σ).fly))))))
      sss_nil))
      (sss_cons (ss_set (ps_set (i := 2) sc_read_sizes.nd rfl (Or.inl rfl) (se_call (pe_callS G_read_natural (hr.mono (by omega)) (by rfl) D_read_natural.m D_read_natural.F.kp D_read_natural.b (fun σ => (G.lets σ).fly) (sa_cons (pa_cons (se_op (pe_ix (ix_ok' G.hK) (se_var (pv 1)) (se_con (w := .int 0) pe_int (fun _ _ => rfl)) (fun _ _ => rfl))) sa_nil))))))
      (sss_cons (ss_set (ps_set (i := 3) sc_read_sizes.nd rfl (Or.inl rfl) (se_call (pe_callS G_read_natural (hr.mono (by omega)) (by rfl) D_read_natural.m D_read_natural.F.kp D_read_natural.b (fun σ => (G.lets σ).fly) (sa_cons (pa_cons (se_op (pe_ix (ix_ok' G.hK) (se_var (pv 1)) (se_con (w := .int 1) pe_int (fun _ _ => rfl)) (fun _ _ => rfl))) sa_nil))))))
      (sss_cons (ss_if (ps_if (PW.pt (sw_or (pw_or (PW.pt (sw_and (pw_and (st_op (pt_cmpR op_gt' (se_var (pv 2)) (se_con (w := .int 0) pe_int (fun _ _ => rfl)) (nomark _))) (pw_and1 (st_op (pt_cmpR op_gt' (se_var (pv 3)) (se_con (w := .int 0) pe_int (fun _ _ => rfl)) (nomark _))))))) (sw_or (pw_or (st_op (pt_cmpR op_gt' (se_var (pv 2)) (se_con (w := .int 1000) (pe_glob (v := .int 1000) (by rfl) c_MOST_SIZE ⟨_, rfl⟩) (fun _ _ => rfl)) (nomark _))) (pw_or1 (st_op (pt_cmpR op_gt' (se_var (pv 3)) (se_con (w := .int 1000) (pe_glob (v := .int 1000) (by rfl) c_MOST_SIZE ⟨_, rfl⟩) (fun _ _ => rfl)) (nomark _)))))))))
      (sss_one (ss_expr (ps_expr (se_call0 (pe_call0S G_fail (hr.mono (by omega)) (by rfl) D_fail.m D_fail.F.kp D_fail.b (fun σ => (G.lets σ).fly))))))
      sss_nil))
      (sss_one (ss_ret (ps_ret (se_tup (pe_tup (sa_cons (pa_cons (se_var (pv 2)) (sa_cons (pa_cons (se_var (pv 3)) (sa_cons (pa_cons (se_cb (pe_callTy (cr_tuple' G.hK) (by rfl) z_tuple (by decide +kernel) (sa_cons (pa_cons (se_lc (ng_name (by decide)) (pe_lc2' (own := [("k", 4)]) (g := (gName 4)) G.lets (by rfl) sc_read_sizes.nd (si_range1 (pi_range1 (by rfl) z_range (sa_cons (pa_cons (se_var (pv 2)) sa_nil))) (hl_cons hl_nil)) (blkOk_by (own := [("k", 4)]) (N := N_read_sizes) (sc := (defScope s_read_sizes)) (by decide +kernel)) (fun _ _ _ _ _ _ => (pg_name (i := 4) sc_read_sizes.nd rfl (Or.inl rfl))) (fun _ _ _ _ _ _ _ _ => spts_nil) (fun E0 _ _ _ _ _ _ le => have G := G.bx le; (se_tup (pe_tup sa_nil))))) sa_nil)))) sa_nil))))))))))))))))
abbrev N_read_matrix : List Str := ["d", "text", "inner", "rows", "a", "row", "piece"]
theorem sc_read_matrix : FnScope N_read_matrix ["d", "text"] (defScope s_read_matrix) := ⟨rfl, rfl, rfl, by decide +kernel, rfl, by decide +kernel, by decide +kernel⟩
theorem ok_read_matrix {a_read_matrix a_is_matrix a_fail a_pieces a_read_element a_read_sizes : Addr} {d_read_matrix d_is_matrix d_fail d_pieces d_read_element d_read_sizes : FuncData} (D_read_matrix : DefAt c.K mg "read_matrix" s_read_matrix ["d", "text"] a_read_matrix d_read_matrix)
    (D_is_matrix : DefAt c.K mg "is_matrix" s_is_matrix ["d", "a"] a_is_matrix d_is_matrix)
    (D_fail : DefAt c.K mg "fail" s_fail [] a_fail d_fail)
    (D_pieces : DefAt c.K mg "pieces" s_pieces ["text"] a_pieces d_pieces)
    (D_read_element : DefAt c.K mg "read_element" s_read_element ["d", "text"] a_read_element d_read_element)
    (D_read_sizes : DefAt c.K mg "read_sizes" s_read_sizes ["text"] a_read_sizes d_read_sizes)
    (z_tuple : mg "tuple" = none)
    (z_len : mg "len" = none)
    (G_is_matrix : FnOk P w c.K mg base (L2.CX P w) 8 a_is_matrix d_is_matrix ["d", "a"] (spM c f_is_matrix))
    (G_fail : FnOk P w c.K mg base (L2.CX P w) 3 a_fail d_fail [] (spM c h_fail))
    (G_pieces : FnOk P w c.K mg base (L2.CX P w) 1 a_pieces d_pieces ["text"] (spM c f_pieces))
    (G_read_element : FnOk P w c.K mg base (L2.CX P w) 14 a_read_element d_read_element ["d", "text"] (spM c (f_read_element 6)))
    (G_read_sizes : FnOk P w c.K mg base (L2.CX P w) 5 a_read_sizes d_read_sizes ["text"] (spM c f_read_sizes)) :
    FnOk P w c.K mg base (L2.CX P w) 15 a_read_matrix d_read_matrix ["d", "text"] (spM c f_read_matrix) :=
  okM D_read_matrix.F sc_read_matrix fun cdv A outer s H E hr G tk =>
      (sss_cons (ss_if (ps_if (PW.pt (sw_or (pw_or (st_op (pt_cmpR op_lt' (se_cb (pe_callB (cr_len' G.hK) (by rfl) z_len (by decide +kernel) (sa_cons (pa_cons (se_var (pv 1)) sa_nil)))) (se_con (w := .int 2) pe_int (fun _ _ => rfl)) (nomark _))) (sw_or (pw_or (st_op (pt_cmpR (op_ne' G.hu64 G.hK) (se_op (pe_ix (ix_ok' G.hK) (se_var (pv 1)) (se_con (w := .int 0) pe_int (fun _ _ => rfl)) (fun _ _ => rfl))) (se_con (w := .str [91]) pe_str (fun _ _ => congrArg V.str (by decide +kernel))) (nomark _))) (pw_or1 (st_op (pt_cmpR (op_ne' G.hu64 G.hK) (se_op (pe_ix (ix_ok' G.hK) (se_var (pv 1)) (se_un (pe_un un_neg' (se_con (w := .int 1) pe_int (fun _ _ => rfl)))) (fun _ _ => rfl))) (se_con (w := .str [93]) pe_str (fun _ _ => congrArg V.str (by decide +kernel))) (nomark _)))))))))
      (sss_one (ss_expr (ps_expr (se_call0 (pe_call0S G_fail (hr.mono (by omega)) (by rfl) D_fail.m D_fail.F.kp D_fail.b (fun σ => (G.lets σ).fly))))))
      sss_nil))
      (sss_cons (ss_set (ps_set (i := 2) sc_read_matrix.nd rfl (Or.inl rfl) (se_sl (pe_slice (sl_ok' G.hK) (se_var (pv 1)) (so_some (se_con (w := .int 1) pe_int (fun _ _ => rfl))) (so_some (se_un (pe_un un_neg' (se_con (w := .int 1) pe_int (fun _ _ => rfl)))))))))
      (sss_cons (ss_if (ps_if (st_op (pt_cmpR (op_in' G.hu G.hK) (se_con (w := .str [120]) pe_str (fun _ _ => congrArg V.str (by decide +kernel))) (se_var (pv 2)) (by rfl)))
      (sss_one (ss_ret (ps_ret (se_call (pe_callS G_read_sizes (hr.mono (by omega)) (by rfl) D_read_sizes.m D_read_sizes.F.kp D_read_sizes.b (fun σ => (G.lets σ).fly) (sa_cons (pa_cons (se_var (pv 2)) sa_nil)))))))
      sss_nil))
      (sss_cons (ss_setLc (ng_name (by decide)) (ps_setLc2' (i := 3) (own := [("row", 5)]) (g := (gName 5)) G.lets (by rfl) sc_read_matrix.nd rfl rfl (sw_true rfl rfl rfl (by decide +kernel)) (si_val G.hK (se_bm G.hK (pe_bm PySem.F.plainAttrs_str PySem.F.slot_str_split PySem.F.type_str_split mt_split' (se_var (pv 2)) (sa_cons (pa_cons (se_con (w := .str [59, 32]) pe_str (fun _ _ => congrArg V.str (by decide +kernel))) sa_nil))))) (blkOk_by (own := [("row", 5)]) (N := N_read_matrix) (sc := (defScope s_read_matrix)) (by decide +kernel)) (fun _ _ _ _ _ _ => (pg_name (i := 5) sc_read_matrix.nd rfl (Or.inl rfl))) (fun _ _ _ _ _ _ _ _ => spts_nil) (fun E0 _ _ _ _ _ _ le => have G := G.bx le; (se_cb (pe_callTy (cr_tuple' G.hK) (by rfl) z_tuple (by decide +kernel) (sa_cons (pa_cons (se_lc (ng_name (by decide)) (pe_lc2' (own := [("piece", 6)]) (g := (gName 6)) G.lets (by rfl) sc_read_matrix.nd (si_val G.hK (se_call (pe_callS G_pieces (hr.mono (by omega)) (by rfl) D_pieces.m D_pieces.F.kp D_pieces.b (fun σ => (G.lets σ).fly) (sa_cons (pa_cons (se_var (pv 5)) sa_nil))))) (blkOk_by (own := [("piece", 6)]) (N := N_read_matrix) (sc := _) (by rfl)) (fun _ _ _ _ _ _ => (pg_name (i := 6) sc_read_matrix.nd rfl (Or.inl rfl))) (fun _ _ _ _ _ _ _ _ => spts_nil) (fun E0 _ _ _ _ _ _ le => have G := G.bx le; (se_call (pe_callS G_read_element (hr.mono (by omega)) (by rfl) D_read_element.m D_read_element.F.kp D_read_element.b (fun σ => (G.lets σ).fly) (sa_cons (pa_cons (se_var (pv 0)) (sa_cons (pa_cons (se_var (pv 6)) sa_nil))))))))) sa_nil)))))))
      (sss_cons (ss_set (ps_set (i := 4) sc_read_matrix.nd rfl (Or.inl rfl) (se_tup (pe_tup (sa_cons (pa_cons (se_cb (pe_callB (cr_len' G.hK) (by rfl) z_len (by decide +kernel) (sa_cons (pa_cons (se_var (pv 3)) sa_nil)))) (sa_cons (pa_cons (se_cb (pe_callB (cr_len' G.hK) (by rfl) z_len (by decide +kernel) (sa_cons (pa_cons (se_op (pe_ix (ix_ok' G.hK) (se_var (pv 3)) (se_con (w := .int 0) pe_int (fun _ _ => rfl)) (fun _ _ => rfl))) sa_nil)))) (sa_cons (pa_cons (se_cb (pe_callTy (cr_tuple' G.hK) (by rfl) z_tuple (by decide +kernel) (sa_cons (pa_cons (se_var (pv 3)) sa_nil)))) sa_nil))))))))))
      (sss_cons (ss_if (ps_if (st_not (pt_not (tru_ok' G.hK (pt_truth (se_call (pe_callS G_is_matrix (hr.mono (by omega)) (by rfl) D_is_matrix.m D_is_matrix.F.kp D_is_matrix.b (fun σ => (G.lets σ).fly) (sa_cons (pa_cons (se_var (pv 0)) (sa_cons (pa_cons (se_var (pv 4)) sa_nil)))))) (by intro _; rfl)))))
      (sss_one (ss_expr (ps_expr (se_call0 (pe_call0S G_fail (hr.mono (by omega)) (by rfl) D_fail.m D_fail.F.kp D_fail.b (fun σ => (G.lets σ).fly))))))
      sss_nil))
      (sss_one (ss_ret (ps_ret (se_var (pv 4)))))))))))
abbrev N_law_start : List Str := ["script", "cell"]
theorem sc_law_start : FnScope N_law_start ["script"] (defScope s_law_start) := ⟨rfl, rfl, rfl, by decide +kernel, rfl, by decide +kernel, by decide +kernel⟩
theorem ok_law_start {a_law_start : Addr} {d_law_start : FuncData} (D_law_start : DefAt c.K mg "_law_start" s_law_start ["script"] a_law_start d_law_start)
    (z_int : mg "int" = none) :
    FnOk P w c.K mg base (L2.CX P w) 1 a_law_start d_law_start ["script"] (spM c f_law_start) :=
  okM D_law_start.F sc_law_start fun cdv A outer s H E hr G tk =>
      (sss_one (ss_ret (ps_ret (se_lst (pe_lst (sa_cons (pa_cons (se_lc (ng_name (by decide)) (pe_lc2' (own := [("cell", 1)]) (g := (gName 1)) G.lets (by rfl) sc_law_start.nd (si_val G.hK (se_sl (pe_slice (sl_ok' G.hK) (se_var (pv 0)) so_none (so_some (se_con (w := .int 63) pe_int (fun _ _ => rfl)))))) (blkOk_by (own := [("cell", 1)]) (N := N_law_start) (sc := (defScope s_law_start)) (by decide +kernel)) (fun _ _ _ _ _ _ => (pg_name (i := 1) sc_law_start.nd rfl (Or.inl rfl))) (fun _ _ _ _ _ _ _ _ => spts_nil) (fun E0 _ _ _ _ _ _ le => have G := G.bx le; (se_cb (pe_callTy cr_int' (by rfl) z_int (by decide +kernel) (sa_cons (pa_cons (se_var (pv 1)) sa_nil))))))) (sa_cons (pa_cons (se_con (w := .int 0) pe_int (fun _ _ => rfl)) (sa_cons (pa_cons (se_con (w := .int 0) pe_int (fun _ _ => rfl)) (sa_cons (pa_cons (se_con (w := .int 0) pe_int (fun _ _ => rfl)) sa_nil)))))))))))))
abbrev N_law_fill : List Str := ["c", "number"]
theorem sc_law_fill : FnScope N_law_fill ["c"] (defScope s_law_fill) := ⟨rfl, rfl, rfl, by decide +kernel, rfl, by decide +kernel, by decide +kernel⟩
theorem ok_law_fill {a_law_fill : Addr} {d_law_fill : FuncData} (D_law_fill : DefAt c.K mg "_law_fill" s_law_fill ["c"] a_law_fill d_law_fill)
    (z_int : mg "int" = none)
    (z_len : mg "len" = none) :
    FnOk P w c.K mg base (L2.CX P w) 1 a_law_fill d_law_fill ["c"] (spM c f_law_fill) :=
  okM D_law_fill.F sc_law_fill fun cdv A outer s H E hr G tk =>
      (sss_cons (ss_asg (ps_asg (se_op (pe_op (op_add' G.hK) (se_op (pe_ix (ix_ok' G.hK) (se_var (pv 0)) (se_con (w := .int 3) pe_int (fun _ _ => rfl)) (fun _ _ => rfl))) (se_con (w := .int 1) pe_int (fun _ _ => rfl)))) (sg_sub G (pg_sub (se_var (pv 0)) (se_con (w := .int 3) pe_int (fun _ _ => rfl)) set_list))))
      (sss_cons (ss_set (ps_set (i := 1) sc_law_fill.nd rfl (Or.inl rfl) (se_op (pe_op (op_add' G.hK) (se_op (pe_op (op_mul' G.hK) (se_op (pe_ix (ix_ok' G.hK) (se_var (pv 0)) (se_con (w := .int 3) pe_int (fun _ _ => rfl)) (fun _ _ => rfl))) (se_con (w := .int 69621) pe_int (fun _ _ => rfl)))) (se_con (w := .int 12345) pe_int (fun _ _ => rfl))))))
      (sss_cons (ss_if (ps_if (st_op (pt_cmpR op_lt' (se_op (pe_ix (ix_ok' G.hK) (se_var (pv 0)) (se_con (w := .int 1) pe_int (fun _ _ => rfl)) (fun _ _ => rfl))) (se_cb (pe_callB (cr_len' G.hK) (by rfl) z_len (by decide +kernel) (sa_cons (pa_cons (se_op (pe_ix (ix_ok' G.hK) (se_var (pv 0)) (se_con (w := .int 0) pe_int (fun _ _ => rfl)) (fun _ _ => rfl))) sa_nil)))) (nomark _)))
      (sss_cons (ss_set (ps_set (i := 1) sc_law_fill.nd rfl (Or.inl rfl) (se_op (pe_ix (ix_ok' G.hK) (se_op (pe_ix (ix_ok' G.hK) (se_var (pv 0)) (se_con (w := .int 0) pe_int (fun _ _ => rfl)) (fun _ _ => rfl))) (se_op (pe_ix (ix_ok' G.hK) (se_var (pv 0)) (se_con (w := .int 1) pe_int (fun _ _ => rfl)) (fun _ _ => rfl))) (fun _ _ => rfl)))))
      (sss_cons (ss_asg (ps_asg (se_op (pe_op (op_add' G.hK) (se_op (pe_ix (ix_ok' G.hK) (se_var (pv 0)) (se_con (w := .int 1) pe_int (fun _ _ => rfl)) (fun _ _ => rfl))) (se_con (w := .int 1) pe_int (fun _ _ => rfl)))) (sg_sub G (pg_sub (se_var (pv 0)) (se_con (w := .int 1) pe_int (fun _ _ => rfl)) set_list))))
      (sss_cons (ss_if (ps_if (st_op (pt_cmpR op_lt' (se_var (pv 1)) (se_con (w := .int 0) pe_int (fun _ _ => rfl)) (nomark _)))
      (sss_one (ss_set (ps_set (i := 1) sc_law_fill.nd rfl (Or.inl rfl) (se_op (pe_op op_sub' (se_op (pe_op op_sub' (se_con (w := .int 0) pe_int (fun _ _ => rfl)) (se_con (w := .int 1) pe_int (fun _ _ => rfl)))) (se_var (pv 1)))))))
      sss_nil))
      (sss_one (ss_if (ps_if (st_op (pt_cmpR op_ge' (se_var (pv 1)) (se_op (pe_op op_pow' (se_con (w := .int 10) pe_int (fun _ _ => rfl)) (se_con (w := .int 18) pe_int (fun _ _ => rfl)))) (nomark _)))
      (sss_one (ss_ret (ps_ret (se_var (pv 1)))))
      sss_nil))))))
      sss_nil))
      (sss_cons (ss_if (ps_if (PW.pt (sw_and (pw_and (tru_ok' G.hK (pt_truth (se_op (pe_ix (ix_ok' G.hK) (se_var (pv 0)) (se_con (w := .int 0) pe_int (fun _ _ => rfl)) (fun _ _ => rfl))) (by intro _; rfl))) (pw_and1 (st_op (pt_cmpR op_ge' (se_op (pe_ix (ix_ok' G.hK) (se_var (pv 0)) (se_con (w := .int 1) pe_int (fun _ _ => rfl)) (fun _ _ => rfl))) (se_cb (pe_callB (cr_len' G.hK) (by rfl) z_len (by decide +kernel) (sa_cons (pa_cons (se_op (pe_ix (ix_ok' G.hK) (se_var (pv 0)) (se_con (w := .int 0) pe_int (fun _ _ => rfl)) (fun _ _ => rfl))) sa_nil)))) (nomark _)))))))
      (sss_one (ss_set (ps_set (i := 1) sc_law_fill.nd rfl (Or.inl rfl) (se_op (pe_op (op_add' G.hK) (se_var (pv 1)) (se_op (pe_op op_mod' (se_cb (pe_callTy cr_int' (by rfl) z_int (by decide +kernel) (sa_cons (pa_cons (se_op (pe_ix (ix_ok' G.hK) (se_op (pe_ix (ix_ok' G.hK) (se_var (pv 0)) (se_con (w := .int 0) pe_int (fun _ _ => rfl)) (fun _ _ => rfl))) (se_un (pe_un un_neg' (se_con (w := .int 1) pe_int (fun _ _ => rfl)))) (fun _ _ => rfl))) sa_nil)))) (se_con (w := .int 1000003) pe_int (fun _ _ => rfl)))))))))
      sss_nil))
      (sss_cons (ss_set (ps_set (i := 1) sc_law_fill.nd rfl (Or.inl rfl) (se_op (pe_op op_mod' (se_cb (pe_callTy cr_int' (by rfl) z_int (by decide +kernel) (sa_cons (pa_cons (se_op (pe_op (op_add' G.hK) (se_op (pe_op (op_mul' G.hK) (se_var (pv 1)) (se_con (w := .int 48271) pe_int (fun _ _ => rfl)))) (se_op (pe_op (op_mul' G.hK) (se_op (pe_ix (ix_ok' G.hK) (se_var (pv 0)) (se_con (w := .int 3) pe_int (fun _ _ => rfl)) (fun _ _ => rfl))) (se_con (w := .int 69621) pe_int (fun _ _ => rfl)))))) sa_nil)))) (se_con (w := .int 2147483647) pe_int (fun _ _ => rfl))))))
      (sss_one (ss_ret (ps_ret (se_op (pe_op (op_add' G.hK) (se_op (pe_op op_mod' (se_cb (pe_callTy cr_int' (by rfl) z_int (by decide +kernel) (sa_cons (pa_cons (se_op (pe_op (op_add' G.hK) (se_op (pe_op (op_add' G.hK) (se_op (pe_op (op_mul' G.hK) (se_var (pv 1)) (se_var (pv 1)))) (se_op (pe_op (op_mul' G.hK) (se_op (pe_ix (ix_ok' G.hK) (se_var (pv 0)) (se_con (w := .int 3) pe_int (fun _ _ => rfl)) (fun _ _ => rfl))) (se_con (w := .int 7919) pe_int (fun _ _ => rfl)))))) (se_con (w := .int 11) pe_int (fun _ _ => rfl)))) sa_nil)))) (se_con (w := .int 2305843009213693951) pe_int (fun _ _ => rfl)))) (se_con (w := .int 2305843009213693951) pe_int (fun _ _ => rfl))))))))))))
abbrev N_law_take : List Str := ["c", "many", "digit"]
theorem sc_law_take : FnScope N_law_take ["c", "many"] (defScope s_law_take) := ⟨rfl, rfl, rfl, by decide +kernel, rfl, by decide +kernel, by decide +kernel⟩
theorem ok_law_take {a_law_take a_law_fill : Addr} {d_law_take d_law_fill : FuncData} (D_law_take : DefAt c.K mg "_law_take" s_law_take ["c", "many"] a_law_take d_law_take)
    (D_law_fill : DefAt c.K mg "_law_fill" s_law_fill ["c"] a_law_fill d_law_fill)
    (z_int : mg "int" = none)
    (G_law_fill : FnOk P w c.K mg base (L2.CX P w) 1 a_law_fill d_law_fill ["c"] (spM c f_law_fill)) :
    FnOk P w c.K mg base (L2.CX P w) 2 a_law_take d_law_take ["c", "many"] (spM c f_law_take) :=
  okM D_law_take.F sc_law_take fun cdv A outer s H E hr G tk =>
      (sss_cons (ss_if (ps_if (st_op (pt_cmpR op_lt' (se_op (pe_ix (ix_ok' G.hK) (se_var (pv 0)) (se_con (w := .int 2) pe_int (fun _ _ => rfl)) (fun _ _ => rfl))) (se_var (pv 1)) (nomark _)))
      (sss_one (ss_asg (ps_asg (se_call (pe_callS G_law_fill (hr.mono (by omega)) (by rfl) D_law_fill.m D_law_fill.F.kp D_law_fill.b (fun σ => (G.lets σ).fly) (sa_cons (pa_cons (se_var (pv 0)) sa_nil)))) (sg_sub G (pg_sub (se_var (pv 0)) (se_con (w := .int 2) pe_int (fun _ _ => rfl)) set_list)))))
      sss_nil))
      (sss_cons (ss_set (ps_set (i := 2) sc_law_take.nd rfl (Or.inl rfl) (se_op (pe_op op_mod' (se_cb (pe_callTy cr_int' (by rfl) z_int (by decide +kernel) (sa_cons (pa_cons (se_op (pe_ix (ix_ok' G.hK) (se_var (pv 0)) (se_con (w := .int 2) pe_int (fun _ _ => rfl)) (fun _ _ => rfl))) sa_nil)))) (se_var (pv 1))))))
      (sss_cons (ss_asg (ps_asg (se_op (pe_op op_div' (se_op (pe_ix (ix_ok' G.hK) (se_var (pv 0)) (se_con (w := .int 2) pe_int (fun _ _ => rfl)) (fun _ _ => rfl))) (se_var (pv 1)))) (sg_sub G (pg_sub (se_var (pv 0)) (se_con (w := .int 2) pe_int (fun _ _ => rfl)) set_list))))
      (sss_one (ss_ret (ps_ret (se_var (pv 2))))))))
abbrev N_law_zero : List Str := ["d"]
theorem sc_law_zero : FnScope N_law_zero ["d"] (defScope s_law_zero) := ⟨rfl, rfl, rfl, by decide +kernel, rfl, by decide +kernel, by decide +kernel⟩
theorem ok_law_zero {a_law_zero : Addr} {d_law_zero : FuncData} (D_law_zero : DefAt c.K mg "_law_zero" s_law_zero ["d"] a_law_zero d_law_zero) :
    FnOk P w c.K mg base (L2.CX P w) 1 a_law_zero d_law_zero ["d"] (spM c f_law_zero) :=
  okM D_law_zero.F sc_law_zero fun cdv A outer s H E hr G tk =>
      (sss_cons (ss_if (ps_if (st_op (pt_cmpR (op_eq' G.hu64 G.hK) (se_op (pe_ix (ix_ok' G.hK) (se_var (pv 0)) (se_con (w := .int 0) pe_int (fun _ _ => rfl)) (fun _ _ => rfl))) (se_con (w := .str [81]) pe_str (fun _ _ => congrArg V.str (by decide +kernel))) (nomark _)))
      (sss_one (ss_ret (ps_ret (se_tup (pe_tup (sa_cons (pa_cons (se_con (w := .int 0) pe_int (fun _ _ => rfl)) (sa_cons (pa_cons (se_con (w := .int 1) pe_int (fun _ _ => rfl)) sa_nil)))))))))
      sss_nil))
      (sss_cons (ss_if (ps_if (st_op (pt_cmpR (op_eq' G.hu64 G.hK) (se_op (pe_ix (ix_ok' G.hK) (se_var (pv 0)) (se_con (w := .int 0) pe_int (fun _ _ => rfl)) (fun _ _ => rfl))) (se_con (w := .str [80]) pe_str (fun _ _ => congrArg V.str (by decide +kernel))) (nomark _)))
      (sss_one (ss_ret (ps_ret (se_tup (pe_tup sa_nil)))))
      sss_nil))
      (sss_one (ss_ret (ps_ret (se_con (w := .int 0) pe_int (fun _ _ => rfl)))))))
abbrev N_law_common : List Str := ["a", "b", "rest"]
theorem sc_law_common : FnScope N_law_common ["a", "b"] (defScope s_law_common) := ⟨rfl, rfl, rfl, by decide +kernel, rfl, by decide +kernel, by decide +kernel⟩
theorem ok_law_common {a_law_common : Addr} {d_law_common : FuncData} (D_law_common : DefAt c.K mg "_law_common" s_law_common ["a", "b"] a_law_common d_law_common)
    (z_int : mg "int" = none)
    (z_abs : mg "abs" = none) :
    FnOk P w c.K mg base (L2.CX P w) 1 a_law_common d_law_common ["a", "b"] (spM c f_law_common) :=
  okM D_law_common.F sc_law_common fun cdv A outer s H E hr G tk =>
      (sss_cons (ss_set (ps_set (i := 0) sc_law_common.nd rfl (Or.inl rfl) (se_cb (pe_callB cr_abs' (by rfl) z_abs (by decide +kernel) (sa_cons (pa_cons (se_var (pv 0)) sa_nil))))))
      (sss_cons (ss_set (ps_set (i := 1) sc_law_common.nd rfl (Or.inl rfl) (se_cb (pe_callB cr_abs' (by rfl) z_abs (by decide +kernel) (sa_cons (pa_cons (se_var (pv 1)) sa_nil))))))
      (sss_cons (ss_while (ps_while (passes_of rfl) (st_op (pt_cmpR (op_ne' G.hu64 G.hK) (se_var (pv 1)) (se_con (w := .int 0) pe_int (fun _ _ => rfl)) (nomark _)))
      (sss_cons (ss_set (ps_set (i := 2) sc_law_common.nd rfl (Or.inl rfl) (se_op (pe_op op_mod' (se_cb (pe_callTy cr_int' (by rfl) z_int (by decide +kernel) (sa_cons (pa_cons (se_var (pv 0)) sa_nil)))) (se_var (pv 1))))))
      (sss_cons (ss_set (ps_set (i := 0) sc_law_common.nd rfl (Or.inl rfl) (se_var (pv 1))))
      (sss_one (ss_set (ps_set (i := 1) sc_law_common.nd rfl (Or.inl rfl) (se_var (pv 2)))))))))
      (sss_one (ss_ret (ps_ret (se_var (pv 0))))))))
abbrev N_law_domain : List Str := ["c", "fields", "k", "field"]
theorem sc_law_domain : FnScope N_law_domain ["c"] (defScope s_law_domain) := ⟨rfl, rfl, rfl, by decide +kernel, rfl, by decide +kernel, by decide +kernel⟩
theorem ok_law_domain {a_law_domain a_law_take : Addr} {d_law_domain d_law_take : FuncData} (D_law_domain : DefAt c.K mg "_law_domain" s_law_domain ["c"] a_law_domain d_law_domain)
    (D_law_take : DefAt c.K mg "_law_take" s_law_take ["c", "many"] a_law_take d_law_take)
    (G_law_take : FnOk P w c.K mg base (L2.CX P w) 2 a_law_take d_law_take ["c", "many"] (spM c f_law_take)) :
    FnOk P w c.K mg base (L2.CX P w) 3 a_law_domain d_law_domain ["c"] (spM c f_law_domain) :=
  okM D_law_domain.F sc_law_domain fun cdv A outer s H E hr G tk =>
      (sss_cons (ss_set (ps_set (i := 1) sc_law_domain.nd rfl (Or.inl rfl) (se_lst (pe_lst (sa_cons (pa_cons (se_tup (pe_tup (sa_cons (pa_cons (se_con (w := .str [81]) pe_str (fun _ _ => congrArg V.str (by decide +kernel))) sa_nil)))) (sa_cons (pa_cons (se_tup (pe_tup (sa_cons (pa_cons (se_con (w := .str [81]) pe_str (fun _ _ => congrArg V.str (by decide +kernel))) sa_nil)))) (sa_cons (pa_cons (se_tup (pe_tup (sa_cons (pa_cons (se_con (w := .str [70]) pe_str (fun _ _ => congrArg V.str (by decide +kernel))) (sa_cons (pa_cons (se_con (w := .int 2) pe_int (fun _ _ => rfl)) sa_nil)))))) (sa_cons (pa_cons (se_tup (pe_tup (sa_cons (pa_cons (se_con (w := .str [70]) pe_str (fun _ _ => congrArg V.str (by decide +kernel))) (sa_cons (pa_cons (se_con (w := .int 3) pe_int (fun _ _ => rfl)) sa_nil)))))) (sa_cons (pa_cons (se_tup (pe_tup (sa_cons (pa_cons (se_con (w := .str [70]) pe_str (fun _ _ => congrArg V.str (by decide +kernel))) (sa_cons (pa_cons (se_con (w := .int 5) pe_int (fun _ _ => rfl)) sa_nil)))))) (sa_cons (pa_cons (se_tup (pe_tup (sa_cons (pa_cons (se_con (w := .str [70]) pe_str (fun _ _ => congrArg V.str (by decide +kernel))) (sa_cons (pa_cons (se_con (w := .int 7) pe_int (fun _ _ => rfl)) sa_nil)))))) (sa_cons (pa_cons (se_tup (pe_tup (sa_cons (pa_cons (se_con (w := .str [70]) pe_str (fun _ _ => congrArg V.str (by decide +kernel))) (sa_cons (pa_cons (se_con (w := .int 101) pe_int (fun _ _ => rfl)) sa_nil)))))) (sa_cons (pa_cons (se_tup (pe_tup (sa_cons (pa_cons (se_con (w := .str [70]) pe_str (fun _ _ => congrArg V.str (by decide +kernel))) (sa_cons (pa_cons (se_con (w := .int 65521) pe_int (fun _ _ => rfl)) sa_nil)))))) sa_nil))))))))))))))))))))
      (sss_cons (ss_set (ps_set (i := 2) sc_law_domain.nd rfl (Or.inl rfl) (se_call (pe_callS G_law_take (hr.mono (by omega)) (by rfl) D_law_take.m D_law_take.F.kp D_law_take.b (fun σ => (G.lets σ).fly) (sa_cons (pa_cons (se_var (pv 0)) (sa_cons (pa_cons (se_con (w := .int 6) pe_int (fun _ _ => rfl)) sa_nil))))))))
      (sss_cons (ss_set (ps_set (i := 3) sc_law_domain.nd rfl (Or.inl rfl) (se_op (pe_ix (ix_ok' G.hK) (se_var (pv 1)) (se_call (pe_callS G_law_take (hr.mono (by omega)) (by rfl) D_law_take.m D_law_take.F.kp D_law_take.b (fun σ => (G.lets σ).fly) (sa_cons (pa_cons (se_var (pv 0)) (sa_cons (pa_cons (se_con (w := .int 8) pe_int (fun _ _ => rfl)) sa_nil)))))) (fun _ _ => rfl)))))
      (sss_one (ss_ret (ps_ret (se_op (pe_ix (ix_ok' G.hK) (se_lst (pe_lst (sa_cons (pa_cons (se_tup (pe_tup (sa_cons (pa_cons (se_con (w := .str [90]) pe_str (fun _ _ => congrArg V.str (by decide +kernel))) sa_nil)))) (sa_cons (pa_cons (se_var (pv 3)) (sa_cons (pa_cons (se_var (pv 3)) (sa_cons (pa_cons (se_var (pv 3)) (sa_cons (pa_cons (se_tup (pe_tup (sa_cons (pa_cons (se_con (w := .str [80]) pe_str (fun _ _ => congrArg V.str (by decide +kernel))) (sa_cons (pa_cons (se_var (pv 3)) sa_nil)))))) (sa_cons (pa_cons (se_tup (pe_tup (sa_cons (pa_cons (se_con (w := .str [80]) pe_str (fun _ _ => congrArg V.str (by decide +kernel))) (sa_cons (pa_cons (se_var (pv 3)) sa_nil)))))) sa_nil)))))))))))))) (se_var (pv 2)) (fun _ _ => rfl)))))))))
abbrev N_law_small : List Str := ["c", "d", "n", "m", "g", "parts", "k"]
theorem sc_law_small : FnScope N_law_small ["c", "d"] (defScope s_law_small) := ⟨rfl, rfl, rfl, by decide +kernel, rfl, by decide +kernel, by decide +kernel⟩
theorem oks_law_small {a_law_small a_law_zero a_law_take a_law_common : Addr} {d_law_small d_law_zero d_law_take d_law_common : FuncData} (D_law_small : DefAt c.K mg "_law_small" s_law_small ["c", "d"] a_law_small d_law_small)
    (D_law_zero : DefAt c.K mg "_law_zero" s_law_zero ["d"] a_law_zero d_law_zero)
    (D_law_take : DefAt c.K mg "_law_take" s_law_take ["c", "many"] a_law_take d_law_take)
    (D_law_common : DefAt c.K mg "_law_common" s_law_common ["a", "b"] a_law_common d_law_common)
    (z_tuple : mg "tuple" = none)
    (z_range : mg "range" = none)
    (z_int : mg "int" = none)
    (G_law_zero : FnOk P w c.K mg base (L2.CX P w) 1 a_law_zero d_law_zero ["d"] (spM c f_law_zero))
    (G_law_take : FnOk P w c.K mg base (L2.CX P w) 2 a_law_take d_law_take ["c", "many"] (spM c f_law_take))
    (G_law_common : FnOk P w c.K mg base (L2.CX P w) 1 a_law_common d_law_common ["a", "b"] (spM c f_law_common)) :
    ∀ n : Nat, (FnOk P w c.K mg base (L2.CX P w) (2 + n) a_law_small d_law_small ["c", "d"] (spM c (f_law_small n)))
  | 0 => (none_left (fun vs H Q E h => spM_no h)).mono (Nat.zero_le _)
  | n + 1 => by
    have ih := oks_law_small D_law_small D_law_zero D_law_take D_law_common z_tuple z_range z_int G_law_zero G_law_take G_law_common n
    have G_law_small := ih
    exact okM D_law_small.F sc_law_small (k := 2 + n) fun cdv A outer s H E hr G tk =>
      (sss_cons (ss_set (ps_set (i := 2) sc_law_small.nd rfl (Or.inl rfl) (se_op (pe_ix (ix_ok' G.hK) (se_lst (pe_lst (sa_cons (pa_cons (se_op (pe_op op_sub' (se_call (pe_callS G_law_take (hr.mono (by omega)) (by rfl) D_law_take.m D_law_take.F.kp D_law_take.b (fun σ => (G.lets σ).fly) (sa_cons (pa_cons (se_var (pv 0)) (sa_cons (pa_cons (se_con (w := .int 9) pe_int (fun _ _ => rfl)) sa_nil)))))) (se_con (w := .int 4) pe_int (fun _ _ => rfl)))) (sa_cons (pa_cons (se_con (w := .int 0) pe_int (fun _ _ => rfl)) (sa_cons (pa_cons (se_con (w := .int 1) pe_int (fun _ _ => rfl)) (sa_cons (pa_cons (se_op (pe_op op_sub' (se_call (pe_callS G_law_take (hr.mono (by omega)) (by rfl) D_law_take.m D_law_take.F.kp D_law_take.b (fun σ => (G.lets σ).fly) (sa_cons (pa_cons (se_var (pv 0)) (sa_cons (pa_cons (se_con (w := .int 2000) pe_int (fun _ _ => rfl)) sa_nil)))))) (se_con (w := .int 999) pe_int (fun _ _ => rfl)))) sa_nil)))))))))) (se_call (pe_callS G_law_take (hr.mono (by omega)) (by rfl) D_law_take.m D_law_take.F.kp D_law_take.b (fun σ => (G.lets σ).fly) (sa_cons (pa_cons (se_var (pv 0)) (sa_cons (pa_cons (se_con (w := .int 4) pe_int (fun _ _ => rfl)) sa_nil)))))) (fun _ _ => rfl)))))
      (sss_cons (ss_if (ps_if (st_op (pt_cmpR (op_eq' G.hu64 G.hK) (se_op (pe_ix (ix_ok' G.hK) (se_var (pv 1)) (se_con (w := .int 0) pe_int (fun _ _ => rfl)) (fun _ _ => rfl))) (se_con (w := .str [70]) pe_str (fun _ _ => congrArg V.str (by decide +kernel))) (nomark _)))
      (sss_one (ss_ret (ps_ret (se_op (pe_op op_mod' (se_cb (pe_callTy cr_int' (by rfl) z_int (by decide +kernel) (sa_cons (pa_cons (se_var (pv 2)) sa_nil)))) (se_op (pe_ix (ix_ok' G.hK) (se_var (pv 1)) (se_con (w := .int 1) pe_int (fun _ _ => rfl)) (fun _ _ => rfl))))))))
      sss_nil))
      (sss_cons (ss_if (ps_if (st_op (pt_cmpR (op_eq' G.hu64 G.hK) (se_op (pe_ix (ix_ok' G.hK) (se_var (pv 1)) (se_con (w := .int 0) pe_int (fun _ _ => rfl)) (fun _ _ => rfl))) (se_con (w := .str [81]) pe_str (fun _ _ => congrArg V.str (by decide +kernel))) (nomark _)))
      (sss_cons (ss_set (ps_set (i := 3) sc_law_small.nd rfl (Or.inl rfl) (se_op (pe_op (op_add' G.hK) (se_con (w := .int 1) pe_int (fun _ _ => rfl)) (se_call (pe_callS G_law_take (hr.mono (by omega)) (by rfl) D_law_take.m D_law_take.F.kp D_law_take.b (fun σ => (G.lets σ).fly) (sa_cons (pa_cons (se_var (pv 0)) (sa_cons (pa_cons (se_con (w := .int 4) pe_int (fun _ _ => rfl)) sa_nil))))))))))
      (sss_cons (ss_set (ps_set (i := 4) sc_law_small.nd rfl (Or.inl rfl) (se_call (pe_callS G_law_common (hr.mono (by omega)) (by rfl) D_law_common.m D_law_common.F.kp D_law_common.b (fun σ => (G.lets σ).fly) (sa_cons (pa_cons (se_var (pv 2)) (sa_cons (pa_cons (se_var (pv 3)) sa_nil))))))))
      (sss_one (ss_ret (ps_ret (se_tup (pe_tup (sa_cons (pa_cons (se_op (pe_op op_div' (se_var (pv 2)) (se_var (pv 4)))) (sa_cons (pa_cons (se_op (pe_op op_div' (se_var (pv 3)) (se_var (pv 4)))) sa_nil)))))))))))
      sss_nil))
      (sss_cons (ss_if (ps_if (st_op (pt_cmpR (op_eq' G.hu64 G.hK) (se_op (pe_ix (ix_ok' G.hK) (se_var (pv 1)) (se_con (w := .int 0) pe_int (fun _ _ => rfl)) (fun _ _ => rfl))) (se_con (w := .str [80]) pe_str (fun _ _ => congrArg V.str (by decide +kernel))) (nomark _)))
      (sss_cons (ss_setLc (ng_name (by decide)) (ps_setLc2' (i := 5) (own := [("k", 6)]) (g := (gName 6)) G.lets (by rfl) sc_law_small.nd rfl rfl (sw_true rfl rfl rfl (by decide +kernel)) (si_range1 (pi_range1 (by rfl) z_range (sa_cons (pa_cons (se_call (pe_callS G_law_take (hr.mono (by omega)) (by rfl) D_law_take.m D_law_take.F.kp D_law_take.b (fun σ => (G.lets σ).fly) (sa_cons (pa_cons (se_var (pv 0)) (sa_cons (pa_cons (se_con (w := .int 4) pe_int (fun _ _ => rfl)) sa_nil)))))) sa_nil))) (hl_cons hl_nil)) (blkOk_by (own := [("k", 6)]) (N := N_law_small) (sc := (defScope s_law_small)) (by decide +kernel)) (fun _ _ _ _ _ _ => (pg_name (i := 6) sc_law_small.nd rfl (Or.inl rfl))) (fun _ _ _ _ _ _ _ _ => spts_nil) (fun E0 _ _ _ _ _ _ le => have G := G.bx le; (se_call (pe_callS G_law_small (hr.mono (by omega)) (by rfl) D_law_small.m D_law_small.F.kp D_law_small.b (fun σ => (G.lets σ).fly) (sa_cons (pa_cons (se_var (pv 0)) (sa_cons (pa_cons (se_op (pe_ix (ix_ok' G.hK) (se_var (pv 1)) (se_con (w := .int 1) pe_int (fun _ _ => rfl)) (fun _ _ => rfl))) sa_nil)))))))))
      (sss_cons (ss_while (ps_while (passes_of rfl) (PW.pt (sw_and (pw_and (tru_ok' G.hK (pt_truth (se_var (pv 5)) (by intro _; rfl))) (pw_and1 (st_op (pt_cmpR (op_eq' G.hu64 G.hK) (se_op (pe_ix (ix_ok' G.hK) (se_var (pv 5)) (se_un (pe_un un_neg' (se_con (w := .int 1) pe_int (fun _ _ => rfl)))) (fun _ _ => rfl))) (se_call (pe_callS G_law_zero (hr.mono (by omega)) (by rfl) D_law_zero.m D_law_zero.F.kp D_law_zero.b (fun σ => (G.lets σ).fly) (sa_cons (pa_cons (se_op (pe_ix (ix_ok' G.hK) (se_var (pv 1)) (se_con (w := .int 1) pe_int (fun _ _ => rfl)) (fun _ _ => rfl))) sa_nil)))) (nomark _)))))))
      (sss_one (ss_expr (ps_expr (se_bm0 G.hK (pe_bm0 PySem.F.plainAttrs_list PySem.F.slot_list_pop PySem.F.type_list_pop mt_pop' (se_var (pv 5)))))))))
      (sss_one (ss_ret (ps_ret (se_cb (pe_callTy (cr_tuple' G.hK) (by rfl) z_tuple (by decide +kernel) (sa_cons (pa_cons (se_var (pv 5)) sa_nil)))))))))
      sss_nil))
      (sss_one (ss_ret (ps_ret (se_var (pv 2)))))))))
abbrev N_law_matrix : List Str := ["c", "d", "m", "n", "i", "j"]
theorem sc_law_matrix : FnScope N_law_matrix ["c", "d", "m", "n"] (defScope s_law_matrix) := ⟨rfl, rfl, rfl, by decide +kernel, rfl, by decide +kernel, by decide +kernel⟩
theorem ok_law_matrix {a_law_matrix a_law_small : Addr} {d_law_matrix d_law_small : FuncData} (D_law_matrix : DefAt c.K mg "_law_matrix" s_law_matrix ["c", "d", "m", "n"] a_law_matrix d_law_matrix)
    (D_law_small : DefAt c.K mg "_law_small" s_law_small ["c", "d"] a_law_small d_law_small)
    (z_tuple : mg "tuple" = none)
    (z_range : mg "range" = none)
    (G_law_small : FnOk P w c.K mg base (L2.CX P w) 6 a_law_small d_law_small ["c", "d"] (spM c (f_law_small 4))) :
    FnOk P w c.K mg base (L2.CX P w) 7 a_law_matrix d_law_matrix ["c", "d", "m", "n"] (spM c f_law_matrix) :=
  okM D_law_matrix.F sc_law_matrix fun cdv A outer s H E hr G tk =>
      (sss_one (ss_ret (ps_ret (se_tup (pe_tup (sa_cons (pa_cons (se_var (pv 2)) (sa_cons (pa_cons (se_var (pv 3)) (sa_cons (pa_cons (se_cb (pe_callTy (cr_tuple' G.hK) (by rfl) z_tuple (by decide +kernel) (sa_cons (pa_cons (se_lc (ng_name (by decide)) (pe_lc2' (own := [("i", 4)]) (g := (gName 4)) G.lets (by rfl) sc_law_matrix.nd (si_range1 (pi_range1 (by rfl) z_range (sa_cons (pa_cons (se_var (pv 2)) sa_nil))) (hl_cons hl_nil)) (blkOk_by (own := [("i", 4)]) (N := N_law_matrix) (sc := (defScope s_law_matrix)) (by decide +kernel)) (fun _ _ _ _ _ _ => (pg_name (i := 4) sc_law_matrix.nd rfl (Or.inl rfl))) (fun _ _ _ _ _ _ _ _ => spts_nil) (fun E0 _ _ _ _ _ _ le => have G := G.bx le; (se_cb (pe_callTy (cr_tuple' G.hK) (by rfl) z_tuple (by decide +kernel) (sa_cons (pa_cons (se_lc (ng_name (by decide)) (pe_lc2' (own := [("j", 5)]) (g := (gName 5)) G.lets (by rfl) sc_law_matrix.nd (si_range1 (pi_range1 (by rfl) z_range (sa_cons (pa_cons (se_var (pv 3)) sa_nil))) (hl_cons hl_nil)) (blkOk_by (own := [("j", 5)]) (N := N_law_matrix) (sc := _) (by rfl)) (fun _ _ _ _ _ _ => (pg_name (i := 5) sc_law_matrix.nd rfl (Or.inl rfl))) (fun _ _ _ _ _ _ _ _ => spts_nil) (fun E0 _ _ _ _ _ _ le => have G := G.bx le; (se_call (pe_callS G_law_small (hr.mono (by omega)) (by rfl) D_law_small.m D_law_small.F.kp D_law_small.b (fun σ => (G.lets σ).fly) (sa_cons (pa_cons (se_var (pv 0)) (sa_cons (pa_cons (se_var (pv 1)) sa_nil))))))))) sa_nil))))))) sa_nil)))) sa_nil)))))))))))
abbrev N_law_domain_text : List Str := ["d"]
theorem sc_law_domain_text : FnScope N_law_domain_text ["d"] (defScope s_law_domain_text) := ⟨rfl, rfl, rfl, by decide +kernel, rfl, by decide +kernel, by decide +kernel⟩
theorem oks_law_domain_text {a_law_domain_text : Addr} {d_law_domain_text : FuncData} (D_law_domain_text : DefAt c.K mg "_law_domain_text" s_law_domain_text ["d"] a_law_domain_text d_law_domain_text)
    (z_str : mg "str" = none) :
    ∀ n : Nat, (FnOk P w c.K mg base (L2.CX P w) (0 + n) a_law_domain_text d_law_domain_text ["d"] (spM c (f_law_domain_text n)))
  | 0 => (none_left (fun vs H Q E h => spM_no h)).mono (Nat.zero_le _)
  | n + 1 => by
    have ih := oks_law_domain_text D_law_domain_text z_str n
    have G_law_domain_text := ih
    exact okM D_law_domain_text.F sc_law_domain_text (k := 0 + n) fun cdv A outer s H E hr G tk =>
      (sss_cons (ss_if (ps_if (st_op (pt_cmpR (op_eq' G.hu64 G.hK) (se_op (pe_ix (ix_ok' G.hK) (se_var (pv 0)) (se_con (w := .int 0) pe_int (fun _ _ => rfl)) (fun _ _ => rfl))) (se_con (w := .str [70]) pe_str (fun _ _ => congrArg V.str (by decide +kernel))) (nomark _)))
      (sss_one (ss_ret (ps_ret (se_op (pe_op (op_add' G.hK) (se_con (w := .str [70]) pe_str (fun _ _ => congrArg V.str (by decide +kernel))) (se_cb (pe_callTy cr_str' (by rfl) z_str (by decide +kernel) (sa_cons (pa_cons (se_op (pe_ix (ix_ok' G.hK) (se_var (pv 0)) (se_con (w := .int 1) pe_int (fun _ _ => rfl)) (fun _ _ => rfl))) sa_nil)))))))))
      sss_nil))
      (sss_cons (ss_if (ps_if (st_op (pt_cmpR (op_eq' G.hu64 G.hK) (se_op (pe_ix (ix_ok' G.hK) (se_var (pv 0)) (se_con (w := .int 0) pe_int (fun _ _ => rfl)) (fun _ _ => rfl))) (se_con (w := .str [80]) pe_str (fun _ _ => congrArg V.str (by decide +kernel))) (nomark _)))
      (sss_one (ss_ret (ps_ret (se_op (pe_op (op_add' G.hK) (se_con (w := .str [80]) pe_str (fun _ _ => congrArg V.str (by decide +kernel))) (se_call (pe_callS G_law_domain_text (hr.mono (by omega)) (by rfl) D_law_domain_text.m D_law_domain_text.F.kp D_law_domain_text.b (fun σ => (G.lets σ).fly) (sa_cons (pa_cons (se_op (pe_ix (ix_ok' G.hK) (se_var (pv 0)) (se_con (w := .int 1) pe_int (fun _ _ => rfl)) (fun _ _ => rfl))) sa_nil)))))))))
      sss_nil))
      (sss_one (ss_ret (ps_ret (se_op (pe_ix (ix_ok' G.hK) (se_var (pv 0)) (se_con (w := .int 0) pe_int (fun _ _ => rfl)) (fun _ _ => rfl))))))))
abbrev N_law_text : List Str := ["d", "x", "part"]
theorem sc_law_text : FnScope N_law_text ["d", "x"] (defScope s_law_text) := ⟨rfl, rfl, rfl, by decide +kernel, rfl, by decide +kernel, by decide +kernel⟩
theorem oks_law_text {a_law_text : Addr} {d_law_text : FuncData} (D_law_text : DefAt c.K mg "_law_text" s_law_text ["d", "x"] a_law_text d_law_text)
    (z_str : mg "str" = none)
    (z_int : mg "int" = none) :
    ∀ n : Nat, (FnOk P w c.K mg base (L2.CX P w) (0 + n) a_law_text d_law_text ["d", "x"] (spM c (f_law_text n)))
  | 0 => (none_left (fun vs H Q E h => spM_no h)).mono (Nat.zero_le _)
  | n + 1 => by
    have ih := oks_law_text D_law_text z_str z_int n
    have G_law_text := ih
    exact okM D_law_text.F sc_law_text (k := 0 + n) fun cdv A outer s H E hr G tk =>
      (sss_cons (ss_if (ps_if (st_op (pt_cmpR (op_eq' G.hu64 G.hK) (se_op (pe_ix (ix_ok' G.hK) (se_var (pv 0)) (se_con (w := .int 0) pe_int (fun _ _ => rfl)) (fun _ _ => rfl))) (se_con (w := .str [81]) pe_str (fun _ _ => congrArg V.str (by decide +kernel))) (nomark _)))
      (sss_one (ss_ret (ps_ret (se_op (pe_op (op_add' G.hK) (se_cb (pe_callTy cr_str' (by rfl) z_str (by decide +kernel) (sa_cons (pa_cons (se_op (pe_ix (ix_ok' G.hK) (se_var (pv 1)) (se_con (w := .int 0) pe_int (fun _ _ => rfl)) (fun _ _ => rfl))) sa_nil)))) (se_op (pe_ix (ix_ok' G.hK) (se_lst (pe_lst (sa_cons (pa_cons (se_op (pe_op (op_add' G.hK) (se_con (w := .str [47]) pe_str (fun _ _ => congrArg V.str (by decide +kernel))) (se_cb (pe_callTy cr_str' (by rfl) z_str (by decide +kernel) (sa_cons (pa_cons (se_op (pe_ix (ix_ok' G.hK) (se_var (pv 1)) (se_con (w := .int 1) pe_int (fun _ _ => rfl)) (fun _ _ => rfl))) sa_nil)))))) (sa_cons (pa_cons (se_con (w := .str []) pe_str (fun _ _ => congrArg V.str (by decide +kernel))) sa_nil)))))) (se_cb (pe_callTy cr_int' (by rfl) z_int (by decide +kernel) (sa_cons (pa_cons (se_op (pe_cmpR (op_eq' G.hu64 G.hK) (se_op (pe_ix (ix_ok' G.hK) (se_var (pv 1)) (se_con (w := .int 1) pe_int (fun _ _ => rfl)) (fun _ _ => rfl))) (se_con (w := .int 1) pe_int (fun _ _ => rfl)) (nomark _))) sa_nil)))) (fun _ _ => rfl))))))))
      sss_nil))
      (sss_cons (ss_if (ps_if (st_op (pt_cmpR (op_eq' G.hu64 G.hK) (se_op (pe_ix (ix_ok' G.hK) (se_var (pv 0)) (se_con (w := .int 0) pe_int (fun _ _ => rfl)) (fun _ _ => rfl))) (se_con (w := .str [80]) pe_str (fun _ _ => congrArg V.str (by decide +kernel))) (nomark _)))
      (sss_one (ss_ret (ps_ret (se_op (pe_op (op_add' G.hK) (se_op (pe_op (op_add' G.hK) (se_con (w := .str [123]) pe_str (fun _ _ => congrArg V.str (by decide +kernel))) (se_bm G.hK (pe_bm PySem.F.plainAttrs_str PySem.F.slot_str_join PySem.F.type_str_join (mt_join' G.hK) (se_con (w := .str [32]) pe_str (fun _ _ => congrArg V.str (by decide +kernel))) (sa_cons (pa_cons (se_lc (ng_name (by decide)) (pe_lc2' (own := [("part", 2)]) (g := (gName 2)) G.lets (by rfl) sc_law_text.nd (si_val G.hK (se_var (pv 1))) (blkOk_by (own := [("part", 2)]) (N := N_law_text) (sc := (defScope s_law_text)) (by decide +kernel)) (fun _ _ _ _ _ _ => (pg_name (i := 2) sc_law_text.nd rfl (Or.inl rfl))) (fun _ _ _ _ _ _ _ _ => spts_nil) (fun E0 _ _ _ _ _ _ le => have G := G.bx le; (se_call (pe_callS G_law_text (hr.mono (by omega)) (by rfl) D_law_text.m D_law_text.F.kp D_law_text.b (fun σ => (G.lets σ).fly) (sa_cons (pa_cons (se_op (pe_ix (ix_ok' G.hK) (se_var (pv 0)) (se_con (w := .int 1) pe_int (fun _ _ => rfl)) (fun _ _ => rfl))) (sa_cons (pa_cons (se_var (pv 2)) sa_nil))))))))) sa_nil)))))) (se_con (w := .str [125]) pe_str (fun _ _ => congrArg V.str (by decide +kernel))))))))
      sss_nil))
      (sss_one (ss_ret (ps_ret (se_cb (pe_callTy cr_str' (by rfl) z_str (by decide +kernel) (sa_cons (pa_cons (se_var (pv 1)) sa_nil)))))))))
abbrev N_law_vector_text : List Str := ["d", "v", "x"]
theorem sc_law_vector_text : FnScope N_law_vector_text ["d", "v"] (defScope s_law_vector_text) := ⟨rfl, rfl, rfl, by decide +kernel, rfl, by decide +kernel, by decide +kernel⟩
theorem ok_law_vector_text {a_law_vector_text a_law_text : Addr} {d_law_vector_text d_law_text : FuncData} (D_law_vector_text : DefAt c.K mg "_law_vector_text" s_law_vector_text ["d", "v"] a_law_vector_text d_law_vector_text)
    (D_law_text : DefAt c.K mg "_law_text" s_law_text ["d", "x"] a_law_text d_law_text)
    (G_law_text : FnOk P w c.K mg base (L2.CX P w) 4 a_law_text d_law_text ["d", "x"] (spM c (f_law_text 4))) :
    FnOk P w c.K mg base (L2.CX P w) 5 a_law_vector_text d_law_vector_text ["d", "v"] (spM c f_law_vector_text) :=
  okM D_law_vector_text.F sc_law_vector_text fun cdv A outer s H E hr G tk =>
      (sss_one (ss_ret (ps_ret (se_op (pe_op (op_add' G.hK) (se_op (pe_op (op_add' G.hK) (se_con (w := .str [60]) pe_str (fun _ _ => congrArg V.str (by decide +kernel))) (se_bm G.hK (pe_bm PySem.F.plainAttrs_str PySem.F.slot_str_join PySem.F.type_str_join (mt_join' G.hK) (se_con (w := .str [32]) pe_str (fun _ _ => congrArg V.str (by decide +kernel))) (sa_cons (pa_cons (se_lc (ng_name (by decide)) (pe_lc2' (own := [("x", 2)]) (g := (gName 2)) G.lets (by rfl) sc_law_vector_text.nd (si_val G.hK (se_var (pv 1))) (blkOk_by (own := [("x", 2)]) (N := N_law_vector_text) (sc := (defScope s_law_vector_text)) (by decide +kernel)) (fun _ _ _ _ _ _ => (pg_name (i := 2) sc_law_vector_text.nd rfl (Or.inl rfl))) (fun _ _ _ _ _ _ _ _ => spts_nil) (fun E0 _ _ _ _ _ _ le => have G := G.bx le; (se_call (pe_callS G_law_text (hr.mono (by omega)) (by rfl) D_law_text.m D_law_text.F.kp D_law_text.b (fun σ => (G.lets σ).fly) (sa_cons (pa_cons (se_var (pv 0)) (sa_cons (pa_cons (se_var (pv 2)) sa_nil))))))))) sa_nil)))))) (se_con (w := .str [62]) pe_str (fun _ _ => congrArg V.str (by decide +kernel))))))))
abbrev N_law_matrix_text : List Str := ["d", "a", "row", "x"]
theorem sc_law_matrix_text : FnScope N_law_matrix_text ["d", "a"] (defScope s_law_matrix_text) := ⟨rfl, rfl, rfl, by decide +kernel, rfl, by decide +kernel, by decide +kernel⟩
theorem ok_law_matrix_text {a_law_matrix_text a_law_text : Addr} {d_law_matrix_text d_law_text : FuncData} (D_law_matrix_text : DefAt c.K mg "_law_matrix_text" s_law_matrix_text ["d", "a"] a_law_matrix_text d_law_matrix_text)
    (D_law_text : DefAt c.K mg "_law_text" s_law_text ["d", "x"] a_law_text d_law_text)
    (z_str : mg "str" = none)
    (G_law_text : FnOk P w c.K mg base (L2.CX P w) 4 a_law_text d_law_text ["d", "x"] (spM c (f_law_text 4))) :
    FnOk P w c.K mg base (L2.CX P w) 5 a_law_matrix_text d_law_matrix_text ["d", "a"] (spM c f_law_matrix_text) :=
  okM D_law_matrix_text.F sc_law_matrix_text fun cdv A outer s H E hr G tk =>
      (sss_cons (ss_if (ps_if (PW.pt (sw_or (pw_or (st_op (pt_cmpR (op_eq' G.hu64 G.hK) (se_op (pe_ix (ix_ok' G.hK) (se_var (pv 1)) (se_con (w := .int 0) pe_int (fun _ _ => rfl)) (fun _ _ => rfl))) (se_con (w := .int 0) pe_int (fun _ _ => rfl)) (nomark _))) (pw_or1 (st_op (pt_cmpR (op_eq' G.hu64 G.hK) (se_op (pe_ix (ix_ok' G.hK) (se_var (pv 1)) (se_con (w := .int 1) pe_int (fun _ _ => rfl)) (fun _ _ => rfl))) (se_con (w := .int 0) pe_int (fun _ _ => rfl)) (nomark _)))))))
      (sss_one (ss_ret (ps_ret (se_op (pe_op (op_add' G.hK) (se_op (pe_op (op_add' G.hK) (se_op (pe_op (op_add' G.hK) (se_op (pe_op (op_add' G.hK) (se_con (w := .str [91]) pe_str (fun _ _ => congrArg V.str (by decide +kernel))) (se_cb (pe_callTy cr_str' (by rfl) z_str (by decide +kernel) (sa_cons (pa_cons (se_op (pe_ix (ix_ok' G.hK) (se_var (pv 1)) (se_con (w := .int 0) pe_int (fun _ _ => rfl)) (fun _ _ => rfl))) sa_nil)))))) (se_con (w := .str [120]) pe_str (fun _ _ => congrArg V.str (by decide +kernel))))) (se_cb (pe_callTy cr_str' (by rfl) z_str (by decide +kernel) (sa_cons (pa_cons (se_op (pe_ix (ix_ok' G.hK) (se_var (pv 1)) (se_con (w := .int 1) pe_int (fun _ _ => rfl)) (fun _ _ => rfl))) sa_nil)))))) (se_con (w := .str [93]) pe_str (fun _ _ => congrArg V.str (by decide +kernel))))))))
      sss_nil))
      (sss_one (ss_ret (ps_ret (se_op (pe_op (op_add' G.hK) (se_op (pe_op (op_add' G.hK) (se_con (w := .str [91]) pe_str (fun _ _ => congrArg V.str (by decide +kernel))) (se_bm G.hK (pe_bm PySem.F.plainAttrs_str PySem.F.slot_str_join PySem.F.type_str_join (mt_join' G.hK) (se_con (w := .str [59, 32]) pe_str (fun _ _ => congrArg V.str (by decide +kernel))) (sa_cons (pa_cons (se_lc (ng_name (by decide)) (pe_lc2' (own := [("row", 2)]) (g := (gName 2)) G.lets (by rfl) sc_law_matrix_text.nd (si_val G.hK (se_op (pe_ix (ix_ok' G.hK) (se_var (pv 1)) (se_con (w := .int 2) pe_int (fun _ _ => rfl)) (fun _ _ => rfl)))) (blkOk_by (own := [("row", 2)]) (N := N_law_matrix_text) (sc := (defScope s_law_matrix_text)) (by decide +kernel)) (fun _ _ _ _ _ _ => (pg_name (i := 2) sc_law_matrix_text.nd rfl (Or.inl rfl))) (fun _ _ _ _ _ _ _ _ => spts_nil) (fun E0 _ _ _ _ _ _ le => have G := G.bx le; (se_bm G.hK (pe_bm PySem.F.plainAttrs_str PySem.F.slot_str_join PySem.F.type_str_join (mt_join' G.hK) (se_con (w := .str [32]) pe_str (fun _ _ => congrArg V.str (by decide +kernel))) (sa_cons (pa_cons (se_lc (ng_name (by decide)) (pe_lc2' (own := [("x", 3)]) (g := (gName 3)) G.lets (by rfl) sc_law_matrix_text.nd (si_val G.hK (se_var (pv 2))) (blkOk_by (own := [("x", 3)]) (N := N_law_matrix_text) (sc := _) (by rfl)) (fun _ _ _ _ _ _ => (pg_name (i := 3) sc_law_matrix_text.nd rfl (Or.inl rfl))) (fun _ _ _ _ _ _ _ _ => spts_nil) (fun E0 _ _ _ _ _ _ le => have G := G.bx le; (se_call (pe_callS G_law_text (hr.mono (by omega)) (by rfl) D_law_text.m D_law_text.F.kp D_law_text.b (fun σ => (G.lets σ).fly) (sa_cons (pa_cons (se_var (pv 0)) (sa_cons (pa_cons (se_var (pv 3)) sa_nil))))))))) sa_nil))))))) sa_nil)))))) (se_con (w := .str [93]) pe_str (fun _ _ => congrArg V.str (by decide +kernel)))))))))
abbrev N_law_natural_of : List Str := ["text", "sign"]
theorem sc_law_natural_of : FnScope N_law_natural_of ["text"] (defScope s_law_natural_of) := ⟨rfl, rfl, rfl, by decide +kernel, rfl, by decide +kernel, by decide +kernel⟩
theorem ok_law_natural_of {a_law_natural_of : Addr} {d_law_natural_of : FuncData} (D_law_natural_of : DefAt c.K mg "_law_natural_of" s_law_natural_of ["text"] a_law_natural_of d_law_natural_of)
    (z_int : mg "int" = none)
    (z_len : mg "len" = none) :
    FnOk P w c.K mg base (L2.CX P w) 1 a_law_natural_of d_law_natural_of ["text"] (spM c f_law_natural_of) :=
  okM D_law_natural_of.F sc_law_natural_of fun cdv A outer s H E hr G tk =>
      (sss_cons (ss_if (ps_if (PW.pt (sw_or (pw_or (st_op (pt_cmpR (op_eq' G.hu64 G.hK) (se_var (pv 0)) (se_con (w := .str []) pe_str (fun _ _ => congrArg V.str (by decide +kernel))) (nomark _))) (pw_or1 (PW.pt (sw_and (pw_and (st_op (pt_cmpR op_gt' (se_cb (pe_callB (cr_len' G.hK) (by rfl) z_len (by decide +kernel) (sa_cons (pa_cons (se_var (pv 0)) sa_nil)))) (se_con (w := .int 1) pe_int (fun _ _ => rfl)) (nomark _))) (pw_and1 (st_op (pt_cmpR (op_eq' G.hu64 G.hK) (se_op (pe_ix (ix_ok' G.hK) (se_var (pv 0)) (se_con (w := .int 0) pe_int (fun _ _ => rfl)) (fun _ _ => rfl))) (se_con (w := .str [48]) pe_str (fun _ _ => congrArg V.str (by decide +kernel))) (nomark _)))))))))))
      (sss_one (ss_ret (ps_ret (se_con (w := .non) pe_non (fun _ _ => rfl)))))
      sss_nil))
      (sss_cons (ss_for (ps_for (passes_of rfl) rfl (si_val G.hK (se_var (pv 0))) (sg_name (pg_name (i := 1) sc_law_natural_of.nd rfl (Or.inl rfl)))
      (sss_one (ss_if (ps_if (st_op (pt_cmpR op_notIn' (se_var (pv 1)) (se_con (w := .str [48, 49, 50, 51, 52, 53, 54, 55, 56, 57]) pe_str (fun _ _ => congrArg V.str (by decide +kernel))) (by rfl)))
      (sss_one (ss_ret (ps_ret (se_con (w := .non) pe_non (fun _ _ => rfl)))))
      sss_nil)))))
      (sss_one (ss_ret (ps_ret (se_cb (pe_callTy cr_int' (by rfl) z_int (by decide +kernel) (sa_cons (pa_cons (se_var (pv 0)) sa_nil)))))))))
abbrev N_law_integer_of : List Str := ["text", "n"]
theorem sc_law_integer_of : FnScope N_law_integer_of ["text"] (defScope s_law_integer_of) := ⟨rfl, rfl, rfl, by decide +kernel, rfl, by decide +kernel, by decide +kernel⟩
theorem ok_law_integer_of {a_law_integer_of a_law_natural_of : Addr} {d_law_integer_of d_law_natural_of : FuncData} (D_law_integer_of : DefAt c.K mg "_law_integer_of" s_law_integer_of ["text"] a_law_integer_of d_law_integer_of)
    (D_law_natural_of : DefAt c.K mg "_law_natural_of" s_law_natural_of ["text"] a_law_natural_of d_law_natural_of)
    (G_law_natural_of : FnOk P w c.K mg base (L2.CX P w) 1 a_law_natural_of d_law_natural_of ["text"] (spM c f_law_natural_of)) :
    FnOk P w c.K mg base (L2.CX P w) 2 a_law_integer_of d_law_integer_of ["text"] (spM c f_law_integer_of) :=
  okM D_law_integer_of.F sc_law_integer_of fun cdv A outer s H E hr G tk =>
      (sss_cons (ss_if (ps_if (st_op (pt_cmpR (op_eq' G.hu64 G.hK) (se_sl (pe_slice (sl_ok' G.hK) (se_var (pv 0)) so_none (so_some (se_con (w := .int 1) pe_int (fun _ _ => rfl))))) (se_con (w := .str [45]) pe_str (fun _ _ => congrArg V.str (by decide +kernel))) (nomark _)))
      (sss_cons (ss_set (ps_set (i := 1) sc_law_integer_of.nd rfl (Or.inl rfl) (se_call (pe_callS G_law_natural_of (hr.mono (by omega)) (by rfl) D_law_natural_of.m D_law_natural_of.F.kp D_law_natural_of.b (fun σ => (G.lets σ).fly) (sa_cons (pa_cons (se_sl (pe_slice (sl_ok' G.hK) (se_var (pv 0)) (so_some (se_con (w := .int 1) pe_int (fun _ _ => rfl))) so_none)) sa_nil))))))
      (sss_cons (ss_if (ps_if (PW.pt (sw_or (pw_or (st_op (pt_cmpR op_is' (se_var (pv 1)) (se_con (w := .non) pe_non (fun _ _ => rfl)) (nomark _))) (pw_or1 (st_op (pt_cmpR (op_eq' G.hu64 G.hK) (se_var (pv 1)) (se_con (w := .int 0) pe_int (fun _ _ => rfl)) (nomark _)))))))
      (sss_one (ss_ret (ps_ret (se_con (w := .non) pe_non (fun _ _ => rfl)))))
      sss_nil))
      (sss_one (ss_ret (ps_ret (se_op (pe_op op_sub' (se_con (w := .int 0) pe_int (fun _ _ => rfl)) (se_var (pv 1)))))))))
      sss_nil))
      (sss_one (ss_ret (ps_ret (se_call (pe_callS G_law_natural_of (hr.mono (by omega)) (by rfl) D_law_natural_of.m D_law_natural_of.F.kp D_law_natural_of.b (fun σ => (G.lets σ).fly) (sa_cons (pa_cons (se_var (pv 0)) sa_nil))))))))
abbrev N_law_domain_of : List Str := ["text", "inner", "p", "k"]
theorem sc_law_domain_of : FnScope N_law_domain_of ["text"] (defScope s_law_domain_of) := ⟨rfl, rfl, rfl, by decide +kernel, rfl, by decide +kernel, by decide +kernel⟩
theorem oks_law_domain_of {a_law_domain_of a_law_natural_of : Addr} {d_law_domain_of d_law_natural_of : FuncData} (D_law_domain_of : DefAt c.K mg "_law_domain_of" s_law_domain_of ["text"] a_law_domain_of d_law_domain_of)
    (D_law_natural_of : DefAt c.K mg "_law_natural_of" s_law_natural_of ["text"] a_law_natural_of d_law_natural_of)
    (z_range : mg "range" = none)
    (z_int : mg "int" = none)
    (G_law_natural_of : FnOk P w c.K mg base (L2.CX P w) 1 a_law_natural_of d_law_natural_of ["text"] (spM c f_law_natural_of)) :
    ∀ n : Nat, (FnOk P w c.K mg base (L2.CX P w) (1 + n) a_law_domain_of d_law_domain_of ["text"] (spM c (f_law_domain_of n)))
  | 0 => (none_left (fun vs H Q E h => spM_no h)).mono (Nat.zero_le _)
  | n + 1 => by
    have ih := oks_law_domain_of D_law_domain_of D_law_natural_of z_range z_int G_law_natural_of n
    have G_law_domain_of := ih
    exact okM D_law_domain_of.F sc_law_domain_of (k := 1 + n) fun cdv A outer s H E hr G tk =>
      (sss_cons (ss_if (ps_if (st_op (pt_cmpR (op_in' G.hu G.hK) (se_var (pv 0)) (se_lst (pe_lst (sa_cons (pa_cons (se_con (w := .str [90]) pe_str (fun _ _ => congrArg V.str (by decide +kernel))) (sa_cons (pa_cons (se_con (w := .str [81]) pe_str (fun _ _ => congrArg V.str (by decide +kernel))) sa_nil)))))) (by rfl)))
      (sss_one (ss_ret (ps_ret (se_tup (pe_tup (sa_cons (pa_cons (se_var (pv 0)) sa_nil)))))))
      sss_nil))
      (sss_cons (ss_if (ps_if (PW.pt (sw_and (pw_and (st_op (pt_cmpR (op_eq' G.hu64 G.hK) (se_sl (pe_slice (sl_ok' G.hK) (se_var (pv 0)) so_none (so_some (se_con (w := .int 1) pe_int (fun _ _ => rfl))))) (se_con (w := .str [80]) pe_str (fun _ _ => congrArg V.str (by decide +kernel))) (nomark _))) (sw_and (pw_and (st_op (pt_cmpR (op_ne' G.hu64 G.hK) (se_sl (pe_slice (sl_ok' G.hK) (se_var (pv 0)) (so_some (se_con (w := .int 1) pe_int (fun _ _ => rfl))) so_none)) (se_con (w := .str [90]) pe_str (fun _ _ => congrArg V.str (by decide +kernel))) (nomark _))) (pw_and1 (st_op (pt_cmpR (op_ne' G.hu64 G.hK) (se_sl (pe_slice (sl_ok' G.hK) (se_var (pv 0)) (so_some (se_con (w := .int 1) pe_int (fun _ _ => rfl))) (so_some (se_con (w := .int 2) pe_int (fun _ _ => rfl))))) (se_con (w := .str [80]) pe_str (fun _ _ => congrArg V.str (by decide +kernel))) (nomark _)))))))))
      (sss_cons (ss_set (ps_set (i := 1) sc_law_domain_of.nd rfl (Or.inl rfl) (se_call (pe_callS G_law_domain_of (hr.mono (by omega)) (by rfl) D_law_domain_of.m D_law_domain_of.F.kp D_law_domain_of.b (fun σ => (G.lets σ).fly) (sa_cons (pa_cons (se_sl (pe_slice (sl_ok' G.hK) (se_var (pv 0)) (so_some (se_con (w := .int 1) pe_int (fun _ _ => rfl))) so_none)) sa_nil))))))
      (sss_cons (ss_if (ps_if (st_op (pt_cmpR op_is' (se_var (pv 1)) (se_con (w := .non) pe_non (fun _ _ => rfl)) (nomark _)))
      (sss_one (ss_ret (ps_ret (se_con (w := .non) pe_non (fun _ _ => rfl)))))
      sss_nil))
      (sss_one (ss_ret (ps_ret (se_tup (pe_tup (sa_cons (pa_cons (se_con (w := .str [80]) pe_str (fun _ _ => congrArg V.str (by decide +kernel))) (sa_cons (pa_cons (se_var (pv 1)) sa_nil)))))))))))
      sss_nil))
      (sss_cons (ss_set (ps_set (i := 2) sc_law_domain_of.nd rfl (Or.inl rfl) (se_call (pe_callS G_law_natural_of (hr.mono (by omega)) (by rfl) D_law_natural_of.m D_law_natural_of.F.kp D_law_natural_of.b (fun σ => (G.lets σ).fly) (sa_cons (pa_cons (se_sl (pe_slice (sl_ok' G.hK) (se_var (pv 0)) (so_some (se_con (w := .int 1) pe_int (fun _ _ => rfl))) so_none)) sa_nil))))))
      (sss_cons (ss_if (ps_if (PW.pt (sw_or (pw_or (st_op (pt_cmpR (op_ne' G.hu64 G.hK) (se_sl (pe_slice (sl_ok' G.hK) (se_var (pv 0)) so_none (so_some (se_con (w := .int 1) pe_int (fun _ _ => rfl))))) (se_con (w := .str [70]) pe_str (fun _ _ => congrArg V.str (by decide +kernel))) (nomark _))) (sw_or (pw_or (st_op (pt_cmpR op_is' (se_var (pv 2)) (se_con (w := .non) pe_non (fun _ _ => rfl)) (nomark _))) (sw_or (pw_or (st_op (pt_cmpR op_lt' (se_var (pv 2)) (se_con (w := .int 2) pe_int (fun _ _ => rfl)) (nomark _))) (pw_or1 (st_op (pt_cmpR op_gt' (se_var (pv 2)) (se_con (w := .int 65521) pe_int (fun _ _ => rfl)) (nomark _)))))))))))
      (sss_one (ss_ret (ps_ret (se_con (w := .non) pe_non (fun _ _ => rfl)))))
      sss_nil))
      (sss_cons (ss_for (ps_for (passes_of rfl) rfl (si_range2 (pi_range2 (by rfl) z_range (sa_cons (pa_cons (se_con (w := .int 2) pe_int (fun _ _ => rfl)) (sa_cons (pa_cons (se_con (w := .int 256) pe_int (fun _ _ => rfl)) sa_nil))))) (hl_cons (hl_cons hl_nil))) (sg_name (pg_name (i := 3) sc_law_domain_of.nd rfl (Or.inl rfl)))
      (sss_one (ss_if (ps_if (PW.pt (sw_and (pw_and (st_op (pt_cmpR op_le' (se_op (pe_op (op_mul' G.hK) (se_var (pv 3)) (se_var (pv 3)))) (se_var (pv 2)) (nomark _))) (pw_and1 (st_op (pt_cmpR (op_eq' G.hu64 G.hK) (se_op (pe_op op_mod' (se_cb (pe_callTy cr_int' (by rfl) z_int (by decide +kernel) (sa_cons (pa_cons (se_var (pv 2)) sa_nil)))) (se_var (pv 3)))) (se_con (w := .int 0) pe_int (fun _ _ => rfl)) (nomark _)))))))
      (sss_one (ss_ret (ps_ret (se_con (w := .non) pe_non (fun _ _ => rfl)))))
      sss_nil)))))
      (sss_one (ss_ret (ps_ret (se_tup (pe_tup (sa_cons (pa_cons (se_con (w := .str [70]) pe_str (fun _ _ => congrArg V.str (by decide +kernel))) (sa_cons (pa_cons (se_var (pv 2)) sa_nil))))))))))))))
abbrev N_law_element_of : List Str := ["d", "text", "parts", "rows", "n", "m", "part"]
theorem sc_law_element_of : FnScope N_law_element_of ["d", "text"] (defScope s_law_element_of) := ⟨rfl, rfl, rfl, by decide +kernel, rfl, by decide +kernel, by decide +kernel⟩
theorem oks_law_element_of {a_law_element_of a_law_integer_of a_law_common a_law_natural_of a_law_zero : Addr} {d_law_element_of d_law_integer_of d_law_common d_law_natural_of d_law_zero : FuncData} (D_law_element_of : DefAt c.K mg "_law_element_of" s_law_element_of ["d", "text"] a_law_element_of d_law_element_of)
    (D_law_integer_of : DefAt c.K mg "_law_integer_of" s_law_integer_of ["text"] a_law_integer_of d_law_integer_of)
    (D_law_common : DefAt c.K mg "_law_common" s_law_common ["a", "b"] a_law_common d_law_common)
    (D_law_natural_of : DefAt c.K mg "_law_natural_of" s_law_natural_of ["text"] a_law_natural_of d_law_natural_of)
    (D_law_zero : DefAt c.K mg "_law_zero" s_law_zero ["d"] a_law_zero d_law_zero)
    (z_len : mg "len" = none)
    (z_tuple : mg "tuple" = none)
    (G_law_integer_of : FnOk P w c.K mg base (L2.CX P w) 2 a_law_integer_of d_law_integer_of ["text"] (spM c f_law_integer_of))
    (G_law_common : FnOk P w c.K mg base (L2.CX P w) 1 a_law_common d_law_common ["a", "b"] (spM c f_law_common))
    (G_law_natural_of : FnOk P w c.K mg base (L2.CX P w) 1 a_law_natural_of d_law_natural_of ["text"] (spM c f_law_natural_of))
    (G_law_zero : FnOk P w c.K mg base (L2.CX P w) 1 a_law_zero d_law_zero ["d"] (spM c f_law_zero)) :
    ∀ n : Nat, (FnOk P w c.K mg base (L2.CX P w) (2 + n) a_law_element_of d_law_element_of ["d", "text"] (spM c (f_law_element_of n)))
  | 0 => (none_left (fun vs H Q E h => spM_no h)).mono (Nat.zero_le _)
  | n + 1 => by
    have ih := oks_law_element_of D_law_element_of D_law_integer_of D_law_common D_law_natural_of D_law_zero z_len z_tuple G_law_integer_of G_law_common G_law_natural_of G_law_zero n
    have G_law_element_of := ih
    exact okM D_law_element_of.F sc_law_element_of (k := 2 + n) fun cdv A outer s H E hr G tk =>
      (sss_cons (ss_if (ps_if (st_op (pt_cmpR (op_eq' G.hu64 G.hK) (se_op (pe_ix (ix_ok' G.hK) (se_var (pv 0)) (se_con (w := .int 0) pe_int (fun _ _ => rfl)) (fun _ _ => rfl))) (se_con (w := .str [80]) pe_str (fun _ _ => congrArg V.str (by decide +kernel))) (nomark _)))
      (sss_cons (ss_if (ps_if (st_op (pt_cmpR (op_eq' G.hu64 G.hK) (se_var (pv 1)) (se_con (w := .str [123, 125]) pe_str (fun _ _ => congrArg V.str (by decide +kernel))) (nomark _)))
      (sss_one (ss_ret (ps_ret (se_tup (pe_tup sa_nil)))))
      sss_nil))
      (sss_cons (ss_if (ps_if (PW.pt (sw_or (pw_or (st_op (pt_cmpR op_lt' (se_cb (pe_callB (cr_len' G.hK) (by rfl) z_len (by decide +kernel) (sa_cons (pa_cons (se_var (pv 1)) sa_nil)))) (se_con (w := .int 3) pe_int (fun _ _ => rfl)) (nomark _))) (sw_or (pw_or (st_op (pt_cmpR (op_ne' G.hu64 G.hK) (se_op (pe_ix (ix_ok' G.hK) (se_var (pv 1)) (se_con (w := .int 0) pe_int (fun _ _ => rfl)) (fun _ _ => rfl))) (se_con (w := .str [123]) pe_str (fun _ _ => congrArg V.str (by decide +kernel))) (nomark _))) (pw_or1 (st_op (pt_cmpR (op_ne' G.hu64 G.hK) (se_op (pe_ix (ix_ok' G.hK) (se_var (pv 1)) (se_un (pe_un un_neg' (se_con (w := .int 1) pe_int (fun _ _ => rfl)))) (fun _ _ => rfl))) (se_con (w := .str [125]) pe_str (fun _ _ => congrArg V.str (by decide +kernel))) (nomark _)))))))))
      (sss_one (ss_ret (ps_ret (se_con (w := .non) pe_non (fun _ _ => rfl)))))
      sss_nil))
      (sss_cons (ss_setLc (ng_name (by decide)) (ps_setLc2' (i := 2) (own := [("part", 6)]) (g := (gName 6)) G.lets (by rfl) sc_law_element_of.nd rfl rfl (sw_true rfl rfl rfl (by decide +kernel)) (si_val G.hK (se_bm G.hK (pe_bm PySem.F.plainAttrs_str PySem.F.slot_str_split PySem.F.type_str_split mt_split' (se_sl (pe_slice (sl_ok' G.hK) (se_var (pv 1)) (so_some (se_con (w := .int 1) pe_int (fun _ _ => rfl))) (so_some (se_un (pe_un un_neg' (se_con (w := .int 1) pe_int (fun _ _ => rfl))))))) (sa_cons (pa_cons (se_con (w := .str [32]) pe_str (fun _ _ => congrArg V.str (by decide +kernel))) sa_nil))))) (blkOk_by (own := [("part", 6)]) (N := N_law_element_of) (sc := (defScope s_law_element_of)) (by decide +kernel)) (fun _ _ _ _ _ _ => (pg_name (i := 6) sc_law_element_of.nd rfl (Or.inl rfl))) (fun _ _ _ _ _ _ _ _ => spts_nil) (fun E0 _ _ _ _ _ _ le => have G := G.bx le; (se_call (pe_callS G_law_element_of (hr.mono (by omega)) (by rfl) D_law_element_of.m D_law_element_of.F.kp D_law_element_of.b (fun σ => (G.lets σ).fly) (sa_cons (pa_cons (se_op (pe_ix (ix_ok' G.hK) (se_var (pv 0)) (se_con (w := .int 1) pe_int (fun _ _ => rfl)) (fun _ _ => rfl))) (sa_cons (pa_cons (se_var (pv 6)) sa_nil)))))))))
      (sss_cons (ss_if (ps_if (PW.pt (sw_or (pw_or (st_op (pt_cmpR (op_in' G.hu G.hK) (se_con (w := .non) pe_non (fun _ _ => rfl)) (se_var (pv 2)) (by rfl))) (pw_or1 (st_op (pt_cmpR (op_eq' G.hu64 G.hK) (se_op (pe_ix (ix_ok' G.hK) (se_var (pv 2)) (se_un (pe_un un_neg' (se_con (w := .int 1) pe_int (fun _ _ => rfl)))) (fun _ _ => rfl))) (se_call (pe_callS G_law_zero (hr.mono (by omega)) (by rfl) D_law_zero.m D_law_zero.F.kp D_law_zero.b (fun σ => (G.lets σ).fly) (sa_cons (pa_cons (se_op (pe_ix (ix_ok' G.hK) (se_var (pv 0)) (se_con (w := .int 1) pe_int (fun _ _ => rfl)) (fun _ _ => rfl))) sa_nil)))) (nomark _)))))))
      (sss_one (ss_ret (ps_ret (se_con (w := .non) pe_non (fun _ _ => rfl)))))
      sss_nil))
      (sss_one (ss_ret (ps_ret (se_cb (pe_callTy (cr_tuple' G.hK) (by rfl) z_tuple (by decide +kernel) (sa_cons (pa_cons (se_var (pv 2)) sa_nil)))))))))))
      sss_nil))
      (sss_cons (ss_if (ps_if (PW.pt (sw_and (pw_and (st_op (pt_cmpR (op_eq' G.hu64 G.hK) (se_op (pe_ix (ix_ok' G.hK) (se_var (pv 0)) (se_con (w := .int 0) pe_int (fun _ _ => rfl)) (fun _ _ => rfl))) (se_con (w := .str [81]) pe_str (fun _ _ => congrArg V.str (by decide +kernel))) (nomark _))) (pw_and1 (st_op (pt_cmpR (op_in' G.hu G.hK) (se_con (w := .str [47]) pe_str (fun _ _ => congrArg V.str (by decide +kernel))) (se_var (pv 1)) (by rfl)))))))
      (sss_cons (ss_set (ps_set (i := 3) sc_law_element_of.nd rfl (Or.inl rfl) (se_bm G.hK (pe_bm PySem.F.plainAttrs_str PySem.F.slot_str_split PySem.F.type_str_split mt_split' (se_var (pv 1)) (sa_cons (pa_cons (se_con (w := .str [47]) pe_str (fun _ _ => congrArg V.str (by decide +kernel))) sa_nil))))))
      (sss_cons (ss_set (ps_set (i := 4) sc_law_element_of.nd rfl (Or.inl rfl) (se_call (pe_callS G_law_integer_of (hr.mono (by omega)) (by rfl) D_law_integer_of.m D_law_integer_of.F.kp D_law_integer_of.b (fun σ => (G.lets σ).fly) (sa_cons (pa_cons (se_op (pe_ix (ix_ok' G.hK) (se_var (pv 3)) (se_con (w := .int 0) pe_int (fun _ _ => rfl)) (fun _ _ => rfl))) sa_nil))))))
      (sss_cons (ss_set (ps_set (i := 5) sc_law_element_of.nd rfl (Or.inl rfl) (se_call (pe_callS G_law_natural_of (hr.mono (by omega)) (by rfl) D_law_natural_of.m D_law_natural_of.F.kp D_law_natural_of.b (fun σ => (G.lets σ).fly) (sa_cons (pa_cons (se_op (pe_ix (ix_ok' G.hK) (se_var (pv 3)) (se_con (w := .int 1) pe_int (fun _ _ => rfl)) (fun _ _ => rfl))) sa_nil))))))
      (sss_cons (ss_if (ps_if (PW.pt (sw_or (pw_or (st_op (pt_cmpR (op_ne' G.hu64 G.hK) (se_cb (pe_callB (cr_len' G.hK) (by rfl) z_len (by decide +kernel) (sa_cons (pa_cons (se_var (pv 3)) sa_nil)))) (se_con (w := .int 2) pe_int (fun _ _ => rfl)) (nomark _))) (sw_or (pw_or (st_op (pt_cmpR op_is' (se_var (pv 4)) (se_con (w := .non) pe_non (fun _ _ => rfl)) (nomark _))) (sw_or (pw_or (st_op (pt_cmpR op_is' (se_var (pv 5)) (se_con (w := .non) pe_non (fun _ _ => rfl)) (nomark _))) (sw_or (pw_or (st_op (pt_cmpR op_lt' (se_var (pv 5)) (se_con (w := .int 2) pe_int (fun _ _ => rfl)) (nomark _))) (pw_or1 (st_op (pt_cmpR (op_ne' G.hu64 G.hK) (se_call (pe_callS G_law_common (hr.mono (by omega)) (by rfl) D_law_common.m D_law_common.F.kp D_law_common.b (fun σ => (G.lets σ).fly) (sa_cons (pa_cons (se_var (pv 4)) (sa_cons (pa_cons (se_var (pv 5)) sa_nil)))))) (se_con (w := .int 1) pe_int (fun _ _ => rfl)) (nomark _)))))))))))))
      (sss_one (ss_ret (ps_ret (se_con (w := .non) pe_non (fun _ _ => rfl)))))
      sss_nil))
      (sss_one (ss_ret (ps_ret (se_tup (pe_tup (sa_cons (pa_cons (se_var (pv 4)) (sa_cons (pa_cons (se_var (pv 5)) sa_nil)))))))))))))
      sss_nil))
      (sss_cons (ss_set (ps_set (i := 4) sc_law_element_of.nd rfl (Or.inl rfl) (se_call (pe_callS G_law_integer_of (hr.mono (by omega)) (by rfl) D_law_integer_of.m D_law_integer_of.F.kp D_law_integer_of.b (fun σ => (G.lets σ).fly) (sa_cons (pa_cons (se_var (pv 1)) sa_nil))))))
      (sss_cons (ss_if (ps_if (PW.pt (sw_or (pw_or (st_op (pt_cmpR op_is' (se_var (pv 4)) (se_con (w := .non) pe_non (fun _ _ => rfl)) (nomark _))) (pw_or1 (PW.pt (sw_and (pw_and (st_op (pt_cmpR (op_eq' G.hu64 G.hK) (se_op (pe_ix (ix_ok' G.hK) (se_var (pv 0)) (se_con (w := .int 0) pe_int (fun _ _ => rfl)) (fun _ _ => rfl))) (se_con (w := .str [70]) pe_str (fun _ _ => congrArg V.str (by decide +kernel))) (nomark _))) (pw_and1 (st_not (pt_not (st_chain (pt_chain op_le' op_lt' (se_con (w := .int 0) pe_int (fun _ _ => rfl)) (se_var (pv 4)) (se_op (pe_ix (ix_ok' G.hK) (se_var (pv 0)) (se_con (w := .int 1) pe_int (fun _ _ => rfl)) (fun _ _ => rfl)))))))))))))))
      (sss_one (ss_ret (ps_ret (se_con (w := .non) pe_non (fun _ _ => rfl)))))
      sss_nil))
      (sss_cons (ss_if (ps_if (st_op (pt_cmpR (op_eq' G.hu64 G.hK) (se_op (pe_ix (ix_ok' G.hK) (se_var (pv 0)) (se_con (w := .int 0) pe_int (fun _ _ => rfl)) (fun _ _ => rfl))) (se_con (w := .str [81]) pe_str (fun _ _ => congrArg V.str (by decide +kernel))) (nomark _)))
      (sss_one (ss_ret (ps_ret (se_tup (pe_tup (sa_cons (pa_cons (se_var (pv 4)) (sa_cons (pa_cons (se_con (w := .int 1) pe_int (fun _ _ => rfl)) sa_nil)))))))))
      sss_nil))
      (sss_one (ss_ret (ps_ret (se_var (pv 4))))))))))
abbrev N_law_pieces : List Str := ["text", "found", "depth", "sign"]
theorem sc_law_pieces : FnScope N_law_pieces ["text"] (defScope s_law_pieces) := ⟨rfl, rfl, rfl, by decide +kernel, rfl, by decide +kernel, by decide +kernel⟩
theorem ok_law_pieces {a_law_pieces : Addr} {d_law_pieces : FuncData} (D_law_pieces : DefAt c.K mg "_law_pieces" s_law_pieces ["text"] a_law_pieces d_law_pieces)
    (z_int : mg "int" = none) :
    FnOk P w c.K mg base (L2.CX P w) 1 a_law_pieces d_law_pieces ["text"] (spM c f_law_pieces) :=
  okM D_law_pieces.F sc_law_pieces fun cdv A outer s H E hr G tk =>
      (sss_cons (ss_set (ps_set (i := 1) sc_law_pieces.nd rfl (Or.inl rfl) (se_lst (pe_lst (sa_cons (pa_cons (se_con (w := .str []) pe_str (fun _ _ => congrArg V.str (by decide +kernel))) sa_nil))))))
      (sss_cons (ss_set (ps_set (i := 2) sc_law_pieces.nd rfl (Or.inl rfl) (se_con (w := .int 0) pe_int (fun _ _ => rfl))))
      (sss_cons (ss_for (ps_for (passes_of rfl) rfl (si_val G.hK (se_var (pv 0))) (sg_name (pg_name (i := 3) sc_law_pieces.nd rfl (Or.inl rfl)))
      (sss_cons (ss_set (ps_set (i := 2) sc_law_pieces.nd rfl (Or.inl rfl) (se_op (pe_op op_sub' (se_op (pe_op (op_add' G.hK) (se_var (pv 2)) (se_cb (pe_callTy cr_int' (by rfl) z_int (by decide +kernel) (sa_cons (pa_cons (se_op (pe_cmpR (op_eq' G.hu64 G.hK) (se_var (pv 3)) (se_con (w := .str [123]) pe_str (fun _ _ => congrArg V.str (by decide +kernel))) (nomark _))) sa_nil)))))) (se_cb (pe_callTy cr_int' (by rfl) z_int (by decide +kernel) (sa_cons (pa_cons (se_op (pe_cmpR (op_eq' G.hu64 G.hK) (se_var (pv 3)) (se_con (w := .str [125]) pe_str (fun _ _ => congrArg V.str (by decide +kernel))) (nomark _))) sa_nil))))))))
      (sss_one (ss_if (ps_if (PW.pt (sw_and (pw_and (st_op (pt_cmpR (op_eq' G.hu64 G.hK) (se_var (pv 3)) (se_con (w := .str [32]) pe_str (fun _ _ => congrArg V.str (by decide +kernel))) (nomark _))) (pw_and1 (st_op (pt_cmpR (op_eq' G.hu64 G.hK) (se_var (pv 2)) (se_con (w := .int 0) pe_int (fun _ _ => rfl)) (nomark _)))))))
      (sss_one (ss_expr (ps_expr (se_bm G.hK (pe_bm PySem.F.plainAttrs_list PySem.F.slot_list_append PySem.F.type_list_append mt_append' (se_var (pv 1)) (sa_cons (pa_cons (se_con (w := .str []) pe_str (fun _ _ => congrArg V.str (by decide +kernel))) sa_nil)))))))
      (sss_one (ss_asg (ps_asg (se_op (pe_op (op_add' G.hK) (se_op (pe_ix (ix_ok' G.hK) (se_var (pv 1)) (se_un (pe_un un_neg' (se_con (w := .int 1) pe_int (fun _ _ => rfl)))) (fun _ _ => rfl))) (se_var (pv 3)))) (sg_sub G (pg_sub (se_var (pv 1)) (se_un (pe_un un_neg' (se_con (w := .int 1) pe_int (fun _ _ => rfl)))) set_list)))))))))))
      (sss_one (ss_ret (ps_ret (se_var (pv 1))))))))
abbrev N_law_list_of : List Str := ["d", "text", "parts", "part"]
theorem sc_law_list_of : FnScope N_law_list_of ["d", "text"] (defScope s_law_list_of) := ⟨rfl, rfl, rfl, by decide +kernel, rfl, by decide +kernel, by decide +kernel⟩
theorem ok_law_list_of {a_law_list_of a_law_pieces a_law_element_of : Addr} {d_law_list_of d_law_pieces d_law_element_of : FuncData} (D_law_list_of : DefAt c.K mg "_law_list_of" s_law_list_of ["d", "text"] a_law_list_of d_law_list_of)
    (D_law_pieces : DefAt c.K mg "_law_pieces" s_law_pieces ["text"] a_law_pieces d_law_pieces)
    (D_law_element_of : DefAt c.K mg "_law_element_of" s_law_element_of ["d", "text"] a_law_element_of d_law_element_of)
    (z_tuple : mg "tuple" = none)
    (G_law_pieces : FnOk P w c.K mg base (L2.CX P w) 1 a_law_pieces d_law_pieces ["text"] (spM c f_law_pieces))
    (G_law_element_of : FnOk P w c.K mg base (L2.CX P w) 6 a_law_element_of d_law_element_of ["d", "text"] (spM c (f_law_element_of 4))) :
    FnOk P w c.K mg base (L2.CX P w) 7 a_law_list_of d_law_list_of ["d", "text"] (spM c f_law_list_of) :=
  okM D_law_list_of.F sc_law_list_of fun cdv A outer s H E hr G tk =>
      (sss_cons (ss_setLc (ng_name (by decide)) (ps_setLc2' (i := 2) (own := [("part", 3)]) (g := (gName 3)) G.lets (by rfl) sc_law_list_of.nd rfl rfl (sw_true rfl rfl rfl (by decide +kernel)) (si_val G.hK (se_call (pe_callS G_law_pieces (hr.mono (by omega)) (by rfl) D_law_pieces.m D_law_pieces.F.kp D_law_pieces.b (fun σ => (G.lets σ).fly) (sa_cons (pa_cons (se_var (pv 1)) sa_nil))))) (blkOk_by (own := [("part", 3)]) (N := N_law_list_of) (sc := (defScope s_law_list_of)) (by decide +kernel)) (fun _ _ _ _ _ _ => (pg_name (i := 3) sc_law_list_of.nd rfl (Or.inl rfl))) (fun _ _ _ _ _ _ _ _ => spts_nil) (fun E0 _ _ _ _ _ _ le => have G := G.bx le; (se_call (pe_callS G_law_element_of (hr.mono (by omega)) (by rfl) D_law_element_of.m D_law_element_of.F.kp D_law_element_of.b (fun σ => (G.lets σ).fly) (sa_cons (pa_cons (se_var (pv 0)) (sa_cons (pa_cons (se_var (pv 3)) sa_nil)))))))))
      (sss_cons (ss_if (ps_if (st_op (pt_cmpR (op_in' G.hu G.hK) (se_con (w := .non) pe_non (fun _ _ => rfl)) (se_var (pv 2)) (by rfl)))
      (sss_one (ss_ret (ps_ret (se_con (w := .non) pe_non (fun _ _ => rfl)))))
      sss_nil))
      (sss_one (ss_ret (ps_ret (se_cb (pe_callTy (cr_tuple' G.hK) (by rfl) z_tuple (by decide +kernel) (sa_cons (pa_cons (se_var (pv 2)) sa_nil)))))))))
abbrev N_law_vector_of : List Str := ["d", "text"]
theorem sc_law_vector_of : FnScope N_law_vector_of ["d", "text"] (defScope s_law_vector_of) := ⟨rfl, rfl, rfl, by decide +kernel, rfl, by decide +kernel, by decide +kernel⟩
theorem ok_law_vector_of {a_law_vector_of a_law_list_of : Addr} {d_law_vector_of d_law_list_of : FuncData} (D_law_vector_of : DefAt c.K mg "_law_vector_of" s_law_vector_of ["d", "text"] a_law_vector_of d_law_vector_of)
    (D_law_list_of : DefAt c.K mg "_law_list_of" s_law_list_of ["d", "text"] a_law_list_of d_law_list_of)
    (z_len : mg "len" = none)
    (G_law_list_of : FnOk P w c.K mg base (L2.CX P w) 7 a_law_list_of d_law_list_of ["d", "text"] (spM c f_law_list_of)) :
    FnOk P w c.K mg base (L2.CX P w) 8 a_law_vector_of d_law_vector_of ["d", "text"] (spM c f_law_vector_of) :=
  okM D_law_vector_of.F sc_law_vector_of fun cdv A outer s H E hr G tk =>
      (sss_cons (ss_if (ps_if (PW.pt (sw_or (pw_or (st_op (pt_cmpR op_lt' (se_cb (pe_callB (cr_len' G.hK) (by rfl) z_len (by decide +kernel) (sa_cons (pa_cons (se_var (pv 1)) sa_nil)))) (se_con (w := .int 2) pe_int (fun _ _ => rfl)) (nomark _))) (sw_or (pw_or (st_op (pt_cmpR (op_ne' G.hu64 G.hK) (se_op (pe_ix (ix_ok' G.hK) (se_var (pv 1)) (se_con (w := .int 0) pe_int (fun _ _ => rfl)) (fun _ _ => rfl))) (se_con (w := .str [60]) pe_str (fun _ _ => congrArg V.str (by decide +kernel))) (nomark _))) (pw_or1 (st_op (pt_cmpR (op_ne' G.hu64 G.hK) (se_op (pe_ix (ix_ok' G.hK) (se_var (pv 1)) (se_un (pe_un un_neg' (se_con (w := .int 1) pe_int (fun _ _ => rfl)))) (fun _ _ => rfl))) (se_con (w := .str [62]) pe_str (fun _ _ => congrArg V.str (by decide +kernel))) (nomark _)))))))))
      (sss_one (ss_ret (ps_ret (se_con (w := .non) pe_non (fun _ _ => rfl)))))
      sss_nil))
      (sss_cons (ss_if (ps_if (st_op (pt_cmpR (op_eq' G.hu64 G.hK) (se_var (pv 1)) (se_con (w := .str [60, 62]) pe_str (fun _ _ => congrArg V.str (by decide +kernel))) (nomark _)))
      (sss_one (ss_ret (ps_ret (se_tup (pe_tup sa_nil)))))
      sss_nil))
      (sss_one (ss_ret (ps_ret (se_call (pe_callS G_law_list_of (hr.mono (by omega)) (by rfl) D_law_list_of.m D_law_list_of.F.kp D_law_list_of.b (fun σ => (G.lets σ).fly) (sa_cons (pa_cons (se_var (pv 0)) (sa_cons (pa_cons (se_sl (pe_slice (sl_ok' G.hK) (se_var (pv 1)) (so_some (se_con (w := .int 1) pe_int (fun _ _ => rfl))) (so_some (se_un (pe_un un_neg' (se_con (w := .int 1) pe_int (fun _ _ => rfl))))))) sa_nil)))))))))))
abbrev N_law_matrix_of : List Str := ["d", "text", "inner", "rows", "sizes", "row", "part"]
theorem sc_law_matrix_of : FnScope N_law_matrix_of ["d", "text"] (defScope s_law_matrix_of) := ⟨rfl, rfl, rfl, by decide +kernel, rfl, by decide +kernel, by decide +kernel⟩
theorem ok_law_matrix_of {a_law_matrix_of a_law_list_of a_law_natural_of : Addr} {d_law_matrix_of d_law_list_of d_law_natural_of : FuncData} (D_law_matrix_of : DefAt c.K mg "_law_matrix_of" s_law_matrix_of ["d", "text"] a_law_matrix_of d_law_matrix_of)
    (D_law_list_of : DefAt c.K mg "_law_list_of" s_law_list_of ["d", "text"] a_law_list_of d_law_list_of)
    (D_law_natural_of : DefAt c.K mg "_law_natural_of" s_law_natural_of ["text"] a_law_natural_of d_law_natural_of)
    (z_tuple : mg "tuple" = none)
    (z_len : mg "len" = none)
    (z_min : mg "min" = none)
    (z_max : mg "max" = none)
    (G_law_list_of : FnOk P w c.K mg base (L2.CX P w) 7 a_law_list_of d_law_list_of ["d", "text"] (spM c f_law_list_of))
    (G_law_natural_of : FnOk P w c.K mg base (L2.CX P w) 1 a_law_natural_of d_law_natural_of ["text"] (spM c f_law_natural_of)) :
    FnOk P w c.K mg base (L2.CX P w) 8 a_law_matrix_of d_law_matrix_of ["d", "text"] (spM c f_law_matrix_of) :=
  okM D_law_matrix_of.F sc_law_matrix_of fun cdv A outer s H E hr G tk =>
      (sss_cons (ss_if (ps_if (PW.pt (sw_or (pw_or (st_op (pt_cmpR op_lt' (se_cb (pe_callB (cr_len' G.hK) (by rfl) z_len (by decide +kernel) (sa_cons (pa_cons (se_var (pv 1)) sa_nil)))) (se_con (w := .int 2) pe_int (fun _ _ => rfl)) (nomark _))) (sw_or (pw_or (st_op (pt_cmpR (op_ne' G.hu64 G.hK) (se_op (pe_ix (ix_ok' G.hK) (se_var (pv 1)) (se_con (w := .int 0) pe_int (fun _ _ => rfl)) (fun _ _ => rfl))) (se_con (w := .str [91]) pe_str (fun _ _ => congrArg V.str (by decide +kernel))) (nomark _))) (pw_or1 (st_op (pt_cmpR (op_ne' G.hu64 G.hK) (se_op (pe_ix (ix_ok' G.hK) (se_var (pv 1)) (se_un (pe_un un_neg' (se_con (w := .int 1) pe_int (fun _ _ => rfl)))) (fun _ _ => rfl))) (se_con (w := .str [93]) pe_str (fun _ _ => congrArg V.str (by decide +kernel))) (nomark _)))))))))
      (sss_one (ss_ret (ps_ret (se_con (w := .non) pe_non (fun _ _ => rfl)))))
      sss_nil))
      (sss_cons (ss_set (ps_set (i := 2) sc_law_matrix_of.nd rfl (Or.inl rfl) (se_sl (pe_slice (sl_ok' G.hK) (se_var (pv 1)) (so_some (se_con (w := .int 1) pe_int (fun _ _ => rfl))) (so_some (se_un (pe_un un_neg' (se_con (w := .int 1) pe_int (fun _ _ => rfl)))))))))
      (sss_cons (ss_if (ps_if (st_op (pt_cmpR (op_in' G.hu G.hK) (se_con (w := .str [120]) pe_str (fun _ _ => congrArg V.str (by decide +kernel))) (se_var (pv 2)) (by rfl)))
      (sss_cons (ss_set (ps_set (i := 3) sc_law_matrix_of.nd rfl (Or.inl rfl) (se_bm G.hK (pe_bm PySem.F.plainAttrs_str PySem.F.slot_str_split PySem.F.type_str_split mt_split' (se_var (pv 2)) (sa_cons (pa_cons (se_con (w := .str [120]) pe_str (fun _ _ => congrArg V.str (by decide +kernel))) sa_nil))))))
      (sss_cons (ss_setLc (ng_name (by decide)) (ps_setLc2' (i := 4) (own := [("part", 6)]) (g := (gName 6)) G.lets (by rfl) sc_law_matrix_of.nd rfl rfl (sw_true rfl rfl rfl (by decide +kernel)) (si_val G.hK (se_var (pv 3))) (blkOk_by (own := [("part", 6)]) (N := N_law_matrix_of) (sc := (defScope s_law_matrix_of)) (by decide +kernel)) (fun _ _ _ _ _ _ => (pg_name (i := 6) sc_law_matrix_of.nd rfl (Or.inl rfl))) (fun _ _ _ _ _ _ _ _ => spts_nil) (fun E0 _ _ _ _ _ _ le => have G := G.bx le; (se_call (pe_callS G_law_natural_of (hr.mono (by omega)) (by rfl) D_law_natural_of.m D_law_natural_of.F.kp D_law_natural_of.b (fun σ => (G.lets σ).fly) (sa_cons (pa_cons (se_var (pv 6)) sa_nil)))))))
      (sss_cons (ss_if (ps_if (PW.pt (sw_or (pw_or (st_op (pt_cmpR (op_ne' G.hu64 G.hK) (se_cb (pe_callB (cr_len' G.hK) (by rfl) z_len (by decide +kernel) (sa_cons (pa_cons (se_var (pv 3)) sa_nil)))) (se_con (w := .int 2) pe_int (fun _ _ => rfl)) (nomark _))) (sw_or (pw_or (st_op (pt_cmpR (op_in' G.hu G.hK) (se_con (w := .non) pe_non (fun _ _ => rfl)) (se_var (pv 4)) (by rfl))) (sw_or (pw_or (st_op (pt_cmpR op_gt' (se_cb (pe_callB (cr_max' G.calm) (by rfl) z_max (by decide +kernel) (sa_cons (pa_cons (se_var (pv 4)) sa_nil)))) (se_con (w := .int 1000) pe_int (fun _ _ => rfl)) (nomark _))) (pw_or1 (st_op (pt_cmpR op_gt' (se_cb (pe_callB (cr_min' G.calm) (by rfl) z_min (by decide +kernel) (sa_cons (pa_cons (se_var (pv 4)) sa_nil)))) (se_con (w := .int 0) pe_int (fun _ _ => rfl)) (nomark _)))))))))))
      (sss_one (ss_ret (ps_ret (se_con (w := .non) pe_non (fun _ _ => rfl)))))
      sss_nil))
      (sss_one (ss_ret (ps_ret (se_tup (pe_tup (sa_cons (pa_cons (se_op (pe_ix (ix_ok' G.hK) (se_var (pv 4)) (se_con (w := .int 0) pe_int (fun _ _ => rfl)) (fun _ _ => rfl))) (sa_cons (pa_cons (se_op (pe_ix (ix_ok' G.hK) (se_var (pv 4)) (se_con (w := .int 1) pe_int (fun _ _ => rfl)) (fun _ _ => rfl))) (sa_cons (pa_cons (se_op (pe_op (op_mul' G.hK) (se_tup (pe_tup (sa_cons (pa_cons (se_tup (pe_tup sa_nil)) sa_nil)))) (se_op (pe_ix (ix_ok' G.hK) (se_var (pv 4)) (se_con (w := .int 0) pe_int (fun _ _ => rfl)) (fun _ _ => rfl))))) sa_nil))))))))))))))
      sss_nil))
      (sss_cons (ss_setLc (ng_name (by decide)) (ps_setLc2' (i := 3) (own := [("row", 5)]) (g := (gName 5)) G.lets (by rfl) sc_law_matrix_of.nd rfl rfl (sw_true rfl rfl rfl (by decide +kernel)) (si_val G.hK (se_bm G.hK (pe_bm PySem.F.plainAttrs_str PySem.F.slot_str_split PySem.F.type_str_split mt_split' (se_var (pv 2)) (sa_cons (pa_cons (se_con (w := .str [59, 32]) pe_str (fun _ _ => congrArg V.str (by decide +kernel))) sa_nil))))) (blkOk_by (own := [("row", 5)]) (N := N_law_matrix_of) (sc := (defScope s_law_matrix_of)) (by decide +kernel)) (fun _ _ _ _ _ _ => (pg_name (i := 5) sc_law_matrix_of.nd rfl (Or.inl rfl))) (fun _ _ _ _ _ _ _ _ => spts_nil) (fun E0 _ _ _ _ _ _ le => have G := G.bx le; (se_call (pe_callS G_law_list_of (hr.mono (by omega)) (by rfl) D_law_list_of.m D_law_list_of.F.kp D_law_list_of.b (fun σ => (G.lets σ).fly) (sa_cons (pa_cons (se_var (pv 0)) (sa_cons (pa_cons (se_var (pv 5)) sa_nil)))))))))
      (sss_cons (ss_if (ps_if (st_op (pt_cmpR (op_in' G.hu G.hK) (se_con (w := .non) pe_non (fun _ _ => rfl)) (se_var (pv 3)) (by rfl)))
      (sss_one (ss_ret (ps_ret (se_con (w := .non) pe_non (fun _ _ => rfl)))))
      sss_nil))
      (sss_cons (ss_for (ps_for (passes_of rfl) rfl (si_val G.hK (se_var (pv 3))) (sg_name (pg_name (i := 5) sc_law_matrix_of.nd rfl (Or.inl rfl)))
      (sss_one (ss_if (ps_if (st_op (pt_cmpR (op_ne' G.hu64 G.hK) (se_cb (pe_callB (cr_len' G.hK) (by rfl) z_len (by decide +kernel) (sa_cons (pa_cons (se_var (pv 5)) sa_nil)))) (se_cb (pe_callB (cr_len' G.hK) (by rfl) z_len (by decide +kernel) (sa_cons (pa_cons (se_op (pe_ix (ix_ok' G.hK) (se_var (pv 3)) (se_con (w := .int 0) pe_int (fun _ _ => rfl)) (fun _ _ => rfl))) sa_nil)))) (nomark _)))
      (sss_one (ss_ret (ps_ret (se_con (w := .non) pe_non (fun _ _ => rfl)))))
      sss_nil)))))
      (sss_one (ss_ret (ps_ret (se_tup (pe_tup (sa_cons (pa_cons (se_cb (pe_callB (cr_len' G.hK) (by rfl) z_len (by decide +kernel) (sa_cons (pa_cons (se_var (pv 3)) sa_nil)))) (sa_cons (pa_cons (se_cb (pe_callB (cr_len' G.hK) (by rfl) z_len (by decide +kernel) (sa_cons (pa_cons (se_op (pe_ix (ix_ok' G.hK) (se_var (pv 3)) (se_con (w := .int 0) pe_int (fun _ _ => rfl)) (fun _ _ => rfl))) sa_nil)))) (sa_cons (pa_cons (se_cb (pe_callTy (cr_tuple' G.hK) (by rfl) z_tuple (by decide +kernel) (sa_cons (pa_cons (se_var (pv 3)) sa_nil)))) sa_nil)))))))))))))))))
abbrev N_law_due : List Str := ["kind", "d", "text"]
theorem sc_law_due : FnScope N_law_due ["kind", "d", "text"] (defScope s_law_due) := ⟨rfl, rfl, rfl, by decide +kernel, rfl, by decide +kernel, by decide +kernel⟩
theorem ok_law_due {a_law_due a_law_matrix_of a_law_vector_of a_law_element_of a_law_domain_of : Addr} {d_law_due d_law_matrix_of d_law_vector_of d_law_element_of d_law_domain_of : FuncData} (D_law_due : DefAt c.K mg "_law_due" s_law_due ["kind", "d", "text"] a_law_due d_law_due)
    (D_law_matrix_of : DefAt c.K mg "_law_matrix_of" s_law_matrix_of ["d", "text"] a_law_matrix_of d_law_matrix_of)
    (D_law_vector_of : DefAt c.K mg "_law_vector_of" s_law_vector_of ["d", "text"] a_law_vector_of d_law_vector_of)
    (D_law_element_of : DefAt c.K mg "_law_element_of" s_law_element_of ["d", "text"] a_law_element_of d_law_element_of)
    (D_law_domain_of : DefAt c.K mg "_law_domain_of" s_law_domain_of ["text"] a_law_domain_of d_law_domain_of)
    (G_law_matrix_of : FnOk P w c.K mg base (L2.CX P w) 8 a_law_matrix_of d_law_matrix_of ["d", "text"] (spM c f_law_matrix_of))
    (G_law_vector_of : FnOk P w c.K mg base (L2.CX P w) 8 a_law_vector_of d_law_vector_of ["d", "text"] (spM c f_law_vector_of))
    (G_law_element_of : FnOk P w c.K mg base (L2.CX P w) 6 a_law_element_of d_law_element_of ["d", "text"] (spM c (f_law_element_of 4)))
    (G_law_domain_of : FnOk P w c.K mg base (L2.CX P w) 5 a_law_domain_of d_law_domain_of ["text"] (spM c (f_law_domain_of 4))) :
    FnOk P w c.K mg base (L2.CX P w) 9 a_law_due d_law_due ["kind", "d", "text"] (spM c f_law_due) :=
  okM D_law_due.F sc_law_due fun cdv A outer s H E hr G tk =>
      (sss_cons (ss_if (ps_if (st_op (pt_cmpR (op_eq' G.hu64 G.hK) (se_var (pv 0)) (se_con (w := .int 0) pe_int (fun _ _ => rfl)) (nomark _)))
      (sss_one (ss_ret (ps_ret (se_call (pe_callS G_law_domain_of (hr.mono (by omega)) (by rfl) D_law_domain_of.m D_law_domain_of.F.kp D_law_domain_of.b (fun σ => (G.lets σ).fly) (sa_cons (pa_cons (se_var (pv 2)) sa_nil)))))))
      sss_nil))
      (sss_cons (ss_if (ps_if (st_op (pt_cmpR (op_eq' G.hu64 G.hK) (se_var (pv 0)) (se_con (w := .int 1) pe_int (fun _ _ => rfl)) (nomark _)))
      (sss_one (ss_ret (ps_ret (se_call (pe_callS G_law_element_of (hr.mono (by omega)) (by rfl) D_law_element_of.m D_law_element_of.F.kp D_law_element_of.b (fun σ => (G.lets σ).fly) (sa_cons (pa_cons (se_var (pv 1)) (sa_cons (pa_cons (se_var (pv 2)) sa_nil)))))))))
      sss_nil))
      (sss_cons (ss_if (ps_if (st_op (pt_cmpR (op_eq' G.hu64 G.hK) (se_var (pv 0)) (se_con (w := .int 2) pe_int (fun _ _ => rfl)) (nomark _)))
      (sss_one (ss_ret (ps_ret (se_call (pe_callS G_law_vector_of (hr.mono (by omega)) (by rfl) D_law_vector_of.m D_law_vector_of.F.kp D_law_vector_of.b (fun σ => (G.lets σ).fly) (sa_cons (pa_cons (se_var (pv 1)) (sa_cons (pa_cons (se_var (pv 2)) sa_nil)))))))))
      sss_nil))
      (sss_one (ss_ret (ps_ret (se_call (pe_callS G_law_matrix_of (hr.mono (by omega)) (by rfl) D_law_matrix_of.m D_law_matrix_of.F.kp D_law_matrix_of.b (fun σ => (G.lets σ).fly) (sa_cons (pa_cons (se_var (pv 1)) (sa_cons (pa_cons (se_var (pv 2)) sa_nil))))))))))))
abbrev N_law_made : List Str := ["kind", "d", "x"]
theorem sc_law_made : FnScope N_law_made ["kind", "d", "x"] (defScope s_law_made) := ⟨rfl, rfl, rfl, by decide +kernel, rfl, by decide +kernel, by decide +kernel⟩
theorem ok_law_made {a_law_made a_law_matrix_text a_law_vector_text a_law_text a_law_domain_text : Addr} {d_law_made d_law_matrix_text d_law_vector_text d_law_text d_law_domain_text : FuncData} (D_law_made : DefAt c.K mg "_law_made" s_law_made ["kind", "d", "x"] a_law_made d_law_made)
    (D_law_matrix_text : DefAt c.K mg "_law_matrix_text" s_law_matrix_text ["d", "a"] a_law_matrix_text d_law_matrix_text)
    (D_law_vector_text : DefAt c.K mg "_law_vector_text" s_law_vector_text ["d", "v"] a_law_vector_text d_law_vector_text)
    (D_law_text : DefAt c.K mg "_law_text" s_law_text ["d", "x"] a_law_text d_law_text)
    (D_law_domain_text : DefAt c.K mg "_law_domain_text" s_law_domain_text ["d"] a_law_domain_text d_law_domain_text)
    (G_law_matrix_text : FnOk P w c.K mg base (L2.CX P w) 5 a_law_matrix_text d_law_matrix_text ["d", "a"] (spM c f_law_matrix_text))
    (G_law_vector_text : FnOk P w c.K mg base (L2.CX P w) 5 a_law_vector_text d_law_vector_text ["d", "v"] (spM c f_law_vector_text))
    (G_law_text : FnOk P w c.K mg base (L2.CX P w) 4 a_law_text d_law_text ["d", "x"] (spM c (f_law_text 4)))
    (G_law_domain_text : FnOk P w c.K mg base (L2.CX P w) 4 a_law_domain_text d_law_domain_text ["d"] (spM c (f_law_domain_text 4))) :
    FnOk P w c.K mg base (L2.CX P w) 6 a_law_made d_law_made ["kind", "d", "x"] (spM c f_law_made) :=
  okM D_law_made.F sc_law_made fun cdv A outer s H E hr G tk =>
      (sss_cons (ss_if (ps_if (st_op (pt_cmpR (op_eq' G.hu64 G.hK) (se_var (pv 0)) (se_con (w := .int 0) pe_int (fun _ _ => rfl)) (nomark _)))
      (sss_one (ss_ret (ps_ret (se_call (pe_callS G_law_domain_text (hr.mono (by omega)) (by rfl) D_law_domain_text.m D_law_domain_text.F.kp D_law_domain_text.b (fun σ => (G.lets σ).fly) (sa_cons (pa_cons (se_var (pv 2)) sa_nil)))))))
      sss_nil))
      (sss_cons (ss_if (ps_if (st_op (pt_cmpR (op_eq' G.hu64 G.hK) (se_var (pv 0)) (se_con (w := .int 1) pe_int (fun _ _ => rfl)) (nomark _)))
      (sss_one (ss_ret (ps_ret (se_call (pe_callS G_law_text (hr.mono (by omega)) (by rfl) D_law_text.m D_law_text.F.kp D_law_text.b (fun σ => (G.lets σ).fly) (sa_cons (pa_cons (se_var (pv 1)) (sa_cons (pa_cons (se_var (pv 2)) sa_nil)))))))))
      sss_nil))
      (sss_cons (ss_if (ps_if (st_op (pt_cmpR (op_eq' G.hu64 G.hK) (se_var (pv 0)) (se_con (w := .int 2) pe_int (fun _ _ => rfl)) (nomark _)))
      (sss_one (ss_ret (ps_ret (se_call (pe_callS G_law_vector_text (hr.mono (by omega)) (by rfl) D_law_vector_text.m D_law_vector_text.F.kp D_law_vector_text.b (fun σ => (G.lets σ).fly) (sa_cons (pa_cons (se_var (pv 1)) (sa_cons (pa_cons (se_var (pv 2)) sa_nil)))))))))
      sss_nil))
      (sss_one (ss_ret (ps_ret (se_call (pe_callS G_law_matrix_text (hr.mono (by omega)) (by rfl) D_law_matrix_text.m D_law_matrix_text.F.kp D_law_matrix_text.b (fun σ => (G.lets σ).fly) (sa_cons (pa_cons (se_var (pv 1)) (sa_cons (pa_cons (se_var (pv 2)) sa_nil))))))))))))
abbrev N_law_read : List Str := ["kind", "d", "text", "e"]
theorem sc_law_read : FnScope N_law_read ["kind", "d", "text"] (defScope s_law_read) := ⟨rfl, rfl, rfl, by decide +kernel, rfl, by decide +kernel, by decide +kernel⟩
theorem ok_law_read {a_law_read a_read_matrix a_read_vector a_read_element a_read_domain : Addr} {d_law_read d_read_matrix d_read_vector d_read_element d_read_domain : FuncData} {C C0 C1 C2 C3 fI : Addr} (D_law_read : DefAt c.K mg "_law_read" s_law_read ["kind", "d", "text"] a_law_read d_law_read)
    (D_read_matrix : DefAt c.K mg "read_matrix" s_read_matrix ["d", "text"] a_read_matrix d_read_matrix)
    (D_read_vector : DefAt c.K mg "read_vector" s_read_vector ["d", "text"] a_read_vector d_read_vector)
    (D_read_element : DefAt c.K mg "read_element" s_read_element ["d", "text"] a_read_element d_read_element)
    (D_read_domain : DefAt c.K mg "read_domain" s_read_domain ["text"] a_read_domain d_read_domain)
    (G_read_matrix : FnOk P w c.K mg base (L2.CX P w) 15 a_read_matrix d_read_matrix ["d", "text"] (spM c f_read_matrix))
    (G_read_vector : FnOk P w c.K mg base (L2.CX P w) 15 a_read_vector d_read_vector ["d", "text"] (spM c f_read_vector))
    (G_read_element : FnOk P w c.K mg base (L2.CX P w) 14 a_read_element d_read_element ["d", "text"] (spM c (f_read_element 6)))
    (G_read_domain : FnOk P w c.K mg base (L2.CX P w) 8 a_read_domain d_read_domain ["text"] (spM c (f_read_domain 4)))
    (z_isinstance : mg "isinstance" = none)
    (z_int : mg "int" = none)
    (TX : PySem.TeX.TeTxt P c.K mg C fI)
    (EX : ErrC c.K mg C C0 C1 C2 C3)
    (hC : ∀ k, c.cls k = C) :
    FnOk P w c.K mg base (L2.CX P w) 16 a_law_read d_law_read ["kind", "d", "text"] (spM c f_law_read) :=
  okM D_law_read.F sc_law_read fun cdv A outer s H E hr G tk =>
      (sss_one (ss_try_as (i := 3) (msu := msu_law_read) (caught := caught_law_read) G.hK rfl rfl sc_law_read.nd rfl rfl ⟨rfl, by decide, .inl EX.g0⟩ tk
      (fun W pn xe tk hp => have G := G.tr tk rfl rfl; (sss_cons (ss_if (ps_if (st_op (pt_cmpR (op_eq' G.hu64 G.hK) (se_var (pv 0)) (se_con (w := .int 0) pe_int (fun _ _ => rfl)) (nomark _)))
      (sss_one (ss_ret (ps_ret (se_lst (pe_lst (sa_cons (pa_cons (se_call (pe_callS G_read_domain (hr.mono (by omega)) (by rfl) D_read_domain.m D_read_domain.F.kp D_read_domain.b (fun σ => (G.lets σ).fly) (sa_cons (pa_cons (se_var (pv 2)) sa_nil)))) sa_nil)))))))
      sss_nil))
      (sss_cons (ss_if (ps_if (st_op (pt_cmpR (op_eq' G.hu64 G.hK) (se_var (pv 0)) (se_con (w := .int 1) pe_int (fun _ _ => rfl)) (nomark _)))
      (sss_one (ss_ret (ps_ret (se_lst (pe_lst (sa_cons (pa_cons (se_call (pe_callS G_read_element (hr.mono (by omega)) (by rfl) D_read_element.m D_read_element.F.kp D_read_element.b (fun σ => (G.lets σ).fly) (sa_cons (pa_cons (se_var (pv 1)) (sa_cons (pa_cons (se_var (pv 2)) sa_nil)))))) sa_nil)))))))
      sss_nil))
      (sss_cons (ss_if (ps_if (st_op (pt_cmpR (op_eq' G.hu64 G.hK) (se_var (pv 0)) (se_con (w := .int 2) pe_int (fun _ _ => rfl)) (nomark _)))
      (sss_one (ss_ret (ps_ret (se_lst (pe_lst (sa_cons (pa_cons (se_call (pe_callS G_read_vector (hr.mono (by omega)) (by rfl) D_read_vector.m D_read_vector.F.kp D_read_vector.b (fun σ => (G.lets σ).fly) (sa_cons (pa_cons (se_var (pv 1)) (sa_cons (pa_cons (se_var (pv 2)) sa_nil)))))) sa_nil)))))))
      sss_nil))
      (sss_one (ss_ret (ps_ret (se_lst (pe_lst (sa_cons (pa_cons (se_call (pe_callS G_read_matrix (hr.mono (by omega)) (by rfl) D_read_matrix.m D_read_matrix.F.kp D_read_matrix.b (fun σ => (G.lets σ).fly) (sa_cons (pa_cons (se_var (pv 1)) (sa_cons (pa_cons (se_var (pv 2)) sa_nil)))))) sa_nil)))))))))))
      (fun a oe cls d pn hz hf => pss_cons (ps_if (PW.pt (pw_or (pt_not (pt_val (pe_callB (by exact (FL.call_isiE hz hf EX.F)) (by rfl) z_isinstance (by decide +kernel) (pa_cons (pv 3) (pa_cons (pe_glob (v := .ref C) (by rfl) TX.gC rfl) pa_nil))))) (pw_or1 (pt_val (pe_callB (by exact (FL.call_isiET hz hf EX.F)) (by rfl) z_isinstance (by decide +kernel) (pa_cons (pv 3) (pa_cons (pe_tup (pa_cons (pe_glob (v := .ref C1) (by rfl) EX.g1 rfl) (pa_cons (pe_glob (v := .ref C2) (by rfl) EX.g2 rfl) (pa_cons (pe_glob (v := .ref C3) (by rfl) EX.g3 rfl) pa_nil)))) pa_nil))))))) (pss_one (ps_ret pe_non)) pss_nil)
        (pss_one (ps_ret (pe_slice (by exact sl_list) (pe_lst (pa_cons pe_non pa_nil)) po_none (po_some (pe_callTy call_int1 (by rfl) z_int (by decide +kernel) (pa_cons (pe_cmpR op_ne (by exact (L2.pe_line TX hz hf (pv 3))) pe_int (nomark _)) pa_nil)))))))
      (fun k => by rw [hC]; exact EX.ex)
      (hts_read EX hC (i := 3))))
abbrev N_law_changed : List Str := ["c", "text", "k", "at", "sign"]
theorem sc_law_changed : FnScope N_law_changed ["c", "text"] (defScope s_law_changed) := ⟨rfl, rfl, rfl, by decide +kernel, rfl, by decide +kernel, by decide +kernel⟩
theorem ok_law_changed {a_law_changed a_law_take : Addr} {d_law_changed d_law_take : FuncData} (D_law_changed : DefAt c.K mg "_law_changed" s_law_changed ["c", "text"] a_law_changed d_law_changed)
    (D_law_take : DefAt c.K mg "_law_take" s_law_take ["c", "many"] a_law_take d_law_take)
    (z_int : mg "int" = none)
    (z_range : mg "range" = none)
    (z_len : mg "len" = none)
    (G_law_take : FnOk P w c.K mg base (L2.CX P w) 2 a_law_take d_law_take ["c", "many"] (spM c f_law_take)) :
    FnOk P w c.K mg base (L2.CX P w) 3 a_law_changed d_law_changed ["c", "text"] (spM c f_law_changed) :=
  okM D_law_changed.F sc_law_changed fun cdv A outer s H E hr G tk =>
      (sss_cons (ss_for (ps_for (passes_of rfl) rfl (si_range1 (pi_range1 (by rfl) z_range (sa_cons (pa_cons (se_call (pe_callS G_law_take (hr.mono (by omega)) (by rfl) D_law_take.m D_law_take.F.kp D_law_take.b (fun σ => (G.lets σ).fly) (sa_cons (pa_cons (se_var (pv 0)) (sa_cons (pa_cons (se_con (w := .int 4) pe_int (fun _ _ => rfl)) sa_nil)))))) sa_nil))) (hl_cons hl_nil)) (sg_name (pg_name (i := 2) sc_law_changed.nd rfl (Or.inl rfl)))
      (sss_cons (ss_set (ps_set (i := 3) sc_law_changed.nd rfl (Or.inl rfl) (se_call (pe_callS G_law_take (hr.mono (by omega)) (by rfl) D_law_take.m D_law_take.F.kp D_law_take.b (fun σ => (G.lets σ).fly) (sa_cons (pa_cons (se_var (pv 0)) (sa_cons (pa_cons (se_op (pe_op (op_add' G.hK) (se_cb (pe_callB (cr_len' G.hK) (by rfl) z_len (by decide +kernel) (sa_cons (pa_cons (se_var (pv 1)) sa_nil)))) (se_con (w := .int 1) pe_int (fun _ _ => rfl)))) sa_nil))))))))
      (sss_cons (ss_set (ps_set (i := 4) sc_law_changed.nd rfl (Or.inl rfl) (se_op (pe_ix (ix_ok' G.hK) (se_con (w := .str [48, 32, 49, 45, 47, 123, 125, 60, 62, 91, 93, 59, 120, 50, 81, 10, 55, 70, 80, 43, 95]) pe_str (fun _ _ => congrArg V.str (by decide +kernel))) (se_call (pe_callS G_law_take (hr.mono (by omega)) (by rfl) D_law_take.m D_law_take.F.kp D_law_take.b (fun σ => (G.lets σ).fly) (sa_cons (pa_cons (se_var (pv 0)) (sa_cons (pa_cons (se_con (w := .int 21) pe_int (fun _ _ => rfl)) sa_nil)))))) (fun _ _ => rfl)))))
      (sss_one (ss_set (ps_set (i := 1) sc_law_changed.nd rfl (Or.inl rfl) (se_op (pe_ix (ix_ok' G.hK) (se_lst (pe_lst (sa_cons (pa_cons (se_op (pe_op (op_add' G.hK) (se_op (pe_op (op_add' G.hK) (se_sl (pe_slice (sl_ok' G.hK) (se_var (pv 1)) so_none (so_some (se_var (pv 3))))) (se_var (pv 4)))) (se_sl (pe_slice (sl_ok' G.hK) (se_var (pv 1)) (so_some (se_var (pv 3))) so_none)))) (sa_cons (pa_cons (se_op (pe_op (op_add' G.hK) (se_sl (pe_slice (sl_ok' G.hK) (se_var (pv 1)) so_none (so_some (se_var (pv 3))))) (se_sl (pe_slice (sl_ok' G.hK) (se_var (pv 1)) (so_some (se_op (pe_op (op_add' G.hK) (se_var (pv 3)) (se_con (w := .int 1) pe_int (fun _ _ => rfl))))) so_none)))) (sa_cons (pa_cons (se_op (pe_op (op_add' G.hK) (se_op (pe_op (op_add' G.hK) (se_sl (pe_slice (sl_ok' G.hK) (se_var (pv 1)) so_none (so_some (se_var (pv 3))))) (se_var (pv 4)))) (se_sl (pe_slice (sl_ok' G.hK) (se_var (pv 1)) (so_some (se_op (pe_op (op_add' G.hK) (se_var (pv 3)) (se_con (w := .int 1) pe_int (fun _ _ => rfl))))) so_none)))) sa_nil)))))))) (se_call (pe_callS G_law_take (hr.mono (by omega)) (by rfl) D_law_take.m D_law_take.F.kp D_law_take.b (fun σ => (G.lets σ).fly) (sa_cons (pa_cons (se_var (pv 0)) (sa_cons (pa_cons (se_con (w := .int 3) pe_int (fun _ _ => rfl)) sa_nil)))))) (fun _ _ => rfl))))))))))
      (sss_one (ss_ret (ps_ret (se_op (pe_op (op_add' G.hK) (se_var (pv 1)) (se_op (pe_op (op_mul' G.hK) (se_con (w := .str [10]) pe_str (fun _ _ => congrArg V.str (by decide +kernel))) (se_cb (pe_callTy cr_int' (by rfl) z_int (by decide +kernel) (sa_cons (pa_cons (se_op (pe_cmpR (op_eq' G.hu64 G.hK) (se_call (pe_callS G_law_take (hr.mono (by omega)) (by rfl) D_law_take.m D_law_take.F.kp D_law_take.b (fun σ => (G.lets σ).fly) (sa_cons (pa_cons (se_var (pv 0)) (sa_cons (pa_cons (se_con (w := .int 8) pe_int (fun _ _ => rfl)) sa_nil)))))) (se_con (w := .int 0) pe_int (fun _ _ => rfl)) (nomark _))) sa_nil))))))))))))
abbrev N_law_pieced : List Str := ["c", "pieces_v", "k"]
theorem sc_law_pieced : FnScope N_law_pieced ["c"] (defScope s_law_pieced) := ⟨rfl, rfl, rfl, by decide +kernel, rfl, by decide +kernel, by decide +kernel⟩
theorem ok_law_pieced {a_law_pieced a_law_take : Addr} {d_law_pieced d_law_take : FuncData} (D_law_pieced : DefAt c.K mg "_law_pieced" s_law_pieced ["c"] a_law_pieced d_law_pieced)
    (D_law_take : DefAt c.K mg "_law_take" s_law_take ["c", "many"] a_law_take d_law_take)
    (z_range : mg "range" = none)
    (G_law_take : FnOk P w c.K mg base (L2.CX P w) 2 a_law_take d_law_take ["c", "many"] (spM c f_law_take)) :
    FnOk P w c.K mg base (L2.CX P w) 3 a_law_pieced d_law_pieced ["c"] (spM c f_law_pieced) :=
  okM D_law_pieced.F sc_law_pieced fun cdv A outer s H E hr G tk =>
      (sss_cons (ss_set (ps_set (i := 1) sc_law_pieced.nd rfl (Or.inr rfl) (se_bm G.hK (pe_bm PySem.F.plainAttrs_str PySem.F.slot_str_split PySem.F.type_str_split mt_split' (se_con (w := .str [70, 44, 81, 44, 90, 44, 80, 44, 55, 44, 50, 53, 44, 53, 54, 49, 44, 54, 53, 53, 49, 57, 44, 54, 53, 53, 50, 49, 44, 54, 53, 53, 51, 55, 44, 48, 44, 49, 44, 45, 44, 47, 44, 123, 44, 125, 44, 60, 44, 62, 44, 91, 44, 93, 44, 59, 44, 32, 44, 120, 44, 50, 44, 48, 49, 44, 49, 47, 50, 44, 50, 47, 52, 44, 59, 32, 44, 123, 49, 125, 44, 45, 51, 44, 49, 48, 48, 48, 44, 49, 48, 48, 49]) pe_str (fun _ _ => congrArg V.str (by decide +kernel))) (sa_cons (pa_cons (se_con (w := .str [44]) pe_str (fun _ _ => congrArg V.str (by decide +kernel))) sa_nil))))))
      (sss_one (ss_ret (ps_ret (se_bm G.hK (pe_bm PySem.F.plainAttrs_str PySem.F.slot_str_join PySem.F.type_str_join (mt_join' G.hK) (se_con (w := .str []) pe_str (fun _ _ => congrArg V.str (by decide +kernel))) (sa_cons (pa_cons (se_lc (ng_name (by decide)) (pe_lc2' (own := [("k", 2)]) (g := (gName 2)) G.lets (by rfl) sc_law_pieced.nd (si_range1 (pi_range1 (by rfl) z_range (sa_cons (pa_cons (se_call (pe_callS G_law_take (hr.mono (by omega)) (by rfl) D_law_take.m D_law_take.F.kp D_law_take.b (fun σ => (G.lets σ).fly) (sa_cons (pa_cons (se_var (pv 0)) (sa_cons (pa_cons (se_con (w := .int 9) pe_int (fun _ _ => rfl)) sa_nil)))))) sa_nil))) (hl_cons hl_nil)) (blkOk_by (own := [("k", 2)]) (N := N_law_pieced) (sc := (defScope s_law_pieced)) (by decide +kernel)) (fun _ _ _ _ _ _ => (pg_name (i := 2) sc_law_pieced.nd rfl (Or.inl rfl))) (fun _ _ _ _ _ _ _ _ => spts_nil) (fun E0 _ _ _ _ _ _ le => have G := G.bx le; (se_op (pe_ix (ix_ok' G.hK) (se_var (pv 1)) (se_call (pe_callS G_law_take (hr.mono (by omega)) (by rfl) D_law_take.m D_law_take.F.kp D_law_take.b (fun σ => (G.lets σ).fly) (sa_cons (pa_cons (se_var (pv 0)) (sa_cons (pa_cons (se_con (w := .int 32) pe_int (fun _ _ => rfl)) sa_nil)))))) (fun _ _ => rfl)))))) sa_nil))))))))
abbrev N_law : List Str := ["script", "c", "d", "kind", "n", "j", "values", "text", "rows", "opening", "due", "told"]
theorem sc_law : FnScope N_law ["script"] (defScope s_law) := ⟨rfl, rfl, rfl, by decide +kernel, rfl, by decide +kernel, by decide +kernel⟩
theorem ok_law {a_law a_law_read a_law_due a_law_take a_law_pieces a_law_text a_law_small a_law_pieced a_law_changed a_law_made a_law_matrix a_law_domain a_law_start : Addr} {d_law d_law_read d_law_due d_law_take d_law_pieces d_law_text d_law_small d_law_pieced d_law_changed d_law_made d_law_matrix d_law_domain d_law_start : FuncData} (D_law : DefAt c.K mg "law" s_law ["script"] a_law d_law)
    (D_law_read : DefAt c.K mg "_law_read" s_law_read ["kind", "d", "text"] a_law_read d_law_read)
    (D_law_due : DefAt c.K mg "_law_due" s_law_due ["kind", "d", "text"] a_law_due d_law_due)
    (D_law_take : DefAt c.K mg "_law_take" s_law_take ["c", "many"] a_law_take d_law_take)
    (D_law_pieces : DefAt c.K mg "_law_pieces" s_law_pieces ["text"] a_law_pieces d_law_pieces)
    (D_law_text : DefAt c.K mg "_law_text" s_law_text ["d", "x"] a_law_text d_law_text)
    (D_law_small : DefAt c.K mg "_law_small" s_law_small ["c", "d"] a_law_small d_law_small)
    (D_law_pieced : DefAt c.K mg "_law_pieced" s_law_pieced ["c"] a_law_pieced d_law_pieced)
    (D_law_changed : DefAt c.K mg "_law_changed" s_law_changed ["c", "text"] a_law_changed d_law_changed)
    (D_law_made : DefAt c.K mg "_law_made" s_law_made ["kind", "d", "x"] a_law_made d_law_made)
    (D_law_matrix : DefAt c.K mg "_law_matrix" s_law_matrix ["c", "d", "m", "n"] a_law_matrix d_law_matrix)
    (D_law_domain : DefAt c.K mg "_law_domain" s_law_domain ["c"] a_law_domain d_law_domain)
    (D_law_start : DefAt c.K mg "_law_start" s_law_start ["script"] a_law_start d_law_start)
    (z_tuple : mg "tuple" = none)
    (z_range : mg "range" = none)
    (G_law_read : FnOk P w c.K mg base (L2.CX P w) 16 a_law_read d_law_read ["kind", "d", "text"] (spM c f_law_read))
    (G_law_due : FnOk P w c.K mg base (L2.CX P w) 9 a_law_due d_law_due ["kind", "d", "text"] (spM c f_law_due))
    (G_law_take : FnOk P w c.K mg base (L2.CX P w) 2 a_law_take d_law_take ["c", "many"] (spM c f_law_take))
    (G_law_pieces : FnOk P w c.K mg base (L2.CX P w) 1 a_law_pieces d_law_pieces ["text"] (spM c f_law_pieces))
    (G_law_text : FnOk P w c.K mg base (L2.CX P w) 4 a_law_text d_law_text ["d", "x"] (spM c (f_law_text 4)))
    (G_law_small : FnOk P w c.K mg base (L2.CX P w) 6 a_law_small d_law_small ["c", "d"] (spM c (f_law_small 4)))
    (G_law_pieced : FnOk P w c.K mg base (L2.CX P w) 3 a_law_pieced d_law_pieced ["c"] (spM c f_law_pieced))
    (G_law_changed : FnOk P w c.K mg base (L2.CX P w) 3 a_law_changed d_law_changed ["c", "text"] (spM c f_law_changed))
    (G_law_made : FnOk P w c.K mg base (L2.CX P w) 6 a_law_made d_law_made ["kind", "d", "x"] (spM c f_law_made))
    (G_law_matrix : FnOk P w c.K mg base (L2.CX P w) 7 a_law_matrix d_law_matrix ["c", "d", "m", "n"] (spM c f_law_matrix))
    (G_law_domain : FnOk P w c.K mg base (L2.CX P w) 3 a_law_domain d_law_domain ["c"] (spM c f_law_domain))
    (G_law_start : FnOk P w c.K mg base (L2.CX P w) 1 a_law_start d_law_start ["script"] (spM c f_law_start)) :
    FnOk P w c.K mg base (L2.CX P w) 17 a_law d_law ["script"] (spM c f_law) :=
  okM D_law.F sc_law fun cdv A outer s H E hr G tk =>
      (sss_cons (ss_set (ps_set (i := 1) sc_law.nd rfl (Or.inr rfl) (se_call (pe_callS G_law_start (hr.mono (by omega)) (by rfl) D_law_start.m D_law_start.F.kp D_law_start.b (fun σ => (G.lets σ).fly) (sa_cons (pa_cons (se_var (pv 0)) sa_nil))))))
      (sss_cons (ss_set (ps_set (i := 2) sc_law.nd rfl (Or.inr rfl) (se_call (pe_callS G_law_domain (hr.mono (by omega)) (by rfl) D_law_domain.m D_law_domain.F.kp D_law_domain.b (fun σ => (G.lets σ).fly) (sa_cons (pa_cons (se_var (pv 1)) sa_nil))))))
      (sss_cons (ss_set (ps_set (i := 3) sc_law.nd rfl (Or.inl rfl) (se_call (pe_callS G_law_take (hr.mono (by omega)) (by rfl) D_law_take.m D_law_take.F.kp D_law_take.b (fun σ => (G.lets σ).fly) (sa_cons (pa_cons (se_var (pv 1)) (sa_cons (pa_cons (se_con (w := .int 4) pe_int (fun _ _ => rfl)) sa_nil))))))))
      (sss_cons (ss_set (ps_set (i := 4) sc_law.nd rfl (Or.inl rfl) (se_call (pe_callS G_law_take (hr.mono (by omega)) (by rfl) D_law_take.m D_law_take.F.kp D_law_take.b (fun σ => (G.lets σ).fly) (sa_cons (pa_cons (se_var (pv 1)) (sa_cons (pa_cons (se_con (w := .int 4) pe_int (fun _ _ => rfl)) sa_nil))))))))
      (sss_cons (ss_set (ps_set (i := 6) sc_law.nd rfl (Or.inl rfl) (se_lst (pe_lst (sa_cons (pa_cons (se_var (pv 2)) (sa_cons (pa_cons (se_call (pe_callS G_law_small (hr.mono (by omega)) (by rfl) D_law_small.m D_law_small.F.kp D_law_small.b (fun σ => (G.lets σ).fly) (sa_cons (pa_cons (se_var (pv 1)) (sa_cons (pa_cons (se_var (pv 2)) sa_nil)))))) (sa_cons (pa_cons (se_cb (pe_callTy (cr_tuple' G.hK) (by rfl) z_tuple (by decide +kernel) (sa_cons (pa_cons (se_lc (ng_name (by decide)) (pe_lc2' (own := [("j", 5)]) (g := (gName 5)) G.lets (by rfl) sc_law.nd (si_range1 (pi_range1 (by rfl) z_range (sa_cons (pa_cons (se_var (pv 4)) sa_nil))) (hl_cons hl_nil)) (blkOk_by (own := [("j", 5)]) (N := N_law) (sc := (defScope s_law)) (by decide +kernel)) (fun _ _ _ _ _ _ => (pg_name (i := 5) sc_law.nd rfl (Or.inl rfl))) (fun _ _ _ _ _ _ _ _ => spts_nil) (fun E0 _ _ _ _ _ _ le => have G := G.bx le; (se_call (pe_callS G_law_small (hr.mono (by omega)) (by rfl) D_law_small.m D_law_small.F.kp D_law_small.b (fun σ => (G.lets σ).fly) (sa_cons (pa_cons (se_var (pv 1)) (sa_cons (pa_cons (se_var (pv 2)) sa_nil))))))))) sa_nil)))) (sa_cons (pa_cons (se_call (pe_callS G_law_matrix (hr.mono (by omega)) (by rfl) D_law_matrix.m D_law_matrix.F.kp D_law_matrix.b (fun σ => (G.lets σ).fly) (sa_cons (pa_cons (se_var (pv 1)) (sa_cons (pa_cons (se_var (pv 2)) (sa_cons (pa_cons (se_var (pv 4)) (sa_cons (pa_cons (se_op (pe_op (op_add' G.hK) (se_con (w := .int 1) pe_int (fun _ _ => rfl)) (se_call (pe_callS G_law_take (hr.mono (by omega)) (by rfl) D_law_take.m D_law_take.F.kp D_law_take.b (fun σ => (G.lets σ).fly) (sa_cons (pa_cons (se_var (pv 1)) (sa_cons (pa_cons (se_con (w := .int 3) pe_int (fun _ _ => rfl)) sa_nil)))))))) sa_nil)))))))))) sa_nil))))))))))))
      (sss_cons (ss_set (ps_set (i := 7) sc_law.nd rfl (Or.inl rfl) (se_call (pe_callS G_law_made (hr.mono (by omega)) (by rfl) D_law_made.m D_law_made.F.kp D_law_made.b (fun σ => (G.lets σ).fly) (sa_cons (pa_cons (se_var (pv 3)) (sa_cons (pa_cons (se_var (pv 2)) (sa_cons (pa_cons (se_op (pe_ix (ix_ok' G.hK) (se_var (pv 6)) (se_var (pv 3)) (fun _ _ => rfl))) sa_nil))))))))))
      (sss_cons (ss_if (ps_if (PW.pt (sw_and (pw_and (st_op (pt_cmpR (op_eq' G.hu64 G.hK) (se_var (pv 3)) (se_con (w := .int 3) pe_int (fun _ _ => rfl)) (nomark _))) (sw_and (pw_and (st_op (pt_cmpR op_gt' (se_var (pv 4)) (se_con (w := .int 1) pe_int (fun _ _ => rfl)) (nomark _))) (pw_and1 (st_op (pt_cmpR (op_eq' G.hu64 G.hK) (se_call (pe_callS G_law_take (hr.mono (by omega)) (by rfl) D_law_take.m D_law_take.F.kp D_law_take.b (fun σ => (G.lets σ).fly) (sa_cons (pa_cons (se_var (pv 1)) (sa_cons (pa_cons (se_con (w := .int 6) pe_int (fun _ _ => rfl)) sa_nil)))))) (se_con (w := .int 0) pe_int (fun _ _ => rfl)) (nomark _)))))))))
      (sss_cons (ss_set (ps_set (i := 5) sc_law.nd rfl (Or.inl rfl) (se_call (pe_callS G_law_take (hr.mono (by omega)) (by rfl) D_law_take.m D_law_take.F.kp D_law_take.b (fun σ => (G.lets σ).fly) (sa_cons (pa_cons (se_var (pv 1)) (sa_cons (pa_cons (se_var (pv 4)) sa_nil))))))))
      (sss_cons (ss_set (ps_set (i := 8) sc_law.nd rfl (Or.inl rfl) (se_bm G.hK (pe_bm PySem.F.plainAttrs_str PySem.F.slot_str_split PySem.F.type_str_split mt_split' (se_sl (pe_slice (sl_ok' G.hK) (se_var (pv 7)) (so_some (se_con (w := .int 1) pe_int (fun _ _ => rfl))) (so_some (se_un (pe_un un_neg' (se_con (w := .int 1) pe_int (fun _ _ => rfl))))))) (sa_cons (pa_cons (se_con (w := .str [59, 32]) pe_str (fun _ _ => congrArg V.str (by decide +kernel))) sa_nil))))))
      (sss_cons (ss_asg (ps_asg (se_op (pe_ix (ix_ok' G.hK) (se_lst (pe_lst (sa_cons (pa_cons (se_op (pe_op (op_add' G.hK) (se_op (pe_op (op_add' G.hK) (se_op (pe_ix (ix_ok' G.hK) (se_var (pv 8)) (se_var (pv 5)) (fun _ _ => rfl))) (se_con (w := .str [32]) pe_str (fun _ _ => congrArg V.str (by decide +kernel))))) (se_call (pe_callS G_law_text (hr.mono (by omega)) (by rfl) D_law_text.m D_law_text.F.kp D_law_text.b (fun σ => (G.lets σ).fly) (sa_cons (pa_cons (se_var (pv 2)) (sa_cons (pa_cons (se_call (pe_callS G_law_small (hr.mono (by omega)) (by rfl) D_law_small.m D_law_small.F.kp D_law_small.b (fun σ => (G.lets σ).fly) (sa_cons (pa_cons (se_var (pv 1)) (sa_cons (pa_cons (se_var (pv 2)) sa_nil)))))) sa_nil)))))))) (sa_cons (pa_cons (se_bm G.hK (pe_bm PySem.F.plainAttrs_str PySem.F.slot_str_join PySem.F.type_str_join (mt_join' G.hK) (se_con (w := .str [32]) pe_str (fun _ _ => congrArg V.str (by decide +kernel))) (sa_cons (pa_cons (se_sl (pe_slice (sl_ok' G.hK) (se_call (pe_callS G_law_pieces (hr.mono (by omega)) (by rfl) D_law_pieces.m D_law_pieces.F.kp D_law_pieces.b (fun σ => (G.lets σ).fly) (sa_cons (pa_cons (se_op (pe_ix (ix_ok' G.hK) (se_var (pv 8)) (se_var (pv 5)) (fun _ _ => rfl))) sa_nil)))) (so_some (se_con (w := .int 1) pe_int (fun _ _ => rfl))) so_none)) sa_nil)))) sa_nil)))))) (se_call (pe_callS G_law_take (hr.mono (by omega)) (by rfl) D_law_take.m D_law_take.F.kp D_law_take.b (fun σ => (G.lets σ).fly) (sa_cons (pa_cons (se_var (pv 1)) (sa_cons (pa_cons (se_con (w := .int 2) pe_int (fun _ _ => rfl)) sa_nil)))))) (fun _ _ => rfl))) (sg_sub G (pg_sub (se_var (pv 8)) (se_var (pv 5)) set_list))))
      (sss_one (ss_set (ps_set (i := 7) sc_law.nd rfl (Or.inl rfl) (se_op (pe_op (op_add' G.hK) (se_op (pe_op (op_add' G.hK) (se_con (w := .str [91]) pe_str (fun _ _ => congrArg V.str (by decide +kernel))) (se_bm G.hK (pe_bm PySem.F.plainAttrs_str PySem.F.slot_str_join PySem.F.type_str_join (mt_join' G.hK) (se_con (w := .str [59, 32]) pe_str (fun _ _ => congrArg V.str (by decide +kernel))) (sa_cons (pa_cons (se_var (pv 8)) sa_nil)))))) (se_con (w := .str [93]) pe_str (fun _ _ => congrArg V.str (by decide +kernel)))))))))))
      (sss_one (ss_if (ps_if (st_op (pt_cmpR (op_eq' G.hu64 G.hK) (se_call (pe_callS G_law_take (hr.mono (by omega)) (by rfl) D_law_take.m D_law_take.F.kp D_law_take.b (fun σ => (G.lets σ).fly) (sa_cons (pa_cons (se_var (pv 1)) (sa_cons (pa_cons (se_con (w := .int 3) pe_int (fun _ _ => rfl)) sa_nil)))))) (se_con (w := .int 0) pe_int (fun _ _ => rfl)) (nomark _)))
      (sss_cons (ss_set (ps_set (i := 9) sc_law.nd rfl (Or.inl rfl) (se_op (pe_ix (ix_ok' G.hK) (se_lst (pe_lst (sa_cons (pa_cons (se_con (w := .str []) pe_str (fun _ _ => congrArg V.str (by decide +kernel))) (sa_cons (pa_cons (se_con (w := .str []) pe_str (fun _ _ => congrArg V.str (by decide +kernel))) (sa_cons (pa_cons (se_con (w := .str [60]) pe_str (fun _ _ => congrArg V.str (by decide +kernel))) (sa_cons (pa_cons (se_con (w := .str [91]) pe_str (fun _ _ => congrArg V.str (by decide +kernel))) sa_nil)))))))))) (se_var (pv 3)) (fun _ _ => rfl)))))
      (sss_one (ss_set (ps_set (i := 7) sc_law.nd rfl (Or.inl rfl) (se_op (pe_op (op_add' G.hK) (se_op (pe_op (op_add' G.hK) (se_var (pv 9)) (se_call (pe_callS G_law_pieced (hr.mono (by omega)) (by rfl) D_law_pieced.m D_law_pieced.F.kp D_law_pieced.b (fun σ => (G.lets σ).fly) (sa_cons (pa_cons (se_var (pv 1)) sa_nil)))))) (se_op (pe_ix (ix_ok' G.hK) (se_lst (pe_lst (sa_cons (pa_cons (se_con (w := .str []) pe_str (fun _ _ => congrArg V.str (by decide +kernel))) (sa_cons (pa_cons (se_con (w := .str []) pe_str (fun _ _ => congrArg V.str (by decide +kernel))) (sa_cons (pa_cons (se_con (w := .str [62]) pe_str (fun _ _ => congrArg V.str (by decide +kernel))) (sa_cons (pa_cons (se_con (w := .str [93]) pe_str (fun _ _ => congrArg V.str (by decide +kernel))) sa_nil)))))))))) (se_var (pv 3)) (fun _ _ => rfl)))))))))
      (sss_one (ss_set (ps_set (i := 7) sc_law.nd rfl (Or.inl rfl) (se_call (pe_callS G_law_changed (hr.mono (by omega)) (by rfl) D_law_changed.m D_law_changed.F.kp D_law_changed.b (fun σ => (G.lets σ).fly) (sa_cons (pa_cons (se_var (pv 1)) (sa_cons (pa_cons (se_var (pv 7)) sa_nil))))))))))))))
      (sss_cons (ss_set (ps_set (i := 10) sc_law.nd rfl (Or.inl rfl) (se_call (pe_callS G_law_due (hr.mono (by omega)) (by rfl) D_law_due.m D_law_due.F.kp D_law_due.b (fun σ => (G.lets σ).fly) (sa_cons (pa_cons (se_var (pv 3)) (sa_cons (pa_cons (se_var (pv 2)) (sa_cons (pa_cons (se_var (pv 7)) sa_nil))))))))))
      (sss_cons (ss_set (ps_set (i := 11) sc_law.nd rfl (Or.inl rfl) (se_call (pe_callS G_law_read (hr.mono (by omega)) (by rfl) D_law_read.m D_law_read.F.kp D_law_read.b (fun σ => (G.lets σ).fly) (sa_cons (pa_cons (se_var (pv 3)) (sa_cons (pa_cons (se_var (pv 2)) (sa_cons (pa_cons (se_var (pv 7)) sa_nil))))))))))
      (sss_cons (ss_if (ps_if (st_op (pt_cmpR op_is' (se_var (pv 10)) (se_con (w := .non) pe_non (fun _ _ => rfl)) (nomark _)))
      (sss_one (ss_ret (ps_ret (se_op (pe_cmpR (op_eq' G.hu64 G.hK) (se_var (pv 11)) (se_lst (pe_lst sa_nil)) (nomark _))))))
      sss_nil))
      (sss_one (ss_ret (ps_ret (se_op (pe_cmpR (op_eq' G.hu64 G.hK) (se_var (pv 11)) (se_lst (pe_lst (sa_cons (pa_cons (se_var (pv 10)) sa_nil)))) (nomark _))))))))))))))))
end
end ME

set_option Elab.async false
set_option linter.all false
set_option maxRecDepth 100000
set_option maxHeartbeats 1000000
/-! ### plain: domains, elements, what is read -/
namespace ME
open PySem PySem.Spec PyProof.Rows L2 PySem.NumText
open FL (isDig rNat rInt isDig_iff all_digits rNat_dg rInt_ic dg ic dg_len dg_digits dg_ne str_int ic_back)
inductive Dm where
  | z | q | f (n : Int) | p (d : Dm)
def domW : Dm → W
  | .z => .tup [.str [90]]
  | .q => .tup [.str [81]]
  | .f n => .tup [.str [70], .int n]
  | .p d => .tup [.str [80], domW d]
def zeroW : Dm → W
  | .q => .tup [.int 0, .int 1]
  | .p _ => .tup []
  | .z => .int 0
  | .f _ => .int 0
def PrI (n : Int) : Prop := 1 < n ∧ ∀ k : Int, 2 ≤ k → k * k ≤ n → n % k ≠ 0
theorem sq_lt {a b : Int} (h0 : 0 ≤ a) (h : a < b) : a * a < b * b := by
  have h1 : a * a ≤ a * b := Int.mul_le_mul_of_nonneg_left (by omega) h0
  have h2 : a * b < b * b := Int.mul_lt_mul_of_pos_right h (by omega)
  omega
theorem k_small {k n : Int} (h0 : 0 ≤ k) (h : k * k ≤ n) (hn : n ≤ 70000) : k < 300 := by
  by_cases z : k < 300
  · exact z
  · have := sq_lt (a := 299) (b := k) (by decide) (by omega)
    omega
theorem abs_if (a : Int) : (if a < 0 then -a else a) = (a.natAbs : Int) := by
  split <;> omega
theorem gcd_step (x y : Nat) (h : 0 < y) : Nat.gcd y (x % y) = Nat.gcd x y := by
  rw [Nat.gcd_comm x y, Nat.gcd_rec y x, Nat.gcd_comm]
def IsF : Dm → Prop
  | .q => True
  | .f n => (1 < n ∧ n ≤ 65521) ∧ PrI n
  | _ => False
def IsD : Dm → Prop
  | .z => True
  | .p d => IsF d
  | d => IsF d
def Shp : Dm → W → Prop
  | .z, x => ∃ n, x = .int n
  | .f _, x => ∃ n, x = .int n
  | .q, x => ∃ n m, x = .tup [.int n, .int m]
  | .p d, x => ∃ xs, x = .tup xs ∧ ∀ y ∈ xs, Shp d y
def Bel : Dm → W → Prop
  | .z, x => ∃ n, x = .int n
  | .f p, x => ∃ n, x = .int n ∧ 0 ≤ n ∧ n < p
  | .q, x => ∃ n m, x = .tup [.int n, .int m] ∧ 1 ≤ m ∧ Int.gcd n m = 1
  | .p d, x => ∃ xs, x = .tup xs ∧ (∀ y ∈ xs, Bel d y) ∧ xs.getLast? ≠ some (zeroW d)
def dpt : Dm → Nat
  | .p d => dpt d + 1
  | _ => 0
theorem dpt_small {d : Dm} (h : IsD d) : dpt d < 2 := by
  cases d with
  | z => decide
  | q => show 0 < 2; decide
  | f n => show 0 < 2; decide
  | p d =>
    cases d with
    | q => show 0 + 1 < 2; decide
    | f n => show 0 + 1 < 2; decide
    | z => exact h.elim
    | p d => exact h.elim
def brc (c : Nat) : Int := if c = 123 then 1 else if c = 125 then -1 else 0
def pcs : List Nat → Int → List Nat → List (List Nat)
  | cur, _, [] => [cur]
  | cur, k, c :: r => if c = 32 ∧ k = 0 then cur :: pcs [] k r else pcs (cur ++ [c]) (k + brc c) r
theorem pcs_small : ∀ (t cur : List Nat) (k : Int), ∀ x ∈ pcs cur k t, x.length ≤ cur.length + t.length
  | [], cur, k, x, h => by
    rw [pcs, List.mem_singleton] at h
    rw [h]
    exact Nat.le_add_right _ _
  | c :: r, cur, k, x, h => by
    rw [pcs] at h
    split at h
    · rcases List.mem_cons.mp h with rfl | h
      · omega
      · have := pcs_small r [] k x h
        rw [List.length_cons]
        simp only [List.length_nil] at this
        omega
    · have := pcs_small r (cur ++ [c]) _ x h
      rw [List.length_append, List.length_singleton] at this
      rw [List.length_cons]
      omega
theorem pcs_count : ∀ (t cur : List Nat) (k : Int), (pcs cur k t).length ≤ t.length + 1
  | [], cur, k => by rw [pcs]; simp
  | c :: r, cur, k => by
    rw [pcs]
    split
    · have := pcs_count r [] k
      rw [List.length_cons, List.length_cons]
      omega
    · have := pcs_count r (cur ++ [c]) (k + brc c)
      rw [List.length_cons]
      omega
def mapO (f : List Nat → Option W) : List (List Nat) → Option (List W)
  | [] => some []
  | x :: xs => match f x with
    | none => none
    | some y => match mapO f xs with
      | none => none
      | some ys => some (y :: ys)
def inner (t : List Nat) : List Nat := (t.drop 1).dropLast
def framed (o c : Nat) (t : List Nat) : Prop := 2 ≤ t.length ∧ t.head? = some o ∧ t.getLast? = some c
instance (o c : Nat) (t : List Nat) : Decidable (framed o c t) := by unfold framed; exact inferInstance
def rLs (f : List Nat → Option W) (o c : Nat) (t : List Nat) : Option (List W) :=
  if framed o c t then (if inner t = [] then some [] else mapO f (pcs [] 0 (inner t))) else none
noncomputable def flt (d : Dm) (o : Option W) : Option W := open Classical in match o with
  | some x => if Bel d x then some x else none
  | none => none
def preL : List (List Nat) → Option W
  | [a] => (rInt a).map fun n => .tup [.int n, .int 1]
  | [a, b] => (match rInt a, rNat b with
    | some n, some m => if 2 ≤ m then some (.tup [.int n, .int (m : Int)]) else none
    | _, _ => none)
  | _ => none
def preQ (t : List Nat) : Option W := preL (TL.spl [47] 0 [] t)
theorem preL1 (a : List Nat) : preL [a] = (rInt a).map fun n => .tup [.int n, .int 1] := rfl
theorem preL2 (a b : List Nat) : preL [a, b] = (match rInt a, rNat b with
    | some n, some m => if 2 ≤ m then some (.tup [.int n, .int (m : Int)]) else none
    | _, _ => none) := rfl
theorem preL3 (a b c : List Nat) (r : List (List Nat)) : preL (a :: b :: c :: r) = none := rfl
noncomputable def rEl : Dm → List Nat → Option W
  | .z, t => flt .z ((rInt t).map .int)
  | .f p, t => flt (.f p) ((rInt t).map .int)
  | .q, t => flt .q (preQ t)
  | .p d, t => flt (.p d) ((rLs (rEl d) 123 125 t).map .tup)
theorem flt_bel {d : Dm} {o : Option W} {x : W} (h : flt d o = some x) : Bel d x ∧ o = some x := by
  unfold flt at h
  split at h
  · rename_i y
    split at h
    · injection h with h
      rename_i hb
      exact ⟨by rw [← h]; exact hb, by rw [h]⟩
    · cases h
  · cases h
theorem rEl_bel {d : Dm} {t : List Nat} {x : W} (h : rEl d t = some x) : Bel d x := by
  cases d <;> (rw [rEl] at h; exact (flt_bel h).1)
theorem Bel.shp : ∀ {d : Dm} {x : W}, Bel d x → Shp d x
  | .z, _, h => h
  | .f _, _, ⟨n, e, _⟩ => ⟨n, e⟩
  | .q, _, ⟨n, m, e, _⟩ => ⟨n, m, e⟩
  | .p d, _, ⟨xs, e, h, _⟩ => ⟨xs, e, fun y hy => (h y hy).shp⟩
theorem mapO_all {f : List Nat → Option W} {p : W → Prop} (hp : ∀ t x, f t = some x → p x) : ∀ {ts : List (List Nat)} {xs : List W}, mapO f ts = some xs → ∀ x ∈ xs, p x
  | [], xs, h, x, hx => by
    rw [mapO] at h
    injection h with h
    rw [← h] at hx
    cases hx
  | t :: ts, xs, h, x, hx => by
    rw [mapO] at h
    split at h
    · cases h
    · rename_i y e
      split at h
      · cases h
      · rename_i ys e2
        injection h with h
        rw [← h] at hx
        rcases List.mem_cons.mp hx with rfl | hx
        · exact hp _ _ e
        · exact mapO_all hp e2 x hx
theorem rLs_all {f : List Nat → Option W} {p : W → Prop} (hp : ∀ t x, f t = some x → p x) {o c : Nat} {t : List Nat} {xs : List W} (h : rLs f o c t = some xs) : ∀ x ∈ xs, p x := by
  unfold rLs at h
  split at h
  · split at h
    · injection h with h
      rw [← h]
      exact fun x hx => nomatch hx
    · exact mapO_all hp h
  · cases h
theorem inner_len (t : List Nat) : (inner t).length = t.length - 2 := by
  unfold inner
  rw [List.length_dropLast, List.length_drop]
  omega
def more (ys : List W) : Option (List W) → Option (List W)
  | none => none
  | some zs => some (ys ++ zs)
theorem more_snoc {f : List Nat → Option W} {ys : List W} {y : W} {x : List Nat} {ts : List (List Nat)} (h : f x = some y) : more ys (mapO f (x :: ts)) = more (ys ++ [y]) (mapO f ts) := by
  rw [mapO, h]
  cases mapO f ts with
  | none => rfl
  | some zs =>
    show some (ys ++ y :: zs) = some (ys ++ [y] ++ zs)
    rw [List.append_assoc]
    rfl
theorem IsF.isD {d : Dm} (h : IsF d) : IsD d := by
  cases d with
  | q => exact h
  | f n => exact h
  | z => exact h.elim
  | p d => exact h.elim
theorem spl_ne (sep : List Nat) : ∀ (t : List Nat) (k : Nat) (acc : List Nat), TL.spl sep k acc t ≠ []
  | [], k, acc => by rw [TL.spl_nil]; exact List.cons_ne_nil _ _
  | c :: r, 0, acc => by
    show (if _ then _ else _) ≠ []
    split
    · exact List.cons_ne_nil _ _
    · exact spl_ne sep r 0 _
  | c :: r, k + 1, acc => spl_ne sep r k acc
theorem spl_small (sep : List Nat) : ∀ (t : List Nat) (k : Nat) (acc : List Nat), ∀ x ∈ TL.spl sep k acc t, x.length ≤ acc.length + t.length
  | [], k, acc, x, h => by
    rw [TL.spl_nil, List.mem_singleton] at h
    rw [h]
    exact Nat.le_add_right _ _
  | c :: r, 0, acc, x, h => by
    have h' : x ∈ (if TL.pre sep (c :: r) = true then acc :: TL.spl sep (sep.length - 1) [] r else TL.spl sep 0 (acc ++ [c]) r) := h
    split at h'
    · rcases List.mem_cons.mp h' with rfl | h'
      · omega
      · have := spl_small sep r _ [] x h'
        simp only [List.length_nil] at this
        rw [List.length_cons]
        omega
    · have := spl_small sep r 0 _ x h'
      rw [List.length_append, List.length_singleton] at this
      rw [List.length_cons]
      omega
  | c :: r, k + 1, acc, x, h => by
    have := spl_small sep r k acc x h
    rw [List.length_cons]
    omega
theorem spl_count (sep : List Nat) : ∀ (t : List Nat) (k : Nat) (acc : List Nat), (TL.spl sep k acc t).length ≤ t.length + 1
  | [], k, acc => by rw [TL.spl_nil]; exact Nat.le_refl _
  | c :: r, 0, acc => by
    show (if TL.pre sep (c :: r) = true then acc :: TL.spl sep (sep.length - 1) [] r else TL.spl sep 0 (acc ++ [c]) r).length ≤ _
    split
    · have := spl_count sep r (sep.length - 1) []
      rw [List.length_cons, List.length_cons]
      omega
    · have := spl_count sep r 0 (acc ++ [c])
      rw [List.length_cons]
      omega
  | c :: r, k + 1, acc => by
    have := spl_count sep r k acc
    show (TL.spl sep k acc r).length ≤ _
    rw [List.length_cons]
    omega
noncomputable def preEl : Dm → List Nat → Option W
  | .z, t => (rInt t).map .int
  | .f _, t => (rInt t).map .int
  | .q, t => preQ t
  | .p d, t => (rLs (rEl d) 123 125 t).map .tup
theorem rEl_pre (d : Dm) (t : List Nat) : rEl d t = flt d (preEl d t) := by
  cases d <;> (rw [rEl]; rfl)
def szL : List (List Nat) → Option W
  | [a, b] => (match rNat a, rNat b with
    | some m, some n => if (0 < m ∧ 0 < n) ∨ 1000 < m ∨ 1000 < n then none else some (.tup [.int (m : Int), .int (n : Int), .tup (List.replicate m (.tup []))])
    | _, _ => none)
  | _ => none
def rSz (t : List Nat) : Option W := szL (TL.spl [120] 0 [] t)
def mapR (f : List Nat → Option W) : List (List Nat) → Option (List (List W))
  | [] => some []
  | x :: xs => match mapO f (pcs [] 0 x) with
    | none => none
    | some y => match mapR f xs with
      | none => none
      | some ys => some (y :: ys)
def moreR (ys : List (List W)) : Option (List (List W)) → Option (List (List W))
  | none => none
  | some zs => some (ys ++ zs)
theorem moreR_snoc {f : List Nat → Option W} {ys : List (List W)} {y : List W} {x : List Nat} {ts : List (List Nat)} (h : mapO f (pcs [] 0 x) = some y) : moreR ys (mapR f (x :: ts)) = moreR (ys ++ [y]) (mapR f ts) := by
  rw [mapR, h]
  cases mapR f ts with
  | none => rfl
  | some zs =>
    show some (ys ++ y :: zs) = some (ys ++ [y] ++ zs)
    rw [List.append_assoc]
    rfl
theorem mapR_all {f : List Nat → Option W} {p : W → Prop} (hp : ∀ t x, f t = some x → p x) : ∀ {ts : List (List Nat)} {rows : List (List W)}, mapR f ts = some rows → ∀ r ∈ rows, ∀ x ∈ r, p x
  | [], xs, h, r, hr => by
    rw [mapR] at h
    injection h with h
    rw [← h] at hr
    cases hr
  | t :: ts, xs, h, r, hr => by
    rw [mapR] at h
    split at h
    · cases h
    · rename_i y e
      split at h
      · cases h
      · rename_i ys e2
        injection h with h
        rw [← h] at hr
        rcases List.mem_cons.mp hr with rfl | hr
        · exact mapO_all hp e
        · exact mapR_all hp e2 r hr
theorem mapR_len {f : List Nat → Option W} : ∀ {ts : List (List Nat)} {rows : List (List W)}, mapR f ts = some rows → rows.length = ts.length
  | [], xs, h => by
    rw [mapR] at h
    injection h with h
    rw [← h]
    rfl
  | t :: ts, xs, h => by
    rw [mapR] at h
    split at h
    · cases h
    · split at h
      · cases h
      · rename_i ys e2
        injection h with h
        rw [← h, List.length_cons, List.length_cons, mapR_len e2]
def mxOf (rows : List (List W)) : Option W := match rows with
  | [] => none
  | r :: _ => if ∀ x ∈ rows, x.length = r.length then some (.tup [.int ((rows.length : Nat) : Int), .int ((r.length : Nat) : Int), .tup (rows.map .tup)]) else none
noncomputable def rMx (d : Dm) (t : List Nat) : Option W :=
  if framed 91 93 t then (if 120 ∈ inner t then rSz (inner t) else (mapR (rEl d) (TL.spl [59, 32] 0 [] (inner t))).bind mxOf) else none
theorem mapR_ne {f : List Nat → Option W} {x : List Nat} {xs : List (List Nat)} {rows : List (List W)} (h : mapR f (x :: xs) = some rows) : ∃ r rs, rows = r :: rs := by
  have e := mapR_len h
  cases rows with
  | nil => simp at e
  | cons r rs => exact ⟨r, rs, rfl⟩
theorem starts_S (a b : List Nat) : Txt.startswith (S a) (S b) = decide (a.take b.length = b) := by
  unfold Txt.startswith
  rw [PySem.StrLaws.subAt_eq]
  show (decide (0 + b.length ≤ a.length) && ((a.drop 0).take b.length == b)) = _
  rw [List.drop_zero]
  by_cases h : a.take b.length = b
  · have e := congrArg List.length h
    rw [List.length_take] at e
    rw [decide_eq_true h, decide_eq_true (by omega), h]
    simp
  · rw [decide_eq_false h]
    simp [h]
noncomputable def domO (d : Dm) : Option Dm := open Classical in if IsD d then some d else none
noncomputable def rDt : List Nat → Option Dm
  | [] => none
  | x :: r =>
    if x :: r = [90] then some .z else if x :: r = [81] then some .q else
    if x = 80 ∧ r.head? ≠ some 80 then (rDt r).bind fun d => domO (.p d) else
    if x = 70 ∧ r.length < 8 then (rNat r).bind fun n => domO (.f (n : Int)) else none
theorem rDt_z : rDt [90] = some .z := by
  unfold rDt
  rw [if_pos rfl]
theorem rDt_q : rDt [81] = some .q := by
  unfold rDt
  rw [if_neg (by decide), if_pos rfl]
theorem rDt_P {r : List Nat} (h : r.head? ≠ some 80) : rDt (80 :: r) = (rDt r).bind fun d => domO (.p d) := by
  rw [rDt, if_neg (fun e => by injection e with e; cases e), if_neg (fun e => by injection e with e; cases e), if_pos ⟨rfl, h⟩]
theorem rDt_F {r : List Nat} (h : r.length < 8) : rDt (70 :: r) = (rNat r).bind fun n => domO (.f (n : Int)) := by
  rw [rDt, if_neg (fun e => by injection e with e; cases e), if_neg (fun e => by injection e with e; cases e), if_neg (fun e => by cases e.1), if_pos ⟨rfl, h⟩]
theorem rDt_no {t : List Nat} (hz : t ≠ [90]) (hq : t ≠ [81]) (hp : ¬ (t.head? = some 80 ∧ t.tail.head? ≠ some 80)) (hf : ¬ (t.head? = some 70 ∧ t.length < 9)) : rDt t = none := by
  cases t with
  | nil => rfl
  | cons x r =>
    rw [rDt, if_neg hz, if_neg hq, if_neg (fun e => hp ⟨by rw [e.1]; rfl, e.2⟩), if_neg (fun e => hf ⟨by rw [e.1]; rfl, by rw [List.length_cons]; omega⟩)]
def lvl (t : List Nat) : Nat := if t.head? = some 80 then 1 else 0
theorem dv_ge {c : Nat} (h : 49 ≤ c) : ∀ (n : Nat) (r : List Nat), r.length = n → 10 ^ n ≤ digitsVal (c :: r)
  | 0, [], _ => digitsVal_pos h
  | n + 1, r, e => by
    rcases List.eq_nil_or_concat r with rfl | ⟨r', x, rfl⟩
    · cases e
    · rw [List.concat_eq_append] at e ⊢
      have e' : r'.length = n := by rw [List.length_append, List.length_singleton] at e; omega
      have ih := dv_ge h n r' e'
      rw [← List.cons_append, digitsVal_snoc, Nat.pow_succ]
      omega
theorem rNat_short {r : List Nat} {n : Nat} (h : rNat r = some n) (hn : n ≤ 65521) : r.length < 8 := by
  unfold rNat at h
  split at h
  · cases h
  · rename_i hc
    injection h with h
    cases r with
    | nil => decide
    | cons c r =>
      by_cases hl : 1 < (c :: r).length
      · have hd : (c :: r).all isDig = true := Decidable.byContradiction fun z => hc (.inr (.inr z))
        have c48 : c ≠ 48 := fun z => hc (.inr (.inl ⟨hl, by rw [z]; rfl⟩))
        have cd := isDig_iff.mp (List.all_eq_true.mp hd c (List.mem_cons_self ..))
        have ge := dv_ge (c := c) (by omega) r.length r rfl
        rw [h] at ge
        rw [List.length_cons]
        refine Decidable.byContradiction fun z => ?_
        have := Nat.pow_le_pow_right (show 0 < 10 by decide) (show 7 ≤ r.length by omega)
        have h7 : (10 : Nat) ^ 7 = 10000000 := by decide
        omega
      · omega
theorem rDt_field {r : List Nat} {d : Dm} (h : rDt r = some d) (hz : r ≠ [90]) (hp : r.head? ≠ some 80) : IsF d := by
  cases r with
  | nil => cases h
  | cons x r =>
    rw [rDt, if_neg hz] at h
    split at h
    · injection h with h
      rw [← h]
      exact True.intro
    · rw [if_neg (fun e => hp (by rw [e.1]; rfl))] at h
      split at h
      · obtain ⟨n, _, hn⟩ := Option.bind_eq_some_iff.mp h
        unfold domO at hn
        split at hn
        · rename_i hi
          injection hn with hn
          rw [← hn]
          exact hi
        · cases hn
      · cases h
theorem rDt_none {t : List Nat} (hz : t ≠ [90]) (hq : t ≠ [81]) (hp : ¬ (t.head? = some 80 ∧ t.tail ≠ [90] ∧ t.tail.head? ≠ some 80)) (hg : ∀ m : Nat, t.head? = some 70 → rNat t.tail = some m → ¬ (2 ≤ m ∧ m ≤ 65521)) : rDt t = none := by
  cases t with
  | nil => rfl
  | cons x r =>
    rw [rDt, if_neg hz, if_neg hq]
    split
    · rename_i h
      have hr : r = [90] := Decidable.byContradiction fun z => hp ⟨by rw [h.1]; rfl, z, h.2⟩
      rw [hr, rDt_z]
      show domO (.p .z) = none
      unfold domO
      rw [if_neg (show ¬ IsD (.p .z) from fun z => z)]
    · split
      · rename_i h
        cases e : rNat r with
        | none => rfl
        | some m =>
          show domO (.f (m : Int)) = none
          unfold domO
          rw [if_neg]
          intro z
          have z' : (1 < (m : Int) ∧ (m : Int) ≤ 65521) ∧ PrI m := z
          exact hg m (by rw [h.1]; rfl) e ⟨by omega, by omega⟩
      · rfl
theorem pcs_in {c : Nat} : ∀ (u cur : List Nat) (k : Int), c ∈ cur → ∃ x ∈ pcs cur k u, c ∈ x
  | [], cur, k, h => ⟨cur, by rw [pcs]; exact List.mem_singleton.mpr rfl, h⟩
  | d :: r, cur, k, h => by
    rw [pcs]
    split
    · exact ⟨cur, List.mem_cons_self .., h⟩
    · exact pcs_in r _ _ (List.mem_append_left _ h)
theorem pcs_mem {c : Nat} (h32 : c ≠ 32) : ∀ (u cur : List Nat) (k : Int), c ∈ u → ∃ x ∈ pcs cur k u, c ∈ x
  | d :: r, cur, k, h => by
    rw [pcs]
    split
    · rename_i hd
      rcases List.mem_cons.mp h with rfl | h
      · exact absurd hd.1 h32
      · obtain ⟨x, hx, hc⟩ := pcs_mem h32 r [] k h
        exact ⟨x, List.mem_cons_of_mem _ hx, hc⟩
    · rcases List.mem_cons.mp h with rfl | h
      · exact pcs_in r _ _ (List.mem_append_right _ (List.mem_singleton.mpr rfl))
      · exact pcs_mem h32 r _ _ h
theorem spl32 (c : Nat) (r acc : List Nat) : TL.spl [32] 0 acc (c :: r) = if c = 32 then acc :: TL.spl [32] 0 [] r else TL.spl [32] 0 (acc ++ [c]) r := by
  show (if TL.pre [32] (c :: r) = true then acc :: TL.spl [32] ([32].length - 1) [] r else TL.spl [32] 0 (acc ++ [c]) r) = _
  have e : TL.pre [32] (c :: r) = decide (c = 32) := by
    unfold TL.pre
    by_cases h : c = 32
    · subst h
      simp
    · simp [h]
      try omega
  rw [e]
  by_cases h : c = 32
  · rw [if_pos (decide_eq_true h), if_pos h]
    rfl
  · rw [if_neg (by rw [decide_eq_false h]; decide), if_neg h]
theorem pcs_eq : ∀ (u cur : List Nat), (∀ c ∈ u, c ≠ 123 ∧ c ≠ 125) → pcs cur 0 u = TL.spl [32] 0 cur u
  | [], cur, _ => by rw [pcs, TL.spl_nil]
  | c :: r, cur, h => by
    have hc := h c (List.mem_cons_self ..)
    have hr : ∀ c ∈ r, c ≠ 123 ∧ c ≠ 125 := fun x hx => h x (List.mem_cons_of_mem _ hx)
    rw [pcs, spl32]
    by_cases h32 : c = 32
    · rw [if_pos ⟨h32, rfl⟩, if_pos h32, pcs_eq r [] hr]
    · rw [if_neg (fun z => h32 z.1), if_neg h32]
      rw [show brc c = 0 by unfold brc; rw [if_neg hc.1, if_neg hc.2]]
      exact pcs_eq r (cur ++ [c]) hr
theorem spl_in {c : Nat} : ∀ (u cur : List Nat), c ∈ cur → ∃ x ∈ TL.spl [32] 0 cur u, c ∈ x
  | [], cur, h => ⟨cur, by rw [TL.spl_nil]; exact List.mem_singleton.mpr rfl, h⟩
  | d :: r, cur, h => by
    rw [spl32]
    split
    · exact ⟨cur, List.mem_cons_self .., h⟩
    · exact spl_in r _ (List.mem_append_left _ h)
theorem spl_mem {c : Nat} (h32 : c ≠ 32) : ∀ (u cur : List Nat), c ∈ u → ∃ x ∈ TL.spl [32] 0 cur u, c ∈ x
  | d :: r, cur, h => by
    rw [spl32]
    split
    · rename_i hd
      rcases List.mem_cons.mp h with rfl | h
      · exact absurd hd h32
      · obtain ⟨x, hx, hc⟩ := spl_mem h32 r [] h
        exact ⟨x, List.mem_cons_of_mem _ hx, hc⟩
    · rcases List.mem_cons.mp h with rfl | h
      · exact spl_in r _ (List.mem_append_right _ (List.mem_singleton.mpr rfl))
      · exact spl_mem h32 r _ h
theorem mapO_none {f : List Nat → Option W} : ∀ {ts : List (List Nat)} {x : List Nat}, x ∈ ts → f x = none → mapO f ts = none
  | t :: ts, x, h, hf => by
    rw [mapO]
    rcases List.mem_cons.mp h with rfl | h
    · rw [hf]
    · rw [mapO_none h hf]
      cases f t <;> rfl
theorem rNat_brc {t : List Nat} {c : Nat} (h : c ∈ t) (hc : isDig c = false) : rNat t = none := by
  unfold rNat
  rw [if_pos (.inr (.inr fun z => by rw [List.all_eq_true.mp z c h] at hc; cases hc))]
theorem rInt_brc {t : List Nat} {c : Nat} (h : c ∈ t) (hc : isDig c = false) (h45 : c ≠ 45) : rInt t = none := by
  unfold rInt
  split
  · rename_i h1
    cases t with
    | nil => cases h1
    | cons x r =>
      have hx : x = 45 := by simpa using h1
      have hr : c ∈ r := (List.mem_cons.mp h).resolve_left fun z => h45 (z.trans hx)
      rw [show (x :: r).tail = r from rfl, rNat_brc hr hc]
  · rw [rNat_brc h hc]
theorem spl1 (s c : Nat) (r acc : List Nat) : TL.spl [s] 0 acc (c :: r) = if c = s then acc :: TL.spl [s] 0 [] r else TL.spl [s] 0 (acc ++ [c]) r := by
  show (if TL.pre [s] (c :: r) = true then acc :: TL.spl [s] ([s].length - 1) [] r else TL.spl [s] 0 (acc ++ [c]) r) = _
  have e : TL.pre [s] (c :: r) = decide (c = s) := by
    unfold TL.pre
    by_cases h : c = s
    · subst h
      simp
    · simp [h]
      try omega
  rw [e]
  by_cases h : c = s
  · rw [if_pos (decide_eq_true h), if_pos h]
    rfl
  · rw [if_neg (by rw [decide_eq_false h]; decide), if_neg h]
theorem spl1_in {s c : Nat} : ∀ (u cur : List Nat), c ∈ cur → ∃ x ∈ TL.spl [s] 0 cur u, c ∈ x
  | [], cur, h => ⟨cur, by rw [TL.spl_nil]; exact List.mem_singleton.mpr rfl, h⟩
  | d :: r, cur, h => by
    rw [spl1]
    split
    · exact ⟨cur, List.mem_cons_self .., h⟩
    · exact spl1_in r _ (List.mem_append_left _ h)
theorem spl1_mem {s c : Nat} (h32 : c ≠ s) : ∀ (u cur : List Nat), c ∈ u → ∃ x ∈ TL.spl [s] 0 cur u, c ∈ x
  | d :: r, cur, h => by
    rw [spl1]
    split
    · rename_i hd
      rcases List.mem_cons.mp h with rfl | h
      · exact absurd hd h32
      · obtain ⟨x, hx, hc⟩ := spl1_mem h32 r [] h
        exact ⟨x, List.mem_cons_of_mem _ hx, hc⟩
    · rcases List.mem_cons.mp h with rfl | h
      · exact spl1_in r _ (List.mem_append_right _ (List.mem_singleton.mpr rfl))
      · exact spl1_mem h32 r _ h
theorem preL_brc {c : Nat} (hc : isDig c = false) (h45 : c ≠ 45) : ∀ {l : List (List Nat)}, (∃ x ∈ l, c ∈ x) → preL l = none
  | [], _ => rfl
  | [a], ⟨x, hx, h⟩ => by
    rw [preL1]
    obtain rfl := List.mem_singleton.mp hx
    rw [rInt_brc h hc h45]
    rfl
  | [a, b], ⟨x, hx, h⟩ => by
    rw [preL2]
    rcases List.mem_cons.mp hx with rfl | hx
    · rw [rInt_brc h hc h45]
    · obtain rfl := List.mem_singleton.mp hx
      rw [rNat_brc h hc]
      cases rInt a <;> rfl
  | _ :: _ :: _ :: _, _ => rfl
theorem flt_none (d : Dm) : flt d none = none := rfl
theorem rEl_brc {d : Dm} (hd : IsF d) {t : List Nat} {c : Nat} (h : c ∈ t) (hc : c = 123 ∨ c = 125) : rEl d t = none := by
  have h1 : isDig c = false := by rcases hc with rfl | rfl <;> decide
  have h45 : c ≠ 45 := by rcases hc with rfl | rfl <;> decide
  cases d with
  | z => exact hd.elim
  | p d => exact hd.elim
  | f n => rw [rEl, rInt_brc h h1 h45]; rfl
  | q =>
    rw [rEl]
    unfold preQ
    rw [preL_brc h1 h45 (spl1_mem (by rcases hc with rfl | rfl <;> decide) t [] h)]
    rfl
theorem mapO_split {d : Dm} (hd : IsF d) (u : List Nat) : mapO (rEl d) (pcs [] 0 u) = mapO (rEl d) (TL.spl [32] 0 [] u) := by
  by_cases h : ∀ c ∈ u, c ≠ 123 ∧ c ≠ 125
  · rw [pcs_eq u [] h]
  · obtain ⟨c, hu, hc⟩ : ∃ c, c ∈ u ∧ (c = 123 ∨ c = 125) := by
      refine Classical.byContradiction fun z => h fun c hu => ⟨fun e => z ⟨c, hu, .inl e⟩, fun e => z ⟨c, hu, .inr e⟩⟩
    have h32 : c ≠ 32 := by rcases hc with rfl | rfl <;> decide
    obtain ⟨x, hx, h1⟩ := pcs_mem h32 u [] 0 hu
    obtain ⟨y, hy, h2⟩ := spl1_mem h32 u [] hu
    rw [mapO_none hx (rEl_brc hd h1 hc), mapO_none hy (rEl_brc hd h2 hc)]
theorem spl1_none {s : Nat} : ∀ (u cur : List Nat), s ∉ u → TL.spl [s] 0 cur u = [cur ++ u]
  | [], cur, _ => by rw [TL.spl_nil, List.append_nil]
  | c :: r, cur, h => by
    rw [spl1, if_neg (fun z => h (by rw [z]; exact List.mem_cons_self ..)), spl1_none r _ (fun z => h (List.mem_cons_of_mem _ z)), List.append_assoc]
    rfl
/-- what a domain that is no P reads where no slash is met -/
theorem rEl_int {d : Dm} {t : List Nat} (hp : ∀ d', d ≠ .p d') (hs : ¬ (d = .q ∧ 47 ∈ t)) : rEl d t = flt d ((rInt t).map fun n => match d with | .q => .tup [.int n, .int 1] | _ => .int n) := by
  cases d with
  | z => rw [rEl]
  | f n => rw [rEl]
  | p d' => exact absurd rfl (hp d')
  | q =>
    rw [rEl]
    unfold preQ
    rw [spl1_none t [] (fun z => hs ⟨rfl, z⟩), List.nil_append, preL1]
theorem flt_yes {d : Dm} {x : W} (h : Bel d x) : flt d (some x) = some x := by
  unfold flt
  dsimp only
  rw [if_pos h]
theorem flt_no {d : Dm} {x : W} (h : ¬ Bel d x) : flt d (some x) = none := by
  unfold flt
  dsimp only
  rw [if_neg h]
theorem spl1_two {s : Nat} : ∀ (u cur : List Nat), s ∈ u → ∃ x y l, TL.spl [s] 0 cur u = x :: y :: l
  | c :: r, cur, h => by
    rw [spl1]
    by_cases e : c = s
    · rw [if_pos e]
      cases q : TL.spl [s] 0 [] r with
      | nil => exact absurd q (spl_ne [s] r 0 [])
      | cons y l => exact ⟨cur, y, l, rfl⟩
    · rw [if_neg e]
      exact spl1_two r _ ((List.mem_cons.mp h).resolve_left fun z => e z.symm)
end ME

set_option Elab.async false
set_option linter.all false
set_option maxRecDepth 100000
set_option maxHeartbeats 1000000
/-! ### equality of data -/
namespace ME
open PySem PySem.Spec PyProof.Rows L2
/-- data without truth values: tuples of at most n levels -/
def Dt : Nat → W → Prop
  | _, .non => True
  | _, .int _ => True
  | _, .str x => ∀ k ∈ x, k < 1114112
  | n + 1, .tup xs => ∀ x ∈ xs, Dt n x
  | _, _ => False
theorem Dt.up : ∀ {n : Nat} {w : W}, Dt n w → Dt (n + 1) w
  | n, .non, _ => by unfold Dt; trivial
  | n, .int _, _ => by unfold Dt; trivial
  | n, .str x, h => by unfold Dt at h ⊢; exact h
  | 0, .tup xs, h => by unfold Dt at h; exact h.elim
  | n + 1, .tup xs, h => by
    unfold Dt at h ⊢
    exact fun x hx => (h x hx).up
  | 0, .bl _, h => by unfold Dt at h; exact h.elim
  | n + 1, .bl _, h => by unfold Dt at h; exact h.elim
  | 0, .ref _, h => by unfold Dt at h; exact h.elim
  | n + 1, .ref _, h => by unfold Dt at h; exact h.elim
  | 0, .scr _, h => by unfold Dt at h; exact h.elim
  | n + 1, .scr _, h => by unfold Dt at h; exact h.elim
theorem Dt.le {n m : Nat} {w : W} (h : Dt n w) (l : n ≤ m) : Dt m w := by
  induction l with
  | refl => exact h
  | step _ ih => exact ih.up
/-- what data is laid as -/
structure Ly (n : Nat) (w : W) (d : PyData) : Prop where
  p : pD w = some d
  c : d.canLay0 = true
  d : d.depth ≤ n
theorem lys {n : Nat} (one : ∀ w, Dt n w → ∃ d, Ly n w d) : ∀ (xs : List W), (∀ x ∈ xs, Dt n x) → ∃ ds, pDs xs = some ds ∧ PyData.canLayAll0 ds = true ∧ PyData.depthAll ds ≤ n
  | [], _ => ⟨[], rfl, rfl, Nat.zero_le _⟩
  | x :: xs, h => by
    obtain ⟨d, a, b, c⟩ := one x (h x (List.mem_cons_self ..))
    obtain ⟨ds, a2, b2, c2⟩ := lys one xs fun y hy => h y (List.mem_cons_of_mem _ hy)
    refine ⟨d :: ds, by rw [pDs, a, a2], ?_, ?_⟩
    · rw [PyData.canLayAll0, b, b2]; rfl
    · rw [PyData.depthAll]; exact Nat.max_le.mpr ⟨c, c2⟩
theorem ly : ∀ {n : Nat} {w : W}, Dt n w → ∃ d, Ly n w d
  | n, .non, _ => ⟨.none, by rw [pD], by rw [PyData.canLay0], by rw [PyData.depth]; omega⟩
  | n, .int i, _ => ⟨.int i, by rw [pD], by rw [PyData.canLay0], by rw [PyData.depth]; omega⟩
  | n, .str x, h => ⟨.str (S x), by rw [pD], by
      rw [PyData.canLay0]
      unfold Dt at h
      unfold PyData.strOk
      simp
      exact h, by rw [PyData.depth]; omega⟩
  | n + 1, .tup xs, h => by
    unfold Dt at h
    obtain ⟨ds, a, b, c⟩ := lys (fun w hw => ly hw) xs h
    refine ⟨.tuple ds, by rw [pD, a]; rfl, by rw [PyData.canLay0]; exact b, by rw [PyData.depth]; omega⟩
  | 0, .tup xs, h => by unfold Dt at h; exact h.elim
  | 0, .bl _, h => by unfold Dt at h; exact h.elim
  | n + 1, .bl _, h => by unfold Dt at h; exact h.elim
  | 0, .ref _, h => by unfold Dt at h; exact h.elim
  | n + 1, .ref _, h => by unfold Dt at h; exact h.elim
  | 0, .scr _, h => by unfold Dt at h; exact h.elim
  | n + 1, .scr _, h => by unfold Dt at h; exact h.elim
theorem eqvs {n : Nat} (one : ∀ a b d e, Dt n a → Dt n b → pD a = some d → pD b = some e → (PyData.eqv d e = true ↔ a = b)) : ∀ (xs ys : List W) (ds es : List PyData), (∀ x ∈ xs, Dt n x) → (∀ x ∈ ys, Dt n x) → pDs xs = some ds → pDs ys = some es → (PyData.eqvAll ds es = true ↔ xs = ys)
  | [], [], ds, es, _, _, p, q => by
    cases p; cases q
    simp [PyData.eqvAll]
  | [], y :: ys, ds, es, _, h, p, q => by
    cases p
    obtain ⟨e, he⟩ := ly (h y (List.mem_cons_self ..))
    obtain ⟨es', he'⟩ := lys (fun w hw => ly hw) ys fun z hz => h z (List.mem_cons_of_mem _ hz)
    rw [pDs, he.p, he'.1] at q
    cases q
    simp [PyData.eqvAll]
  | y :: ys, [], ds, es, h, _, q, p => by
    cases p
    obtain ⟨e, he⟩ := ly (h y (List.mem_cons_self ..))
    obtain ⟨es', he'⟩ := lys (fun w hw => ly hw) ys fun z hz => h z (List.mem_cons_of_mem _ hz)
    rw [pDs, he.p, he'.1] at q
    cases q
    simp [PyData.eqvAll]
  | x :: xs, y :: ys, ds, es, h, k, p, q => by
    obtain ⟨d, hd⟩ := ly (h x (List.mem_cons_self ..))
    obtain ⟨ds', hd'⟩ := lys (fun w hw => ly hw) xs fun z hz => h z (List.mem_cons_of_mem _ hz)
    obtain ⟨e, he⟩ := ly (k y (List.mem_cons_self ..))
    obtain ⟨es', he'⟩ := lys (fun w hw => ly hw) ys fun z hz => k z (List.mem_cons_of_mem _ hz)
    rw [pDs, hd.p, hd'.1] at p
    rw [pDs, he.p, he'.1] at q
    cases p; cases q
    rw [PyData.eqvAll, Bool.and_eq_true, one x y d e (h x (List.mem_cons_self ..)) (k y (List.mem_cons_self ..)) hd.p he.p,
      eqvs one xs ys ds' es' (fun z hz => h z (List.mem_cons_of_mem _ hz)) (fun z hz => k z (List.mem_cons_of_mem _ hz)) hd'.1 he'.1, List.cons.injEq]
theorem eqv_iff : ∀ (n : Nat) (a b : W) (d e : PyData), Dt n a → Dt n b → pD a = some d → pD b = some e → (PyData.eqv d e = true ↔ a = b) := by
  intro n
  induction n with
  | zero =>
    intro a b d e ha hb p q
    cases a <;> (try (unfold Dt at ha; exact ha.elim)) <;> cases b <;> (try (unfold Dt at hb; exact hb.elim)) <;>
      (simp only [pD, Option.some.injEq] at p q; subst p; subst q; simp [PyData.eqv, S_inj])
  | succ n ih =>
    intro a b d e ha hb p q
    cases a <;> (try (unfold Dt at ha; exact ha.elim)) <;> cases b <;> (try (unfold Dt at hb; exact hb.elim)) <;>
      simp only [pD, Option.some.injEq] at p q
    case tup.tup xs ys =>
      unfold Dt at ha hb
      obtain ⟨ds, h1, rfl⟩ := Option.map_eq_some_iff.mp p
      obtain ⟨es, h2, rfl⟩ := Option.map_eq_some_iff.mp q
      rw [PyData.eqv, eqvs ih xs ys ds es ha hb h1 h2, W.tup.injEq]
    all_goals first
      | (obtain ⟨ds, h1, rfl⟩ := Option.map_eq_some_iff.mp p; subst q; simp [PyData.eqv]; done)
      | (obtain ⟨ds, h1, rfl⟩ := Option.map_eq_some_iff.mp q; subst p; simp [PyData.eqv]; done)
      | (subst p; subst q; simp [PyData.eqv, S_inj]; done)
open Classical in
theorem sameD_eq {s : Sto} {n m : Nat} {a b : W} (ha : Dt n a) (hb : Dt m b) (hn : n ≤ 64) (hm : m ≤ 64) : sameD s a b = some (decide (a = b)) := by
  obtain ⟨d, hd⟩ := ly ha
  obtain ⟨e, he⟩ := ly hb
  have k := eqv_iff (max n m) a b d e (ha.le (Nat.le_max_left ..)) (hb.le (Nat.le_max_right ..)) hd.p he.p
  have sd : SeqAt.shaped d = true := by unfold SeqAt.shaped; rw [hd.c, Bool.true_and]; exact decide_eq_true (Nat.le_trans hd.d hn)
  have se : SeqAt.shaped e = true := by unfold SeqAt.shaped; rw [he.c, Bool.true_and]; exact decide_eq_true (Nat.le_trans he.d hm)
  have ld : lD s a = some d := by
    cases a <;> first | exact hd.p | (cases n <;> (unfold Dt at ha; exact ha.elim))
  have le : lD s b = some e := by
    cases b <;> first | exact he.p | (cases m <;> (unfold Dt at hb; exact hb.elim))
  have main : (match lD s a, lD s b with
    | some d, some e => if SeqAt.shaped d = true ∧ SeqAt.shaped e = true then some (PyData.eqv d e) else none
    | _, _ => none) = some (decide (a = b)) := by
    rw [ld, le]
    dsimp only
    rw [if_pos ⟨sd, se⟩]
    congr 1
    rw [Bool.eq_iff_iff, k, decide_eq_true_eq]
  unfold sameD
  cases f : flatEq a b with
  | none => exact main
  | some t =>
    dsimp only
    congr 1
    cases a <;> cases b <;> first
      | (cases f; done)
      | (cases f; simp; done)
      | (cases n <;> (unfold Dt at ha; exact ha.elim))
      | (cases m <;> (unfold Dt at hb; exact hb.elim))
open Classical in
theorem wo_eqD {s : Sto} {n m : Nat} {a b : W} {Q : W → Sto → Prop} (ha : Dt n a) (hb : Dt m b) (hn : n ≤ 64) (hm : m ≤ 64) : WO (eqW a b s) Q = Q (.bl (decide (a = b))) s := by
  unfold eqW
  rw [sameD_eq ha hb hn hm]
  rfl
open Classical in
theorem wo_neD {s : Sto} {n m : Nat} {a b : W} {Q : W → Sto → Prop} (ha : Dt n a) (hb : Dt m b) (hn : n ≤ 64) (hm : m ≤ 64) : WO (neW a b s) Q = Q (.bl (!(decide (a = b)))) s := by
  unfold neW
  rw [sameD_eq ha hb hn hm]
  rfl
open Classical in
theorem wo_eqL {s : Sto} {n i j : Nat} {xs ys : List W} {Q : W → Sto → Prop} (hi : At s i xs) (hj : At s j ys) (ha : ∀ x ∈ xs, Dt n x) (hb : ∀ x ∈ ys, Dt n x) (hn : n ≤ 63) : WO (eqW (.ref i) (.ref j) s) Q = Q (.bl (decide (xs = ys))) s := by
  obtain ⟨ds, a1, b1, c1⟩ := lys (fun w hw => ly hw) xs ha
  obtain ⟨es, a2, b2, c2⟩ := lys (fun w hw => ly hw) ys hb
  have e : sameD s (.ref i) (.ref j) = some (decide (xs = ys)) := by
    have l1 : lD s (.ref i) = some (.list ds) := by
      unfold lD
      dsimp only
      rw [show s[i]? = _ from hi]
      dsimp only
      rw [a1]
      rfl
    have l2 : lD s (.ref j) = some (.list es) := by
      unfold lD
      dsimp only
      rw [show s[j]? = _ from hj]
      dsimp only
      rw [a2]
      rfl
    have s1 : SeqAt.shaped (.list ds) = true := by
      unfold SeqAt.shaped
      rw [PyData.canLay0, b1, Bool.true_and]
      exact decide_eq_true (by rw [PyData.depth]; omega)
    have s2 : SeqAt.shaped (.list es) = true := by
      unfold SeqAt.shaped
      rw [PyData.canLay0, b2, Bool.true_and]
      exact decide_eq_true (by rw [PyData.depth]; omega)
    show (match lD s (.ref i), lD s (.ref j) with
      | some d, some e => if SeqAt.shaped d = true ∧ SeqAt.shaped e = true then some (PyData.eqv d e) else none
      | _, _ => none) = _
    rw [l1, l2]
    dsimp only
    rw [if_pos ⟨s1, s2⟩]
    congr 1
    rw [Bool.eq_iff_iff, decide_eq_true_eq, PyData.eqv]
    exact eqvs (fun a b d e => eqv_iff n a b d e) xs ys ds es ha hb a1 a2
  unfold eqW
  rw [e]
  rfl
theorem for_by0 {g : GM} {b : SM} {Q : Fl → Sto → Prop} {ws : List W} (I : Nat → Env → Sto → Prop)
    (hs : ∀ i w ρ s, ws[i]? = some w → I i ρ s → WO (g w ρ s) fun ρ' s' => WS (b ρ' s') (lpK (I (i + 1)) Q))
    (hd : ∀ ρ s, I ws.length ρ s → Q (.nx ρ) s) {ρ : Env} {s : Sto} (h : I 0 ρ s) : WS (forN none g b ws ρ s) Q :=
  for_by (l := none) I (fun _ _ _ _ _ => True.intro) hs hd h
theorem comp_by0 {g : GM} {t : Env → M Bool} {m : Env → M W} {ρ : Env} {Q : List W → Sto → Prop} {X : Er → Sto → Prop} {ws : List W} (I : Nat → List W → Sto → Prop)
    (hs : ∀ i w acc s, ws[i]? = some w → I i acc s → WO (g w ρ s) fun ρ' s' => WM (t ρ' s') (fun k s1 => if k = true then WM (m ρ' s1) (fun y s2 => acc.length < sizeLine ∧ I (i + 1) (acc ++ [y]) s2) X else I (i + 1) acc s1) X)
    (hd : ∀ acc s, I ws.length acc s → Q acc s) {acc : List W} {s : Sto} (h : I 0 acc s) : WM (compN none g t m ρ ws acc s) Q X :=
  comp_by (l := none) I (fun _ _ _ _ _ => True.intro) hs hd h
/-- a list that the loop goes over stays as it is -/
theorem okL_at {n : Nat} {xs : List W} {s : Sto} (h : At s n xs) : okL (some (n, xs)) s := h
/-- flat, no truth value -/
def Fn : W → Prop
  | .non => True
  | .int _ => True
  | .str _ => True
  | _ => False
theorem Fn.flat {w : W} (h : Fn w) : flatW w = true := by cases w <;> first | rfl | exact h.elim
open Classical in
theorem eqV_fn {a b : W} (ha : Fn a) (hb : Fn b) : eqV (flV b) (flV a) = decide (b = a) := by
  rw [Bool.eq_iff_iff, decide_eq_true_eq]
  cases a <;> (try exact ha.elim) <;> cases b <;> (try exact hb.elim) <;> simp [flV, eqV, S_inj]
open Classical in
theorem inV_fn {a : W} {xs : List W} (ha : Fn a) (hx : ∀ x ∈ xs, Fn x) : inV (flV a) (xs.map flV) = decide (a ∈ xs) := by
  rw [Bool.eq_iff_iff, decide_eq_true_eq]
  unfold inV
  rw [List.any_map, List.any_eq_true]
  constructor
  · rintro ⟨y, hy, h⟩
    have h' : eqV (flV y) (flV a) = true := h
    rw [eqV_fn ha (hx y hy), decide_eq_true_eq] at h'
    rw [← h']
    exact hy
  · intro h
    exact ⟨a, h, by show eqV (flV a) (flV a) = true; rw [eqV_fn ha ha, decide_eq_true_eq]⟩
theorem noS {w : W} {n : Nat} : ∀ k z, w = .str [k] → W.ref n = .str z → False := fun _ _ _ h => nomatch h
open Classical in
theorem wo_inF {s : Sto} {n : Nat} {a : W} {xs : List W} {Q : W → Sto → Prop} (h : At s n xs) (ha : Fn a) (hx : ∀ x ∈ xs, Fn x) : WO (inW a (.ref n) s) Q = Q (.bl (decide (a ∈ xs))) s := by
  rw [wo_inL h (by rw [ha.flat, Bool.true_and, List.all_eq_true]; exact fun x hx' => (hx x hx').flat) noS, inV_fn ha hx]
theorem pDs_any {n : Nat} {a : W} {d : PyData} (hd : pD a = some d) (ha : Dt n a) : ∀ {xs : List W} {ds : List PyData}, (∀ x ∈ xs, Dt n x) → pDs xs = some ds → ((ds.any fun z => PyData.eqv z d) = true ↔ a ∈ xs)
  | [], ds, _, h => by
    cases h
    simp
  | x :: xs, ds, hx, h => by
    obtain ⟨e, he⟩ := ly (hx x (List.mem_cons_self ..))
    obtain ⟨es, he'⟩ := lys (fun w hw => ly hw) xs fun z hz => hx z (List.mem_cons_of_mem _ hz)
    rw [pDs, he.p, he'.1] at h
    cases h
    rw [List.any_cons, Bool.or_eq_true, pDs_any hd ha (fun z hz => hx z (List.mem_cons_of_mem _ hz)) he'.1, eqv_iff n x a e d (hx x (List.mem_cons_self ..)) ha he.p hd, List.mem_cons]
    exact ⟨fun h => h.imp Eq.symm id, fun h => h.imp Eq.symm id⟩
theorem Dt.fn_of_flat {n : Nat} {w : W} (h : Dt n w) (f : flatW w = true) : Fn w := by
  cases w <;> first | exact True.intro | (cases n <;> (unfold Dt at h; exact h.elim)) | cases f
open Classical in
theorem wo_inDt {s : Sto} {m n : Nat} {a : W} {xs : List W} {Q : W → Sto → Prop} (h : At s n xs) (ha : Dt m a) (hx : ∀ x ∈ xs, Dt m x) (hm : m ≤ 63) : WO (inW a (.ref n) s) Q = Q (.bl (decide (a ∈ xs))) s := by
  by_cases hf : (flatW a && xs.all flatW) = true
  · rw [Bool.and_eq_true, List.all_eq_true] at hf
    exact wo_inF h (ha.fn_of_flat hf.1) fun x hx' => (hx x hx').fn_of_flat (hf.2 x hx')
  · obtain ⟨d, hd⟩ := ly ha
    obtain ⟨ds, a1, b1, c1⟩ := lys (fun w hw => ly hw) xs hx
    have sd : SeqAt.shaped d = true := by unfold SeqAt.shaped; rw [hd.c, Bool.true_and]; exact decide_eq_true (Nat.le_trans hd.d (by omega))
    have s1 : SeqAt.shaped (.list ds) = true := by
      unfold SeqAt.shaped
      rw [PyData.canLay0, b1, Bool.true_and]
      exact decide_eq_true (by rw [PyData.depth]; omega)
    have e : inD s a (.ref n) = some (decide (a ∈ xs)) := by
      unfold inD
      split
      · rename_i h1
        cases h1
      · rename_i m h1
        cases h1
        rw [show s[n]? = some (.lst xs) from h]
        dsimp only
        rw [if_neg hf, hd.p, a1]
        dsimp only
        rw [if_pos ⟨sd, s1⟩]
        congr 1
        rw [Bool.eq_iff_iff, decide_eq_true_eq]
        exact pDs_any hd.p ha hx a1
      · rename_i h1 h2
        exact absurd rfl (h1 n)
    unfold inW
    rw [e]
    rfl
/-- the ends of what catches -/
def trK (i : Nat) (Q : Fl → Sto → Prop) : Fl → Sto → Prop
  | .nx ρ, s => Q (.nx (ρ.set i none)) s
  | .bk ρ, s => Q (.bk (ρ.set i none)) s
  | .ct ρ, s => Q (.ct (ρ.set i none)) s
  | .rt w, s => Q (.rt w) s
  | .ex _ _, _ => False
theorem ws_tryAs {i : Nat} {caught : Nat → Bool} {mb : SM} {msu : Er → SM} {ρ : Env} {s : Sto} {Q : Fl → Sto → Prop} : WS (sTryAs i caught mb msu ρ s) Q = WS (mb ρ s) (fun fl s' => match fl with
    | .ex e ρ' => if caught e.k = true then i < ρ'.length ∧ WS (msu e (ρ'.set i none) s') (trK i Q) else Q (.ex e ρ') s'
    | fl => Q fl s') := by
  unfold sTryAs
  cases h : mb ρ s with
  | none => rfl
  | some p =>
    obtain ⟨fl, s'⟩ := p
    cases fl with
    | ex e ρ' =>
      dsimp only [WS_some]
      by_cases hc : caught e.k = true
      · rw [if_pos hc, if_pos hc]
        by_cases hi : i < ρ'.length
        · rw [if_pos hi]
          simp only [hi, true_and]
          cases h2 : msu e (ρ'.set i none) s' with
          | none => rfl
          | some p =>
            obtain ⟨fl, s2⟩ := p
            cases fl <;> rfl
        · rw [if_neg hi]
          simp only [hi, false_and]
          rfl
      · rw [if_neg hc, if_neg hc]
        rfl
    | _ => rfl
theorem ws_try {caught : Nat → Bool} {mb msu : SM} {ρ : Env} {s : Sto} {Q : Fl → Sto → Prop} : WS (sTry caught mb msu ρ s) Q = WS (mb ρ s) (fun fl s' => match fl with
    | .ex e ρ' => if caught e.k = true then WS (msu ρ' s') (fun fl s2 => match fl with
      | .ex _ _ => False
      | fl => Q fl s2) else Q (.ex e ρ') s'
    | fl => Q fl s') := by
  unfold sTry
  cases h : mb ρ s with
  | none => rfl
  | some p =>
    obtain ⟨fl, s'⟩ := p
    cases fl with
    | ex e ρ' =>
      dsimp only [WS_some]
      by_cases hc : caught e.k = true
      · rw [if_pos hc, if_pos hc]
        cases h2 : msu ρ' s' with
        | none => rfl
        | some p =>
          obtain ⟨fl, s2⟩ := p
          cases fl <;> rfl
      · rw [if_neg hc, if_neg hc]
        rfl
    | _ => rfl
end ME

set_option Elab.async false
set_option linter.all false
set_option maxRecDepth 100000
set_option maxHeartbeats 1000000
/-! ### plain: the readers -/
namespace ME
open PySem PySem.Spec PyProof.Rows L2 PySem.NumText
open FL (isDig rNat rInt isDig_iff all_digits rNat_dg rInt_ic dg ic dg_len dg_digits dg_ne str_int ic_back)
abbrev TE : Er := ⟨0, some (.int 1)⟩
def toR (o : Option W) (s : Sto) : Res W := match o with
  | some x => .ok x s
  | none => .er TE s
@[simp] theorem toR_some {x : W} {s : Sto} : toR (some x) s = .ok x s := rfl
@[simp] theorem toR_none {s : Sto} : toR none s = .er TE s := rfl
theorem eqOk {r : Res W} {v : W} {s : Sto} (h : WM r (fun w s' => w = v ∧ s' = s) fun _ _ => False) : r = .ok v s := by
  cases r with
  | ok a s' => rw [show a = v from h.1, show s' = s from h.2]
  | er e s' => exact h.elim
  | no => exact h.elim
theorem eqR {r : Res W} {o : Option W} {s : Sto} (h : WM r (fun w s' => o = some w ∧ s' = s) fun e s' => o = none ∧ e = TE ∧ s' = s) : r = toR o s := by
  cases r with
  | ok a s' => rw [show o = some a from h.1, show s' = s from h.2]; rfl
  | er e s' => rw [show o = none from h.1, show e = TE from h.2.1, show s' = s from h.2.2]; rfl
  | no => exact h.elim
theorem eqRg {r : Res W} {o : Option W} {s : Sto} (h : WM r (fun w s' => o = some w ∧ ∃ g, s' = s ++ g) fun e s' => o = none ∧ e = TE ∧ ∃ g, s' = s ++ g) : ∃ g, r = toR o (s ++ g) := by
  cases r with
  | ok a s' =>
    obtain ⟨h2, g, rfl⟩ := (show o = some a ∧ ∃ g, s' = s ++ g from h)
    exact ⟨g, by rw [h2]; rfl⟩
  | er e s' =>
    obtain ⟨h2, rfl, g, rfl⟩ := (show o = none ∧ e = TE ∧ ∃ g, s' = s ++ g from h)
    exact ⟨g, by rw [h2]; rfl⟩
  | no => exact h.elim
@[simp] theorem h_fail_eq {s : Sto} : h_fail [] s = .er TE s := rfl
theorem fmod_nat (x y : Nat) : (x : Int).fmod (y : Int) = ((x % y : Nat) : Int) := by
  rw [Int.fmod_eq_emod_of_nonneg _ (Int.natCast_nonneg _)]
  rfl
@[simp] theorem divisor_eq {a b : Int} {s : Sto} : f_divisor [.int a, .int b] s = .ok (.int (Int.gcd a b : Nat)) s := by
  refine eqOk ?_
  unfold f_divisor m_divisor
  simp [startE, abs_if]
  refine nx_cut (fun ρ' s' => ρ' = [some (.int (Int.gcd a b : Nat)), some (.int 0)] ∧ s' = s) ?_ ?_
  · unfold m_divisor_1
    refine while_by (fun n ρ s' => ∃ x y : Nat, n = y ∧ ρ = [some (.int x), some (.int y)] ∧ s' = s ∧ Nat.gcd x y = Int.gcd a b) ?_ ⟨a.natAbs, b.natAbs, rfl, rfl, rfl, rfl⟩
    rintro n ρ s' ⟨x, y, rfl, rfl, rfl, h⟩
    simp
    split
    · rename_i hy
      subst hy
      simp at h
      rw [h]
      simp
    · rename_i hy
      exact ⟨hy, _, Nat.mod_lt _ (by omega), n, ⟨rfl, by rw [fmod_nat]⟩, (gcd_step x n (by omega)).trans h⟩
  · rintro ρ' s' ⟨rfl, rfl⟩
    simp
theorem pr_even {n : Int} (h : n.fmod 2 = 0) (h4 : 4 ≤ n) : ¬ PrI n := fun z => z.2 2 (by omega) (by omega) (by rw [← Int.fmod_eq_emod_of_nonneg _ (by omega)]; exact h)
@[simp] theorem is_prime_eq {n : Int} {s : Sto} (hn : n ≤ 70000) : f_is_prime [.int n] s = .ok (.bl (open Classical in decide (PrI n))) s := by
  refine eqOk ?_
  unfold f_is_prime m_is_prime
  simp [startE]
  refine nx_cut (fun ρ' s' => ρ' = [some (.int n), none] ∧ s' = s ∧ 4 ≤ n) ?_ ?_
  · unfold m_is_prime_1
    simp
    split
    · refine ⟨fun h => ⟨h, fun k hk hkk => ?_⟩, fun h => h.1⟩
      have := Int.mul_le_mul hk hk (by omega) (by omega)
      omega
    · omega
  · rintro ρ' s' ⟨rfl, rfl, h4⟩
    try simp
    refine nx_cut (fun ρ' s'' => ρ' = [some (.int n), none] ∧ s'' = s' ∧ n % 2 ≠ 0) ?_ ?_
    · unfold m_is_prime_2
      simp
      rw [Int.fmod_eq_emod_of_nonneg _ (by omega)]
      split
      · rename_i h
        exact fun z => z.2 2 (by omega) (by omega) h
      · omega
    · rintro ρ' s'' ⟨rfl, rfl, h2⟩
      simp
      refine nx_cut (fun ρ' s' => s' = s'' ∧ PrI n) ?_ ?_
      · unfold m_is_prime_3
        refine while_by (fun m ρ s' => ∃ k : Int, ρ = [some (.int n), some (.int k)] ∧ s' = s'' ∧ 3 ≤ k ∧ k ≤ 302 ∧ k % 2 = 1 ∧ m = (300 - k).toNat ∧ ∀ j : Int, 2 ≤ j → j < k → n % j ≠ 0) ?_ ⟨3, rfl, rfl, by omega, by omega, by omega, rfl, fun j h h' => by
          have : j = 2 := by omega
          subst this
          exact h2⟩
        rintro m ρ s' ⟨k, rfl, rfl, h3, h302, ho, rfl, hj⟩
        simp
        have nz : ¬ (300 ≤ k ∧ k * k ≤ n) := fun z => by
          have := k_small (by omega) z.2 hn
          omega
        generalize hkk : k * k = kk at nz ⊢
        split
        · rename_i hk
          refine ⟨.inl (by omega), ?_⟩
          refine nx_cut (fun ρ' s'' => ρ' = [some (.int n), some (.int k)] ∧ s'' = s' ∧ n % k ≠ 0) ?_ ?_
          · unfold m_is_prime_4
            simp
            rw [Int.fmod_eq_emod_of_nonneg _ (by omega)]
            refine ⟨by omega, ?_⟩
            split
            · rename_i h
              exact fun z => z.2 k (by omega) (by omega) h
            · omega
          · rintro ρ' s'' ⟨rfl, rfl, hk0⟩
            simp
            refine ⟨_, ?_, by omega, by omega, by omega, rfl, ?_⟩
            · omega
            · intro j h1 h2'
              by_cases e : j = k
              · rw [e]; exact hk0
              · by_cases e2 : j = k + 1
                · intro z
                  have d1 : j ∣ n := Int.dvd_of_emod_eq_zero z
                  have d2 : (2 : Int) ∣ j := Int.dvd_of_emod_eq_zero (by omega)
                  exact h2 (Int.emod_eq_zero_of_dvd (Int.dvd_trans d2 d1))
                · exact hj j h1 (by omega)
        · rename_i hk
          refine ⟨.inl (by omega), by omega, fun j h1 h2' => hj j h1 ?_⟩
          refine Decidable.byContradiction fun z => ?_
          have := Int.mul_le_mul (show k ≤ j by omega) (show k ≤ j by omega) (by omega) (by omega)
          omega
      · rintro ρ' s' ⟨rfl, h⟩
        simp [h]
@[simp] theorem is_integer_int {n : Int} {s : Sto} : f_is_integer [.int n] s = .ok (.bl true) s := by
  refine eqOk ?_
  unfold f_is_integer m_is_integer
  simp [startE]
theorem dk1 {p q : Prop} {i : Decidable p} {j : Decidable q} (h : p ↔ q) : @decide p i = @decide q j := by
  rw [Bool.eq_iff_iff, decide_eq_true_eq, decide_eq_true_eq]
  exact h
open Classical in
theorem is_field_f {n : Int} {s : Sto} : f_is_field [.tup [.str [70], .int n]] s = .ok (.bl (decide (IsF (.f n)))) s := by
  refine eqOk ?_
  unfold f_is_field m_is_field
  simp [startE]
  refine nx_cut (fun ρ' s' => ρ' = [some (.tup [.str [70], .int n])] ∧ s' = s) ?_ ?_
  · unfold m_is_field_1
    simp
  · rintro ρ' s' ⟨rfl, rfl⟩
    try simp
    refine nx_cut (fun ρ' s'' => ρ' = [some (.tup [.str [70], .int n])] ∧ s'' = s') ?_ ?_
    · unfold m_is_field_2
      simp
    · rintro ρ' s'' ⟨rfl, rfl⟩
      simp
      split
      · split
        · rw [is_prime_eq (by omega)]
          simp
          exact ⟨fun h => ⟨⟨by omega, by omega⟩, h⟩, fun h => h.2⟩
        · exact ⟨fun h => absurd h (by omega), fun h => h.1.2⟩
      · exact fun h => absurd h.1.1 (by omega)
open Classical in
@[simp] theorem is_field_eq {d : Dm} {s : Sto} : f_is_field [domW d] s = .ok (.bl (decide (IsF d))) s := by
  cases d with
  | f n => exact is_field_f
  | z =>
    refine eqOk ?_
    unfold f_is_field m_is_field
    simp [startE, domW]
    unfold m_is_field_1
    simp
    unfold m_is_field_2
    simp
    first | done | exact True.intro | exact fun h => h | rfl | exact decide_eq_true trivial | exact decide_eq_false (fun h => h) | exact dk1 Iff.rfl
  | q =>
    refine eqOk ?_
    unfold f_is_field m_is_field
    simp [startE, domW]
    unfold m_is_field_1
    simp
    unfold m_is_field_2
    simp
    first | done | exact True.intro | exact fun h => h | rfl | exact decide_eq_true trivial | exact decide_eq_false (fun h => h) | exact dk1 Iff.rfl
  | p d =>
    refine eqOk ?_
    unfold f_is_field m_is_field
    simp [startE, domW]
    unfold m_is_field_1
    simp
    unfold m_is_field_2
    simp
    first | done | exact True.intro | exact fun h => h | rfl | exact decide_eq_true trivial | exact decide_eq_false (fun h => h) | exact dk1 Iff.rfl
theorem dt_dom : ∀ (d : Dm), Dt (dpt d + 1) (domW d)
  | .z => by simp [domW, Dt, dpt]
  | .q => by simp [domW, Dt, dpt]
  | .f n => by simp [domW, Dt, dpt]
  | .p d => by simp [domW, Dt, dpt]; exact dt_dom d
open Classical in
theorem is_domain_eq {d : Dm} {s : Sto} (h : dpt d < 60) : f_is_domain [domW d] s = .ok (.bl (decide (IsD d))) s := by
  have eqz : ∀ {Q : W → Sto → Prop} {s : Sto}, WO (eqW (domW d) (.tup [.str [90]]) s) Q = Q (.bl (decide (domW d = domW .z))) s := fun {Q s} => wo_eqD (dt_dom d) (dt_dom .z) (by omega) (by decide)
  have ff : ∀ {s : Sto}, f_is_field [domW d] s = _ := is_field_eq
  cases d with
  | z =>
    refine eqOk ?_
    unfold f_is_domain m_is_domain
    simp [startE, domW] at eqz ff ⊢
    unfold m_is_domain_1
    simp
    unfold m_is_domain_2
    simp [eqz]
    first | done | exact True.intro | exact fun h => h | rfl | exact decide_eq_true trivial | exact decide_eq_false (fun h => h) | exact dk1 Iff.rfl
  | q =>
    refine eqOk ?_
    unfold f_is_domain m_is_domain
    simp [startE, domW] at eqz ff ⊢
    unfold m_is_domain_1
    simp
    unfold m_is_domain_2
    simp [eqz, ff]
    first | done | exact True.intro | exact fun h => h | rfl | exact decide_eq_true trivial | exact decide_eq_false (fun h => h) | exact dk1 Iff.rfl
  | f n =>
    refine eqOk ?_
    unfold f_is_domain m_is_domain
    simp [startE, domW] at eqz ff ⊢
    unfold m_is_domain_1
    simp
    unfold m_is_domain_2
    simp [eqz, ff]
    first | done | exact True.intro | exact fun h => h | rfl | exact decide_eq_true trivial | exact decide_eq_false (fun h => h) | exact dk1 Iff.rfl
  | p d =>
    refine eqOk ?_
    unfold f_is_domain m_is_domain
    simp [startE, domW] at eqz ff ⊢
    unfold m_is_domain_1
    simp
    unfold m_is_domain_2
    simp
    first | done | exact True.intro | exact fun h => h | rfl | exact decide_eq_true trivial | exact decide_eq_false (fun h => h) | exact dk1 Iff.rfl
@[simp] theorem need_domain_eq {d : Dm} {s : Sto} (h : IsD d) : f_need_domain [domW d] s = .ok .non s := by
  have := dpt_small h
  refine eqOk ?_
  unfold f_need_domain m_need_domain m_need_domain_1
  simp [startE, is_domain_eq (show dpt d < 60 by omega), h]
@[simp] theorem zero_eq {d : Dm} {s : Sto} : f_zero [domW d] s = .ok (zeroW d) s := by
  refine eqOk ?_
  unfold f_zero m_zero
  cases d <;> (simp [startE, domW]; unfold m_zero_1; simp [zeroW])
theorem dt_shp : ∀ {d : Dm} {x : W}, Shp d x → Dt (dpt d + 1) x
  | .z, _, ⟨n, rfl⟩ => by simp [Dt, dpt]
  | .f _, _, ⟨n, rfl⟩ => by simp [Dt, dpt]
  | .q, _, ⟨n, m, rfl⟩ => by simp [Dt, dpt]
  | .p d, _, ⟨xs, rfl, h⟩ => by
    simp [Dt, dpt]
    exact fun x hx => dt_shp (h x hx)
theorem dt_zero (d : Dm) : Dt 1 (zeroW d) := by cases d <;> simp [zeroW, Dt]
open Classical in
theorem belongs_eq : ∀ (d : Dm) (x : W) (k : Nat) (s : Sto), dpt d < 60 → dpt d < k → Shp d x → f_belongs k [domW d, x] s = .ok (.bl (decide (Bel d x))) s := by
  intro d
  induction d with
  | z =>
    rintro x k s h hk ⟨n, rfl⟩
    obtain ⟨k, rfl⟩ : ∃ j, k = j + 1 := ⟨k - 1, by omega⟩
    refine eqOk ?_
    unfold f_belongs m_belongs
    simp [startE, domW]
    unfold m_belongs_1
    simp
    exact ⟨n, rfl⟩
  | f p =>
    rintro x k s h hk ⟨n, rfl⟩
    obtain ⟨k, rfl⟩ : ∃ j, k = j + 1 := ⟨k - 1, by omega⟩
    refine eqOk ?_
    unfold f_belongs m_belongs
    simp [startE, domW]
    unfold m_belongs_1
    simp
    unfold m_belongs_2
    simp
    split
    · rename_i h0
      exact ⟨fun h1 => ⟨n, rfl, h0, h1⟩, fun ⟨m, e, _, h1⟩ => by cases e; exact h1⟩
    · rename_i h0
      rintro ⟨m, e, h1, _⟩
      cases e
      omega
  | q =>
    rintro x k s h hk ⟨n, m, rfl⟩
    obtain ⟨k, rfl⟩ : ∃ j, k = j + 1 := ⟨k - 1, by omega⟩
    refine eqOk ?_
    unfold f_belongs m_belongs
    simp [startE, domW]
    unfold m_belongs_1
    simp
    unfold m_belongs_2
    simp
    unfold m_belongs_3
    simp
    unfold m_belongs_4
    simp
    refine nx_cut (fun ρ' s' => ρ' = [some (.tup [.str [81]]), some (.tup [.int n, .int m]), none] ∧ s' = s ∧ 1 ≤ m) ?_ ?_
    · unfold m_belongs_5
      simp
      split
      · rintro ⟨a, b, e, h1, _⟩
        cases e
        omega
      · omega
    · rintro ρ' s' ⟨rfl, rfl, hm⟩
      simp
      exact ⟨fun h1 => ⟨n, m, rfl, hm, by omega⟩, fun ⟨a, b, e, _, h1⟩ => by cases e; omega⟩
  | p d ih =>
    rintro x k s h hk ⟨xs, rfl, hx⟩
    obtain ⟨k, rfl⟩ : ∃ j, k = j + 1 := ⟨k - 1, by omega⟩
    have hd : dpt d + 1 < 60 := h
    have hk' : dpt d + 1 < k + 1 := hk
    refine eqOk ?_
    unfold f_belongs m_belongs
    simp [startE, domW]
    unfold m_belongs_1
    simp
    unfold m_belongs_2
    simp
    unfold m_belongs_3
    simp
    unfold m_belongs_4
    simp
    refine nx_cut (fun ρ' s' => (∃ u, ρ' = [some (.tup [.str [80], domW d]), some (.tup xs), u]) ∧ s' = s ∧ ∀ y ∈ xs, Bel d y) ?_ ?_
    · unfold m_belongs_6
      simp
      refine for_by0 (fun i ρ' s' => (∃ u, ρ' = [some (.tup [.str [80], domW d]), some (.tup xs), u]) ∧ s' = s ∧ ∀ y ∈ xs.take i, Bel d y) ?_ ?_ ⟨⟨_, rfl⟩, rfl, by simp⟩
      · rintro i w ρ s' hw ⟨⟨u, rfl⟩, rfl, hy⟩
        simp
        unfold m_belongs_7
        simp [ih w k s' (by omega) (by omega) (hx w (List.mem_of_getElem? hw))]
        split
        · rename_i hb
          intro y hy'
          rw [List.take_add_one, hw] at hy'
          rcases List.mem_append.mp hy' with h1 | h1
          · exact hy y h1
          · simp at h1
            rw [h1]
            exact hb
        · rename_i hb
          rintro ⟨ys, e, h1, _⟩
          cases e
          exact hb (h1 w (List.mem_of_getElem? hw))
      · rintro ρ s' ⟨⟨u, rfl⟩, rfl, hy⟩
        simp
        rw [List.take_length] at hy
        exact hy
    · rintro ρ' s' ⟨⟨u, rfl⟩, rfl, hy⟩
      simp
      split
      · rename_i h0
        subst h0
        exact ⟨fun _ => ⟨[], rfl, by simp, by simp⟩, fun _ => rfl⟩
      · rename_i h0
        rw [atI_m1]
        obtain ⟨z, hz⟩ : ∃ z, xs.getLast? = some z := ⟨_, List.getLast?_eq_getLast h0⟩
        refine ⟨z, hz, ?_⟩
        rw [wo_neD (dt_shp (hx z (List.mem_of_getLast? hz))) (dt_zero d) (by omega) (by omega)]
        simp
        rw [Bool.eq_iff_iff, decide_eq_true_eq, Bool.not_eq_true', decide_eq_false_iff_not]
        refine ⟨?_, fun h1 => Classical.byContradiction fun h2 => h1 ⟨xs, rfl, hy, by rw [hz]; simpa using h2⟩⟩
        rintro e1 ⟨ys, e, _, h1⟩
        cases e
        rw [hz, e1] at h1
        exact h1 rfl
open Classical in
theorem is_element_eq {d : Dm} {x : W} {s : Sto} (hd : IsD d) (h : Shp d x) : f_is_element [domW d, x] s = .ok (.bl (decide (Bel d x))) s := by
  have := dpt_small hd
  refine eqOk ?_
  unfold f_is_element m_is_element
  simp [startE, hd, belongs_eq d x 6 s (by omega) (by omega) h]
end ME

set_option Elab.async false
set_option linter.all false
set_option maxRecDepth 100000
set_option maxHeartbeats 1000000
/-! ### plain: the readers, second part -/
namespace ME
open PySem PySem.Spec PyProof.Rows L2 PySem.NumText
open FL (isDig rNat rInt isDig_iff all_digits rNat_dg rInt_ic dg ic dg_len dg_digits dg_ne str_int ic_back)
section
variable {Q : W → Sto → Prop} {s : Sto} {x : List Nat}
theorem wo_intS (hne : x ≠ []) (hl : x.length ≤ 640) (hd : x.all isDig = true) : WO (intW [.str x] s) Q = Q (.int (digitsVal x : Nat)) s := by
  unfold intW
  dsimp only
  rw [if_pos hl, SX.int_S hd hne (by omega)]
  rfl
theorem cut_from (x : List Nat) : cut x (some 1) none = x.tail := by
  unfold cut
  rw [HT.sIx_none, show (1 : Int) = ((1 : Nat) : Int) from rfl, HT.sIx_nat]
  cases x with
  | nil => rfl
  | cons c r =>
    have : min 1 (c :: r).length = 1 := by rw [List.length_cons]; omega
    rw [this]
    simp
theorem cut_upto (x : List Nat) (k : Nat) : cut x none (some (k : Int)) = x.take k := by
  unfold cut
  rw [HT.sIx_none, HT.sIx_nat, List.drop_zero, Nat.sub_zero]
  by_cases h : k ≤ x.length
  · rw [Nat.min_eq_left h]
  · rw [Nat.min_eq_right (by omega), List.take_of_length_le (by omega), List.take_of_length_le (by omega)]
theorem cut_after (x : List Nat) (k : Nat) : cut x (some (k : Int)) none = x.drop k := by
  unfold cut
  rw [HT.sIx_none, HT.sIx_nat]
  by_cases h : k ≤ x.length
  · rw [Nat.min_eq_left h, List.take_of_length_le (by rw [List.length_drop]; omega)]
  · rw [Nat.min_eq_right (by omega), List.drop_of_length_le (by omega), List.drop_of_length_le (by omega), List.take_nil]
theorem cut_inner (x : List Nat) : cut x (some 1) (some (-1)) = inner x := by
  unfold cut inner
  rw [show (1 : Int) = ((1 : Nat) : Int) from rfl, HT.sIx_nat]
  have e : HT.sIx x.length x.length (some (-((1 : Nat) : Int))) = x.length - 1 := by
    show (if (-1 : Int) < 0 then ((-1 : Int) + (x.length : Int)).toNat else min (-1 : Int).toNat x.length) = _
    rw [if_pos (by decide)]
    omega
  rw [e, List.dropLast_eq_take, List.length_drop]
  cases x with
  | nil => rfl
  | cons c r =>
    have : min 1 (c :: r).length = 1 := by rw [List.length_cons]; omega
    rw [this]
end
@[simp] theorem rangeL_len {a b : Int} {n : Nat} : (rangeL a b n).length = n := by unfold rangeL; simp
theorem rangeL_get {a b : Int} {n i : Nat} {w : W} (h : (rangeL a b n)[i]? = some w) : i < n ∧ w = .int (a + i * b) := by
  unfold rangeL at h
  rw [List.getElem?_map] at h
  obtain ⟨j, hj, rfl⟩ := Option.map_eq_some_iff.mp h
  obtain ⟨h1, h2⟩ := List.getElem?_eq_some_iff.mp hj
  rw [List.length_range] at h1
  rw [List.getElem_range] at h2
  exact ⟨h1, by rw [h2]⟩
theorem log10 (m : Nat) (h : 0 < m) : ((10 : Int) ^ m).natAbs.log2 < 4 * m := by
  rw [Int.natAbs_pow]
  show (10 ^ m).log2 < 4 * m
  rw [Nat.log2_lt (Nat.ne_of_gt (Nat.pow_pos (by decide))), Nat.pow_mul]
  exact Nat.pow_lt_pow_left (by decide) (by omega)
noncomputable def PB : Int := 10 ^ 1024
@[simp] theorem piece_base_eq {s : Sto} : f_piece_base [] s = .ok (.int PB) s := by
  refine eqOk ?_
  unfold f_piece_base m_piece_base
  simp [startE]
  refine nx_cut (fun ρ' s' => (∃ u, ρ' = [some (.int PB), u]) ∧ s' = s) ?_ ?_
  · unfold m_piece_base_1
    simp
    refine for_by0 (fun i ρ' s' => (∃ u, ρ' = [some (.int (10 ^ (2 ^ i))), u]) ∧ s' = s) ?_ ?_ ⟨⟨_, rfl⟩, rfl⟩
    · rintro i w ρ' s' hw ⟨⟨u, rfl⟩, rfl⟩
      have hi : i < 10 := by
        have := (List.getElem?_eq_some_iff.mp hw).1
        rwa [rangeL_len] at this
      have hp : 2 ^ i ≤ 2 ^ 9 := Nat.pow_le_pow_right (by decide) (by omega)
      have hl := log10 (2 ^ i) (Nat.pow_pos (by decide))
      simp
      rw [Int.natAbs_pow] at hl
      simp at hl
      refine ⟨by omega, ?_⟩
      rw [← Int.pow_add]
      congr 1
      rw [Nat.pow_succ]
      omega
    · rintro ρ s' ⟨⟨u, rfl⟩, rfl⟩
      simp [rangeL_len, PB]
  · rintro ρ s' ⟨⟨u, rfl⟩, rfl⟩
    simp
@[simp] theorem read_natural_eq {t : List Nat} {s : Sto} (ht : t.length ≤ 500) : f_read_natural [.str t] s = toR ((rNat t).map fun n => .int n) s := by
  refine eqR ?_
  unfold f_read_natural m_read_natural
  simp [startE]
  refine nx_cut (fun ρ' s' => ρ' = [some (.str t), none, none, none, none] ∧ s' = s ∧ t ≠ [] ∧ ¬ (1 < t.length ∧ t.head? = some 48)) ?_ ?_
  · unfold m_read_natural_1
    cases t with
    | nil => simp [rNat]
    | cons c r =>
      simp
      have h1 : rNat (c :: r) ≠ none → ¬ (0 < r.length ∧ c = 48) := by
        intro h z
        apply h
        unfold rNat
        rw [if_pos (.inr (.inl ⟨by rw [List.length_cons]; omega, by rw [z.2]; rfl⟩))]
      have ht' : r.length + 1 ≤ 500 := ht
      refine ⟨by omega, ?_⟩
      rw [if_neg (by omega)]
      refine ⟨by omega, ?_⟩
      split
      · refine ⟨by omega, ?_⟩
        split
        · rename_i h2 h3
          intro a ha
          exact h1 (by rw [ha]; simp) ⟨by omega, h3⟩
        · exact fun _ h => by omega
      · omega
  · rintro ρ' s' ⟨rfl, rfl, hne, h0⟩
    try simp
    refine nx_cut (fun ρ' s'' => (∃ u, ρ' = [some (.str t), u, none, none, none]) ∧ s'' = s' ∧ t.all isDig = true) ?_ ?_
    · unfold m_read_natural_2
      simp
      refine for_by0 (fun i ρ' s'' => (∃ u, ρ' = [some (.str t), u, none, none, none]) ∧ s'' = s' ∧ (t.take i).all isDig = true) ?_ ?_ ⟨⟨_, rfl⟩, rfl, by simp⟩
      · rintro i w ρ s'' hw ⟨⟨u, rfl⟩, rfl, hd⟩
        rw [List.getElem?_map] at hw
        obtain ⟨c, hc, rfl⟩ := Option.map_eq_some_iff.mp hw
        have hm := List.mem_of_getElem? hc
        unfold m_read_natural_3
        simp
        split
        · rename_i h1
          have : isDig c = false := by
            cases z : isDig c with
            | false => rfl
            | true => have := isDig_iff.mp z; omega
          intro a ha
          rw [rNat_brc hm this] at ha
          cases ha
        · rename_i h1
          intro x hx
          rw [List.take_add_one, hc] at hx
          rcases List.mem_append.mp hx with h2 | h2
          · exact List.all_eq_true.mp hd x h2
          · simp at h2
            subst h2
            exact isDig_iff.mpr (by omega)
      · rintro ρ s'' ⟨⟨u, rfl⟩, rfl, hd⟩
        simp
        rw [List.length_map, List.take_length] at hd
        simpa using hd
    · rintro ρ' s'' ⟨⟨u, rfl⟩, rfl, hd⟩
      have e : ((t.length : Int)).fmod 1024 = (t.length : Int) := by
        have := fmod_nat t.length 1024
        rw [Nat.mod_eq_of_lt (by omega)] at this
        exact this
      have ev : rNat t = some (digitsVal t) := by
        unfold rNat
        rw [if_neg]
        rintro (z | z | z)
        · exact hne z
        · exact h0 z
        · exact z hd
      have hl : 0 < t.length := List.length_pos_iff.mpr hne
      simp [e, ev]
      refine ⟨by omega, ?_⟩
      unfold m_read_natural_4
      simp [cut_upto, List.take_of_length_le (Nat.le_refl t.length), wo_intS hne (show t.length ≤ 640 by omega) hd]
      rw [if_pos hl]
      refine ⟨by omega, ?_⟩
      unfold m_read_natural_5
      refine while_by (fun _ ρ s' => ρ = [some (.str t), u, some (.int (digitsVal t : Nat)), some (.int PB), some (.int (t.length : Nat))] ∧ s' = s'') ?_ (n := 0) ⟨rfl, rfl⟩
      rintro _ ρ s' ⟨rfl, rfl⟩
      simp
      omega
@[simp] theorem starts1 (c : Nat) (t : List Nat) : Txt.startswith (S t) (S [c]) = decide (t.head? = some c) := by
  rw [starts_S]
  cases t <;> simp
@[simp] theorem wo_starts {t u : List Nat} {s : Sto} {Q : W → Sto → Prop} : WO (startsW (.str t) [.str u] s) Q = Q (.bl (Txt.startswith (S t) (S u))) s := rfl
@[simp] theorem read_integer_eq {t : List Nat} {s : Sto} (ht : t.length ≤ 500) : f_read_integer [.str t] s = toR ((rInt t).map fun n => .int n) s := by
  refine eqR ?_
  unfold f_read_integer m_read_integer
  simp [startE]
  unfold m_read_integer_1
  simp
  split
  · rename_i h
    have l : t.tail.length ≤ 500 := by rw [List.length_tail]; omega
    simp [cut_from]
    rw [read_natural_eq l]
    refine ⟨by omega, ?_⟩
    cases e : rNat t.tail with
    | none => simp [rInt, h, e]
    | some n =>
      simp
      unfold m_read_integer_2
      simp [rInt, h, e]
  · rename_i h
    simp [ht]
    cases e : rNat t with
    | none => simp [rInt, h, e]
    | some n => simp [rInt, h, e]
theorem dpt_of_IsF {d : Dm} (h : IsF d) : dpt d = 0 := by cases d <;> first | rfl | exact h.elim
open Classical in
theorem rDt_isD : ∀ {t : List Nat} {d : Dm}, rDt t = some d → IsD d
  | [], d, h => nomatch h
  | x :: r, d, h => by
    rw [rDt] at h
    split at h
    · cases h; exact True.intro
    · split at h
      · cases h; exact True.intro
      · split at h
        · obtain ⟨d', _, h2⟩ := Option.bind_eq_some_iff.mp h
          unfold domO at h2
          split at h2
          · cases h2; assumption
          · cases h2
        · split at h
          · obtain ⟨d', _, h2⟩ := Option.bind_eq_some_iff.mp h
            unfold domO at h2
            split at h2
            · cases h2; assumption
            · cases h2
          · cases h
theorem is_domain_non {s : Sto} : f_is_domain [.non] s = .ok (.bl false) s := by
  refine eqOk ?_
  unfold f_is_domain m_is_domain
  simp [startE]
  unfold m_is_domain_1
  simp
theorem starts2 (a b : Nat) (t : List Nat) : Txt.startswith (S t) (S [a, b]) = decide (t.head? = some a ∧ t.tail.head? = some b) := by
  rw [starts_S]
  match t with
  | [] => simp
  | [x] => simp
  | x :: y :: r => simp
open Classical in
theorem dom_tail {d : Dm} {t : List Nat} {s : Sto} {k : Nat} (h : dpt d < 60) (e : rDt t = domO d) : WS (m_read_domain_4 (f_read_domain k) [some (.str t), some (domW d)] s) (nxK
        (fun ρ' s' => ∃ w, ρ'[1]? = some (some w) ∧ (∃ a, rDt t = some a ∧ domW a = w) ∧ s' = s)
        fun fl s' =>
        match fl with
        | Fl.rt w => (∃ a, rDt t = some a ∧ domW a = w) ∧ s' = s
        | Fl.nx ρ => (∃ a, rDt t = some a ∧ domW a = W.non) ∧ s' = s
        | Fl.ex e ρ => rDt t = none ∧ e = TE ∧ s' = s
        | x => False) := by
  unfold m_read_domain_4
  simp [is_domain_eq h]
  unfold domO at e
  split
  · rename_i hd
    rw [if_pos hd] at e
    rw [e]
    simp
  · rename_i hd
    rw [if_neg hd] at e
    exact e
theorem dom_short : ∀ {t : List Nat} {k : Nat} {s : Sto}, t.length ≤ 500 → lvl t < k → f_read_domain k [.str t] s = toR ((rDt t).map domW) s
  | [], k, s, ht, hk => by
    obtain ⟨k, rfl⟩ : ∃ j, k = j + 1 := ⟨k - 1, by omega⟩
    refine eqR ?_
    unfold f_read_domain m_read_domain
    simp [startE]
    unfold m_read_domain_1
    simp
    unfold m_read_domain_2
    simp
    unfold m_read_domain_3
    simp
    unfold m_read_domain_4
    simp [is_domain_non, rDt]
  | x :: r, k, s, ht, hk => by
    obtain ⟨k, rfl⟩ : ∃ j, k = j + 1 := ⟨k - 1, by omega⟩
    have hr : r.length + 1 ≤ 500 := ht
    refine eqR ?_
    unfold f_read_domain m_read_domain
    simp [startE]
    unfold m_read_domain_1
    simp
    split
    · rename_i h
      obtain ⟨rfl, rfl⟩ := h
      exact ⟨_, rDt_z, rfl⟩
    · rename_i hz
      split
      · rename_i h
        obtain ⟨rfl, rfl⟩ := h
        exact ⟨_, rDt_q, rfl⟩
      · rename_i hq
        unfold m_read_domain_2
        simp [starts2]
        by_cases hP : x = 80 ∧ r.head? ≠ some 80
        · obtain ⟨rfl, h8⟩ := hP
          have lk : lvl r < k := by
            have h1 : (1 : Nat) < k + 1 := hk
            unfold lvl
            rw [if_neg h8]
            omega
          simp [h8, cut_from, dom_short (show r.length ≤ 500 by omega) lk]
          refine ⟨by omega, ?_⟩
          cases e : rDt r with
          | none => simp [rDt_P h8, e]
          | some d =>
            have hd := dpt_small (rDt_isD e)
            have := dom_tail (d := .p d) (t := 80 :: r) (s := s) (k := k) (show dpt d + 1 < 60 by omega) (by rw [rDt_P h8, e]; rfl)
            simp [domW] at this ⊢
            exact this
        · have key : ∀ {G G2 : Prop}, G → (if x = 80 then if x = 80 ∧ r.head? = some 80 then G else G2 else G) := fun {G G2} g => by
            split
            · rename_i h1
              rw [if_pos ⟨h1, Classical.byContradiction fun z => hP ⟨h1, z⟩⟩]
              exact g
            · exact g
          refine key ?_
          unfold m_read_domain_3
          simp
          by_cases hF : x = 70 ∧ r.length < 8
          · obtain ⟨rfl, h8⟩ := hF
            rw [if_pos rfl]
            refine ⟨by omega, ?_⟩
            rw [if_pos (by omega)]
            rw [cut_from]
            rw [read_natural_eq (show (70 :: r).tail.length ≤ 500 by show r.length ≤ 500; omega)]
            refine ⟨by omega, ?_⟩
            simp
            cases e : rNat r with
            | none => simp [rDt_F h8, e]
            | some n =>
              have := dom_tail (d := .f n) (t := 70 :: r) (s := s) (k := k) (show (0 : Nat) < 60 by decide) (by rw [rDt_F h8, e]; rfl)
              simp [domW] at this ⊢
              exact this
          · have en : rDt (x :: r) = none := rDt_no (by simpa using hz) (by simpa using hq) (fun z => hP ⟨by simpa using z.1, by simpa using z.2⟩) (fun z => hF ⟨by simpa using z.1, by have := z.2; rw [List.length_cons] at this; omega⟩)
            have fin : WS (m_read_domain_4 (f_read_domain k) [some (.str (x :: r)), some .non] s) (nxK
                (fun ρ' s' => ∃ w, ρ'[1]? = some (some w) ∧ (∃ a, rDt (x :: r) = some a ∧ domW a = w) ∧ s' = s)
                fun fl s' =>
                match fl with
                | Fl.rt w => (∃ a, rDt (x :: r) = some a ∧ domW a = w) ∧ s' = s
                | Fl.nx ρ => (∃ a, rDt (x :: r) = some a ∧ domW a = W.non) ∧ s' = s
                | Fl.ex e ρ => rDt (x :: r) = none ∧ e = TE ∧ s' = s
                | x => False) := by
              unfold m_read_domain_4
              simp [is_domain_non, en]
            split
            · rename_i h1
              refine ⟨by omega, ?_⟩
              rw [if_neg (fun z => hF ⟨h1, by omega⟩)]
              exact fin
            · exact fin
theorem set_last {s : Sto} {a b : Cell} : (s ++ [a]).set s.length b = s ++ [b] := by
  rw [List.set_append_right _ _ (Nat.le_refl _), Nat.sub_self]
  rfl
theorem at_last {s : Sto} {xs : List W} : At (s ++ [.lst xs]) s.length xs := by unfold At; simp
theorem at_last' {s : Sto} {xs : List W} : (s ++ [Cell.lst xs])[s.length]? = some (.lst xs) := by simp
@[simp] theorem pieces_eq {t : List Nat} {s : Sto} (ht : t.length ≤ 500) : f_pieces [.str t] s = .ok (.ref s.length) (s ++ [.lst ((pcs [] 0 t).map .str)]) := by
  have go : WM (f_pieces [.str t] s) (fun w s' => w = .ref s.length ∧ s' = s ++ [.lst ((pcs [] 0 t).map .str)]) fun _ _ => False := by
    unfold f_pieces m_pieces
    simp [startE]
    refine nx_cut (fun ρ' s' => ∃ cur k u acc, ρ' = [some (.str t), some (.ref s.length), some (.str cur), some (.int k), u] ∧ s' = s ++ [.lst (acc.map .str)] ∧ acc ++ [cur] = pcs [] 0 t ∧ acc.length ≤ 500) ?_ ?_
    · unfold m_pieces_1
      simp
      refine for_by0 (fun i ρ' s' => ∃ cur k u acc, ρ' = [some (.str t), some (.ref s.length), some (.str cur), some (.int k), u] ∧ s' = s ++ [.lst (acc.map .str)] ∧ acc ++ pcs cur k (t.drop i) = pcs [] 0 t ∧ cur.length ≤ i ∧ acc.length ≤ i) ?_ ?_ ⟨[], 0, none, [], rfl, rfl, rfl, Nat.le_refl _, Nat.le_refl _⟩
      · rintro i w ρ s' hw ⟨cur, k, u, acc, rfl, rfl, hp, h1, h2⟩
        rw [List.getElem?_map] at hw
        obtain ⟨c, hc, rfl⟩ := Option.map_eq_some_iff.mp hw
        have hi := (List.getElem?_eq_some_iff.mp hc).1
        have hdr : t.drop i = c :: t.drop (i + 1) := by
          rw [List.drop_eq_getElem_cons hi, (List.getElem?_eq_some_iff.mp hc).2]
        rw [hdr, pcs] at hp
        simp
        refine nx_cut (fun ρ' s' => ∃ cur' acc', ρ' = [some (.str t), some (.ref s.length), some (.str cur'), some (.int k), some (.str [c])] ∧ s' = s ++ [.lst (acc'.map .str)] ∧ acc' ++ pcs cur' (k + brc c) (t.drop (i + 1)) = pcs [] 0 t ∧ cur'.length ≤ i + 1 ∧ acc'.length ≤ i + 1) ?_ ?_
        · unfold m_pieces_2
          simp
          split
          · rename_i h32
            subst h32
            split
            · rename_i hk
              subst hk
              rw [if_pos ⟨rfl, rfl⟩] at hp
              refine ⟨isT_L at_last, ?_⟩
              rw [wo_appendL at_last, set_last]
              refine ⟨by rw [List.length_map, szl]; omega, acc ++ [cur], by simp, ?_, by rw [List.length_append, List.length_singleton]; omega⟩
              rw [← hp, List.append_assoc]
              rfl
            · rename_i hk
              rw [if_neg (fun z => hk z.2)] at hp
              exact ⟨by omega, acc, rfl, hp, by omega, by omega⟩
          · rename_i h32
            rw [if_neg (fun z => h32 z.1)] at hp
            exact ⟨by omega, acc, rfl, hp, by omega, by omega⟩
        · rintro ρ' s' ⟨cur', acc', rfl, rfl, hp, h1, h2⟩
          unfold m_pieces_3
          simp
          split
          · rename_i hb
            subst hb
            exact ⟨_, _, ⟨rfl, rfl⟩, acc', rfl, hp, h1, h2⟩
          · rename_i hb
            unfold m_pieces_4
            simp
            split
            · rename_i hb2
              subst hb2
              exact ⟨_, _, ⟨rfl, rfl⟩, acc', rfl, hp, h1, h2⟩
            · rename_i hb2
              have : brc c = 0 := by unfold brc; rw [if_neg hb, if_neg hb2]
              rw [this, Int.add_zero] at hp
              exact ⟨_, _, ⟨rfl, rfl⟩, acc', rfl, hp, h1, h2⟩
      · rintro ρ s' ⟨cur, k, u, acc, rfl, rfl, hp, h1, h2⟩
        rw [List.length_map] at hp h2
        rw [List.drop_length, pcs] at hp
        simp
        exact ⟨acc, rfl, hp, by omega⟩
    · rintro ρ' s' ⟨cur, k, u, acc, rfl, rfl, hp, h2⟩
      simp
      refine ⟨isT_L at_last, ?_⟩
      rw [wo_appendL at_last, set_last]
      simp
      exact ⟨by omega, by rw [← hp]; simp⟩
  obtain ⟨a, s', e, rfl, rfl⟩ := WM.ok go
  exact e
end ME

set_option Elab.async false
set_option linter.all false
set_option maxRecDepth 100000
set_option maxHeartbeats 1000000
/-! ### plain: the readers, third part -/
namespace ME
open PySem PySem.Spec PyProof.Rows L2 PySem.NumText
open FL (isDig rNat rInt isDig_iff all_digits rNat_dg rInt_ic dg ic dg_len dg_digits dg_ne str_int ic_back)
theorem toR_wm {o : Option W} {s : Sto} {Q : W → Sto → Prop} {X : Er → Sto → Prop} (h1 : ∀ x, o = some x → Q x s) (h2 : o = none → X TE s) : WM (toR o s) Q X := by
  cases o with
  | none => exact h2 rfl
  | some x => exact h1 x rfl
/-- a reader -/
def Reads1 (fe : List W → M W) (f : List Nat → Option W) (d : Dm) : Prop := ∀ (t : List Nat) (s : Sto), t.length ≤ 500 → ∃ g, fe [domW d, .str t] s = toR (f t) (s ++ g)
theorem mapO_dead {f : List Nat → Option W} {acc : List W} {xs : List (List Nat)} {x : List Nat} {ts : List (List Nat)} (h : more acc (mapO f (x :: ts)) = mapO f xs) (hx : f x = none) : mapO f xs = none := by
  rw [← h, mapO, hx]
  rfl
theorem At.app' {n : Nat} {s : Sto} {xs : List W} (h : At s n xs) (g : Sto) : At (s ++ g) n xs := by
  have l : n < s.length := (List.getElem?_eq_some_iff.mp h).1
  unfold At at h ⊢
  rw [List.getElem?_append_left l]
  exact h
theorem mapO_comp {v n : Nat} {m : Env → M W} {ρ : Env} {f : List Nat → Option W} {xs : List (List Nat)} {s0 : Sto} {Q : List W → Sto → Prop} {X : Er → Sto → Prop}
    (hn : xs.length ≤ 16000000) (hat : At s0 n (xs.map .str))
    (hm : ∀ x s, x ∈ xs → ∃ g, m (ρ.set v (some (.str x))) s = toR (f x) (s ++ g))
    (q : ∀ ys g, mapO f xs = some ys → Q ys (s0 ++ g)) (x : ∀ g, mapO f xs = none → X TE (s0 ++ g)) :
    WM (compN (some (n, xs.map .str)) (gN v) xYes m ρ (xs.map .str) [] s0) Q X := by
  refine comp_by (fun i acc s' => (∃ g, s' = s0 ++ g) ∧ more acc (mapO f (xs.drop i)) = mapO f xs ∧ acc.length ≤ i) ?_ ?_ ?_ ⟨⟨[], by simp⟩, ?_, Nat.le_refl _⟩
  · rintro i acc s' hi ⟨⟨g, rfl⟩, _⟩
    exact okL_at (hat.app' g)
  · rintro i w acc s' hw ⟨⟨g, rfl⟩, h1, h2⟩
    rw [List.getElem?_map] at hw
    obtain ⟨c, hc, rfl⟩ := Option.map_eq_some_iff.mp hw
    have hi := (List.getElem?_eq_some_iff.mp hc).1
    have hdr : xs.drop i = c :: xs.drop (i + 1) := by
      rw [List.drop_eq_getElem_cons hi, (List.getElem?_eq_some_iff.mp hc).2]
    rw [hdr] at h1
    obtain ⟨g', e⟩ := hm c (s0 ++ g) (List.mem_of_getElem? hc)
    simp
    rw [e]
    refine toR_wm (fun y hy => ?_) (fun hy => ?_)
    · rw [more_snoc hy] at h1
      refine ⟨by omega, ⟨g ++ g', by rw [List.append_assoc]⟩, h1, by omega⟩
    · rw [List.append_assoc]
      exact x _ (mapO_dead h1 hy)
  · rintro acc s' ⟨⟨g, rfl⟩, h1, h2⟩
    rw [List.length_map, List.drop_length] at h1
    refine q acc g ?_
    rw [← h1, mapO]
    show some (acc ++ []) = some acc
    rw [List.append_nil]
  · rw [List.drop_zero]
    cases mapO f xs <;> rfl
theorem list_wm {fe fl : List W → M W} {f : List Nat → Option W} {d : Dm} {o c : Nat} {t : List Nat} {s : Sto} (hf : Reads1 fe f d) (ht : t.length ≤ 500) :
    ∃ g, runM 6 4 (m_read_list fe fl) [domW d, .str t, .str [o], .str [c]] s = toR ((rLs f o c t).map .tup) (s ++ g) := by
  refine eqRg ?_
  unfold m_read_list
  simp [startE]
  refine nx_cut (fun ρ' s' => ρ' = [some (domW d), some (.str t), some (.str [o]), some (.str [c]), none, none] ∧ s' = s ∧ framed o c t) ?_ ?_
  · unfold m_read_list_1
    simp
    refine ⟨by omega, ?_⟩
    have no : ¬ framed o c t → rLs f o c t = none := fun h => by unfold rLs; rw [if_neg h]
    split
    · exact no fun h => by have := h.1; omega
    · refine ⟨by omega, ?_⟩
      obtain ⟨x, hx⟩ : ∃ x, t[0]? = some x := ⟨t[0]'(by omega), List.getElem?_eq_getElem (by omega)⟩
      refine ⟨x, hx, ?_⟩
      rw [← List.head?_eq_getElem?] at hx
      split
      · rename_i hxo
        refine ⟨by omega, ?_⟩
        have hne : t ≠ [] := fun z => by rw [z] at hx; cases hx
        refine ⟨_, by rw [atI_m1]; exact List.getLast?_eq_getLast hne, ?_⟩
        split
        · rename_i hc
          exact ⟨by omega, by rw [hx, hxo], by rw [List.getLast?_eq_getLast hne, hc]⟩
        · rename_i hc
          exact no fun h => hc (by have := h.2.2; rw [List.getLast?_eq_getLast hne] at this; exact Option.some.inj this)
      · rename_i hxo
        exact no fun h => hxo (by have := h.2.1; rw [hx] at this; exact Option.some.inj this)
  · rintro ρ' s' ⟨rfl, rfl, hfr⟩
    try simp [cut_inner]
    have hi : (inner t).length ≤ 500 := by rw [inner_len]; omega
    refine ⟨by omega, ?_⟩
    unfold m_read_list_2
    simp
    split
    · rename_i he
      unfold rLs
      rw [if_pos hfr, if_pos he]
    · rename_i he
      simp [pieces_eq hi, wipeE]
      have hps : (pcs [] 0 (inner t)).length ≤ 501 := Nat.le_trans (pcs_count _ _ _) (by omega)
      have er : rLs f o c t = mapO f (pcs [] 0 (inner t)) := by
        unfold rLs
        rw [if_pos hfr, if_neg he]
      refine mapO_comp (f := f) (by omega) at_last (fun x s hx => ?_) (fun ys g e => ?_) (fun g e => ?_)
      · have hx2 : x.length ≤ 500 := Nat.le_trans (pcs_small _ _ _ x hx) (by simpa using hi)
        obtain ⟨g, e⟩ := hf x s hx2
        refine ⟨g, ?_⟩
        show (bindM _ _) s = _
        unfold bindM
        simp [aCons, aNil, eVar, bindM]
        exact e
      · rw [wo_tupleL at_last]
        exact ⟨⟨ys, er.trans e, rfl⟩, _, by rw [List.append_assoc, List.append_assoc]⟩
      · exact ⟨er.trans e, rfl, _, by rw [List.append_assoc]⟩
open Classical in
theorem elem_tail {d : Dm} {t : List Nat} {s s' : Sto} {x : W} {u : Option W} (hd : IsD d) (hx : Shp d x) (hs : ∃ g, s' = s ++ g) (e : rEl d t = flt d (some x)) {a b : List W → M W} : WS (m_read_element_5 a b [some (domW d), some (.str t), u, some x] s') (nxK
        (fun ρ' s' => ∃ w, ρ'[3]? = some (some w) ∧ rEl d t = some w ∧ ∃ g, s' = s ++ g)
        fun fl s' =>
        match fl with
        | Fl.rt w => rEl d t = some w ∧ ∃ g, s' = s ++ g
        | Fl.nx ρ => rEl d t = some W.non ∧ ∃ g, s' = s ++ g
        | Fl.ex e ρ => rEl d t = none ∧ e = TE ∧ ∃ g, s' = s ++ g
        | x => False) := by
  unfold m_read_element_5
  simp [is_element_eq hd hx]
  split
  · rename_i hb
    exact ⟨by rw [e, flt_yes hb], hs⟩
  · rename_i hb
    exact ⟨by rw [e, flt_no hb], hs⟩
theorem preL_wm {k : Nat} {t : List Nat} {s : Sto} {d : Dm} {l : List (List Nat)} (hd : d = .q) (hl : TL.spl [47] 0 [] t = l) (ht : t.length ≤ 500) : ∃ g, runM 4 2 (m_read_element (f_read_element k) (f_read_list k)) [domW d, .str t] s = toR (rEl d t) (s ++ g) := by
  subst hd
  have small : ∀ x ∈ l, x.length ≤ 500 := fun x hx => by
    have := spl_small [47] t 0 [] x (by rw [hl]; exact hx)
    simp at this
    omega
  have er : rEl .q t = flt .q (preL l) := by rw [rEl]; unfold preQ; rw [hl]
  refine eqRg ?_
  unfold m_read_element
  simp [startE, domW]
  unfold m_read_element_1
  simp [hl]
  refine ⟨by omega, ?_⟩
  unfold m_read_element_2
  match l, small, er with
  | [], _, _ => exact absurd hl (spl_ne _ _ _ _)
  | [a], small, er =>
    have ha := small a (by simp)
    simp [wo_lenL at_last, wo_ixL at_last, ha]
    cases e : rInt a with
    | none => simp [er, preL1, e, flt_none]
    | some n =>
      simp [wo_lenL at_last]
      unfold m_read_element_3
      simp [wo_lenL at_last]
      refine elem_tail (d := .q) True.intro ⟨n, 1, rfl⟩ ⟨_, rfl⟩ ?_
      rw [er, preL1, e]
      rfl
  | [a, b], small, er =>
    have ha := small a (by simp)
    have hb := small b (by simp)
    simp [wo_lenL at_last, wo_ixL at_last, ha]
    cases e : rInt a with
    | none => simp [er, preL2, e, flt_none]
    | some n =>
      simp [wo_lenL at_last, wo_ixL at_last, hb]
      cases e2 : rNat b with
      | none => simp [er, preL2, e, e2, flt_none]
      | some m =>
        simp
        unfold m_read_element_3
        simp [wo_lenL at_last]
        split
        · rename_i hm
          rw [er, preL2, e, e2]
          dsimp only
          rw [if_neg (by omega), flt_none]
        · rename_i hm
          refine elem_tail (d := .q) True.intro ⟨n, m, rfl⟩ ⟨_, rfl⟩ ?_
          rw [er, preL2, e, e2]
          dsimp only
          rw [if_pos (by omega)]
  | a :: b :: c :: r, small, er =>
    simp [wo_lenL at_last]
    rw [if_pos (by omega), er, preL3, flt_none]
theorem elem_ok : ∀ {d : Dm} {k : Nat}, IsD d → 2 * dpt d < k → Reads1 (f_read_element k) (rEl d) d
  | .z, k, hd, hk => by
    obtain ⟨k, rfl⟩ : ∃ j, k = j + 1 := ⟨k - 1, by omega⟩
    intro t s ht
    refine eqRg ?_
    unfold f_read_element m_read_element
    simp [startE, domW]
    unfold m_read_element_1
    simp
    unfold m_read_element_4
    simp [ht]
    refine toR_wm (fun x hx => ?_) (fun hx => ?_)
    · obtain ⟨n, hn, rfl⟩ := Option.map_eq_some_iff.mp hx
      exact elem_tail (d := .z) hd ⟨n, rfl⟩ ⟨[], by simp⟩ (by rw [rEl, hn]; rfl)
    · exact ⟨by rw [rEl, Option.map_eq_none_iff.mp hx]; rfl, rfl, [], by simp⟩
  | .f p, k, hd, hk => by
    obtain ⟨k, rfl⟩ : ∃ j, k = j + 1 := ⟨k - 1, by omega⟩
    intro t s ht
    refine eqRg ?_
    unfold f_read_element m_read_element
    simp [startE, domW]
    unfold m_read_element_1
    simp
    unfold m_read_element_4
    simp [ht]
    refine toR_wm (fun x hx => ?_) (fun hx => ?_)
    · obtain ⟨n, hn, rfl⟩ := Option.map_eq_some_iff.mp hx
      exact elem_tail (d := .f p) hd ⟨n, rfl⟩ ⟨[], by simp⟩ (by rw [rEl, hn]; rfl)
    · exact ⟨by rw [rEl, Option.map_eq_none_iff.mp hx]; rfl, rfl, [], by simp⟩
  | .q, k, hd, hk => by
    obtain ⟨k, rfl⟩ : ∃ j, k = j + 1 := ⟨k - 1, by omega⟩
    intro t s ht
    exact preL_wm rfl rfl ht
  | .p d, k, hd, hk => by
    have hk : 2 * (dpt d + 1) < k := hk
    obtain ⟨k, rfl⟩ : ∃ j, k = j + 2 := ⟨k - 2, by omega⟩
    have hd' : IsD d := IsF.isD hd
    have ih := elem_ok (d := d) (k := k) hd' (by omega)
    intro t s ht
    refine eqRg ?_
    unfold f_read_element m_read_element
    simp [startE, domW]
    unfold m_read_element_1
    simp
    unfold m_read_element_4
    simp
    obtain ⟨g, e⟩ := list_wm (fe := f_read_element k) (fl := f_read_list k) (f := rEl d) (d := d) (o := 123) (c := 125) (t := t) (s := s) ih ht
    rw [show f_read_list (k + 1) = runM 6 4 (m_read_list (f_read_element k) (f_read_list k)) from rfl, e]
    refine toR_wm (fun x hx => ?_) (fun hx => ?_)
    · obtain ⟨xs, hn, rfl⟩ := Option.map_eq_some_iff.mp hx
      exact elem_tail (d := .p d) hd ⟨xs, rfl, rLs_all (p := Shp d) (fun t x h => (rEl_bel h).shp) hn⟩ ⟨_, rfl⟩ (by rw [rEl, hn]; rfl)
    · exact ⟨by rw [rEl, Option.map_eq_none_iff.mp hx]; rfl, rfl, _, rfl⟩
theorem vector_ok {d : Dm} {t : List Nat} {s : Sto} (hd : IsD d) (ht : t.length ≤ 500) : ∃ g, f_read_vector [domW d, .str t] s = toR ((rLs (rEl d) 60 62 t).map .tup) (s ++ g) := by
  have := dpt_small hd
  obtain ⟨g, e⟩ := list_wm (fe := f_read_element 5) (fl := f_read_list 5) (f := rEl d) (d := d) (o := 60) (c := 62) (t := t) (s := s) (elem_ok hd (by omega)) ht
  refine eqRg ?_
  unfold f_read_vector m_read_vector
  simp [startE]
  rw [show f_read_list 6 = runM 6 4 (m_read_list (f_read_element 5) (f_read_list 5)) from rfl, e]
  refine toR_wm (fun x hx => ⟨Option.map_eq_some_iff.mp hx, g, rfl⟩) (fun hx => ⟨Option.map_eq_none_iff.mp hx, rfl, g, rfl⟩)
theorem sizes_ok {t : List Nat} {s : Sto} (ht : t.length ≤ 500) : ∃ g, f_read_sizes [.str t] s = toR (rSz t) (s ++ g) := by
  refine eqRg ?_
  have small : ∀ x ∈ TL.spl [120] 0 [] t, x.length ≤ 500 := fun x hx => by
    have := spl_small [120] t 0 [] x hx
    simp at this
    omega
  unfold f_read_sizes m_read_sizes
  simp [startE]
  refine ⟨by omega, ?_⟩
  unfold m_read_sizes_1
  unfold rSz
  generalize TL.spl [120] 0 [] t = l at small ⊢
  match l, small with
  | [], _ => simp [wo_lenL at_last, szL]
  | [a], _ => simp [wo_lenL at_last, szL]
  | a :: b :: c :: r, _ => 
    simp [wo_lenL at_last]
    rw [if_neg (by omega)]
    rfl
  | [a, b], small =>
    have ha := small a (by simp)
    have hb := small b (by simp)
    simp [wo_lenL at_last, wo_ixL at_last, ha, hb]
    cases e : rNat a with
    | none => simp [szL, e]
    | some m =>
      simp [wo_ixL at_last, hb]
      cases e2 : rNat b with
      | none => simp [szL, e, e2]
      | some n =>
        simp
        have es : szL [a, b] = if (0 < m ∧ 0 < n) ∨ 1000 < m ∨ 1000 < n then none else some (.tup [.int (m : Int), .int (n : Int), .tup (List.replicate m (.tup []))]) := by
          unfold szL
          dsimp only
          rw [e, e2]
        refine nx_cut (fun ρ' s' => ρ' = [some (.str t), some (.ref s.length), some (.int m), some (.int n), none] ∧ s' = s ++ [Cell.lst [W.str a, W.str b]] ∧ ¬ ((0 < m ∧ 0 < n) ∨ 1000 < m ∨ 1000 < n)) ?_ ?_
        · unfold m_read_sizes_2
          simp
          split
          · split
            · rw [es, if_pos (.inl ⟨by omega, by omega⟩)]
            · split
              · rw [es, if_pos (.inr (.inl (by omega)))]
              · split
                · rw [es, if_pos (.inr (.inr (by omega)))]
                · omega
          · split
            · rw [es, if_pos (.inr (.inl (by omega)))]
            · split
              · rw [es, if_pos (.inr (.inr (by omega)))]
              · omega
        · rintro ρ' s' ⟨rfl, rfl, hc⟩
          simp [wipeE]
          refine ⟨by omega, ?_⟩
          refine comp_by0 (fun i acc s' => acc = List.replicate i (.tup []) ∧ s' = s ++ [Cell.lst [W.str a, W.str b]]) ?_ ?_ ⟨rfl, rfl⟩
          · rintro i w acc s' hw ⟨rfl, rfl⟩
            obtain ⟨hi, rfl⟩ := rangeL_get hw
            simp
            exact ⟨by omega, List.replicate_succ'.symm⟩
          · rintro acc s' ⟨rfl, rfl⟩
            rw [wo_tupleL at_last, es, if_neg hc]
            simp
open Classical in
theorem is_matrix_rows {d : Dm} {rows : List (List W)} {n : Nat} {s : Sto} (hd : IsD d) (hb : ∀ r ∈ rows, ∀ x ∈ r, Bel d x) :
    f_is_matrix [domW d, .tup [.int (rows.length : Nat), .int (n : Nat), .tup (rows.map .tup)]] s = .ok (.bl (decide (∀ r ∈ rows, r.length = n))) s := by
  have hdp := dpt_small hd
  refine eqOk ?_
  unfold f_is_matrix m_is_matrix
  simp [startE, hd]
  unfold m_is_matrix_1
  simp
  unfold m_is_matrix_2
  simp
  rw [if_neg (by omega)]
  refine nx_cut (fun ρ' s' => s' = s ∧ ∀ r ∈ rows, r.length = n) ?_ ?_
  · unfold m_is_matrix_3
    simp
    refine for_by0 (fun i ρ' s' => (∃ u v, ρ' = [some (domW d), some (.tup [.int (rows.length : Nat), .int (n : Nat), .tup (rows.map .tup)]), u, v]) ∧ s' = s ∧ ∀ r ∈ rows.take i, r.length = n) ?_ ?_ ⟨⟨_, _, rfl⟩, rfl, by simp⟩
    · rintro i w ρ s' hw ⟨⟨u, v, rfl⟩, rfl, hr⟩
      rw [List.getElem?_map] at hw
      obtain ⟨r, hc, rfl⟩ := Option.map_eq_some_iff.mp hw
      have hm := List.mem_of_getElem? hc
      simp
      refine nx_cut (fun ρ' s'' => ρ' = [some (domW d), some (.tup [.int (rows.length : Nat), .int (n : Nat), .tup (rows.map .tup)]), some (.tup r), v] ∧ s'' = s' ∧ r.length = n) ?_ ?_
      · unfold m_is_matrix_4
        simp
        split
        · omega
        · rename_i h1
          exact ⟨r, hm, fun z => h1 (by omega)⟩
      · rintro ρ' s'' ⟨rfl, rfl, hl⟩
        unfold m_is_matrix_5
        simp
        refine for_by0 (fun i ρ' s' => (∃ v, ρ' = [some (domW d), some (.tup [.int (rows.length : Nat), .int (n : Nat), .tup (rows.map .tup)]), some (.tup r), v]) ∧ s' = s'') ?_ ?_ ⟨⟨_, rfl⟩, rfl⟩
        · rintro j w ρ s' hw ⟨⟨v, rfl⟩, rfl⟩
          have hbw := hb r hm w (List.mem_of_getElem? hw)
          unfold m_is_matrix_6
          simp [belongs_eq d w 6 s' (by omega) (by omega) hbw.shp, hbw]
        · rintro ρ s' ⟨⟨v, rfl⟩, rfl⟩
          simp
          intro r' hr'
          rw [List.take_add_one, hc] at hr'
          rcases List.mem_append.mp hr' with h1 | h1
          · exact hr r' h1
          · simp at h1
            rw [h1]
            exact hl
    · rintro ρ s' ⟨⟨u, v, rfl⟩, rfl, hr⟩
      rw [List.length_map, List.take_length] at hr
      simp
      exact hr
  · rintro ρ' s' ⟨rfl, hr⟩
    simp
    exact hr
theorem mapR_dead {f : List Nat → Option W} {acc : List (List W)} {xs : List (List Nat)} {x : List Nat} {ts : List (List Nat)} (h : moreR acc (mapR f (x :: ts)) = mapR f xs) (hx : mapO f (pcs [] 0 x) = none) : mapR f xs = none := by
  rw [← h, mapR, hx]
  rfl
theorem mapR_comp {v n : Nat} {m : Env → M W} {ρ : Env} {f : List Nat → Option W} {xs : List (List Nat)} {s0 : Sto} {Q : List W → Sto → Prop} {X : Er → Sto → Prop}
    (hn : xs.length ≤ 16000000) (hat : At s0 n (xs.map .str))
    (hm : ∀ x s, x ∈ xs → ∃ g, m (ρ.set v (some (.str x))) s = toR ((mapO f (pcs [] 0 x)).map .tup) (s ++ g))
    (q : ∀ rows g, mapR f xs = some rows → Q (rows.map .tup) (s0 ++ g)) (x : ∀ g, mapR f xs = none → X TE (s0 ++ g)) :
    WM (compN (some (n, xs.map .str)) (gN v) xYes m ρ (xs.map .str) [] s0) Q X := by
  refine comp_by (fun i acc s' => (∃ g, s' = s0 ++ g) ∧ ∃ rows, acc = rows.map .tup ∧ moreR rows (mapR f (xs.drop i)) = mapR f xs ∧ rows.length ≤ i) ?_ ?_ ?_ ⟨⟨[], by simp⟩, [], rfl, ?_, Nat.le_refl _⟩
  · rintro i acc s' hi ⟨⟨g, rfl⟩, _⟩
    exact okL_at (hat.app' g)
  · rintro i w acc s' hw ⟨⟨g, rfl⟩, rows, rfl, h1, h2⟩
    rw [List.getElem?_map] at hw
    obtain ⟨c, hc, rfl⟩ := Option.map_eq_some_iff.mp hw
    have hi := (List.getElem?_eq_some_iff.mp hc).1
    have hdr : xs.drop i = c :: xs.drop (i + 1) := by
      rw [List.drop_eq_getElem_cons hi, (List.getElem?_eq_some_iff.mp hc).2]
    rw [hdr] at h1
    obtain ⟨g', e⟩ := hm c (s0 ++ g) (List.mem_of_getElem? hc)
    simp
    rw [e]
    refine toR_wm (fun y hy => ?_) (fun hy => ?_)
    · obtain ⟨r, hr, rfl⟩ := Option.map_eq_some_iff.mp hy
      rw [moreR_snoc hr] at h1
      refine ⟨by omega, ⟨g ++ g', by rw [List.append_assoc]⟩, rows ++ [r], by simp, h1, by rw [List.length_append, List.length_singleton]; omega⟩
    · rw [List.append_assoc]
      exact x _ (mapR_dead h1 (Option.map_eq_none_iff.mp hy))
  · rintro acc s' ⟨⟨g, rfl⟩, rows, rfl, h1, h2⟩
    rw [List.length_map, List.drop_length] at h1
    refine q rows g ?_
    rw [← h1, mapR]
    show some (rows ++ []) = some rows
    rw [List.append_nil]
  · rw [List.drop_zero]
    cases mapR f xs <;> rfl
theorem matrix_ok {d : Dm} {t : List Nat} {s : Sto} (hd : IsD d) (ht : t.length ≤ 500) : ∃ g, f_read_matrix [domW d, .str t] s = toR (rMx d t) (s ++ g) := by
  have hdp := dpt_small hd
  refine eqRg ?_
  unfold f_read_matrix m_read_matrix
  simp [startE]
  refine nx_cut (fun ρ' s' => ρ' = [some (domW d), some (.str t), none, none, none, none, none] ∧ s' = s ∧ framed 91 93 t) ?_ ?_
  · unfold m_read_matrix_1
    simp
    refine ⟨by omega, ?_⟩
    have no : ¬ framed 91 93 t → rMx d t = none := fun h => by unfold rMx; rw [if_neg h]
    split
    · exact no fun h => by have := h.1; omega
    · refine ⟨by omega, ?_⟩
      obtain ⟨x, hx⟩ : ∃ x, t[0]? = some x := ⟨t[0]'(by omega), List.getElem?_eq_getElem (by omega)⟩
      refine ⟨x, hx, ?_⟩
      rw [← List.head?_eq_getElem?] at hx
      split
      · rename_i hxo
        refine ⟨by omega, ?_⟩
        have hne : t ≠ [] := fun z => by rw [z] at hx; cases hx
        refine ⟨_, by rw [atI_m1]; exact List.getLast?_eq_getLast hne, ?_⟩
        split
        · rename_i hc
          exact ⟨by omega, by rw [hx, hxo], by rw [List.getLast?_eq_getLast hne, hc]⟩
        · rename_i hc
          exact no fun h => hc (by have := h.2.2; rw [List.getLast?_eq_getLast hne] at this; exact Option.some.inj this)
      · rename_i hxo
        exact no fun h => hxo (by have := h.2.1; rw [hx] at this; exact Option.some.inj this)
  · rintro ρ' s' ⟨rfl, rfl, hfr⟩
    try simp [cut_inner]
    have hi : (inner t).length ≤ 500 := by rw [inner_len]; omega
    refine ⟨by omega, ?_⟩
    unfold m_read_matrix_2
    simp
    split
    · rename_i h120
      obtain ⟨g, e⟩ := sizes_ok (s := s') hi
      rw [e]
      have er : rMx d t = rSz (inner t) := by unfold rMx; rw [if_pos hfr, if_pos h120]
      exact toR_wm (fun x hx => ⟨er.trans hx, g, rfl⟩) (fun hx => ⟨er.trans hx, rfl, g, rfl⟩)
    · rename_i h120
      refine ⟨by omega, ?_⟩
      have er : rMx d t = (mapR (rEl d) (TL.spl [59, 32] 0 [] (inner t))).bind mxOf := by unfold rMx; rw [if_pos hfr, if_neg h120]
      have hsm : ∀ x ∈ TL.spl [59, 32] 0 [] (inner t), x.length ≤ 500 := fun x hx => by
        have := spl_small [59, 32] (inner t) 0 [] x hx
        simp at this
        omega
      have hct := spl_count [59, 32] (inner t) 0 []
      refine mapR_comp (f := rEl d) (by omega) at_last (fun x s hx => ?_) (fun rows g e => ?_) (fun g e => ?_)
      · have hx5 := hsm x hx
        have hps := pcs_count x [] 0
        refine eqRg ?_
        simp [wipeE, pieces_eq hx5]
        refine mapO_comp (f := rEl d) (by omega) at_last (fun y s hy => ?_) (fun ys g e => ?_) (fun g e => ?_)
        · have hy5 : y.length ≤ 500 := Nat.le_trans (pcs_small _ _ _ y hy) (by simpa using hx5)
          obtain ⟨g, e⟩ := elem_ok (k := 6) hd (by omega) y s hy5
          refine ⟨g, ?_⟩
          show (bindM _ _) s = _
          unfold bindM
          simp [aCons, aNil, eVar, bindM]
          exact e
        · rw [wo_tupleL at_last]
          exact ⟨⟨ys, e, rfl⟩, _, by rw [List.append_assoc, List.append_assoc]⟩
        · exact ⟨e, rfl, _, by rw [List.append_assoc]⟩
      · obtain ⟨s1, hs1, g1, hg⟩ : ∃ s1, s1 = s' ++ [Cell.lst (List.map W.str (TL.spl [59, 32] 0 [] (inner t)))] ++ g ∧ ∃ g', s1 = s' ++ g' := ⟨_, rfl, _, by rw [List.append_assoc]⟩
        rw [← hs1]
        clear hs1
        simp [wo_lenL at_last, wo_ixL at_last, wo_tupleL at_last]
        cases rows with
        | nil =>
          have := mapR_len e
          cases z : TL.spl [59, 32] 0 [] (inner t) with
          | nil => exact absurd z (spl_ne _ _ _ _)
          | cons a b => rw [z] at this; cases this
        | cons r rs =>
          simp
          unfold m_read_matrix_3
          have hm := fun s => is_matrix_rows (d := d) (rows := r :: rs) (n := r.length) (s := s) hd (mapR_all (p := Bel d) (fun t x h => rEl_bel h) e)
          simp at hm
          simp [hm, wo_tupleL at_last, wo_lenL at_last, wo_ixL at_last]
          have emx : rMx d t = mxOf (r :: rs) := by rw [er, e]; rfl
          unfold mxOf at emx
          dsimp only at emx
          split
          · rename_i hl
            rw [emx, if_pos (by simpa using hl)]
            simp
            exact ⟨_, by rw [hg, List.append_assoc]⟩
          · rename_i hl
            rw [emx, if_neg (fun z => hl fun x h1 => z x (List.mem_cons_of_mem _ h1))]
            simp
            exact ⟨_, by rw [hg, List.append_assoc]⟩
      · exact ⟨by rw [er, e]; rfl, rfl, _, by rw [List.append_assoc]⟩
end ME

set_option Elab.async false
set_option linter.all false
set_option maxRecDepth 100000
set_option maxHeartbeats 1000000
/-! ### plain: the law's draws -/
namespace ME
open PySem PySem.Spec PyProof.Rows L2
structure Cu (s : Sto) (r a : Nat) (p acc k : Int) (ns : List Int) : Prop where
  hc : At s r [.ref a, .int p, .int acc, .int k]
  ha : At s a (ns.map .int)
  ne : a ≠ r
  hp : 0 ≤ p
  hacc : 0 ≤ acc
/-- the cursor stands at r -/
def CU (s : Sto) (r : Nat) : Prop := ∃ a p acc k ns, Cu s r a p acc k ns
/-- all but the cell r is as it was -/
structure Up (r : Nat) (s s' : Sto) : Prop where
  len : s.length ≤ s'.length
  old : ∀ i, i < s.length → i ≠ r → s'[i]? = s[i]?
theorem Up.refl (r : Nat) (s : Sto) : Up r s s := ⟨Nat.le_refl _, fun _ _ _ => rfl⟩
theorem Up.trans {r : Nat} {s s1 s2 : Sto} (a : Up r s s1) (b : Up r s1 s2) : Up r s s2 := ⟨Nat.le_trans a.len b.len, fun i h n => (b.old i (Nat.lt_of_lt_of_le h a.len) n).trans (a.old i h n)⟩
theorem Up.app {r : Nat} {s : Sto} (g : Sto) : Up r s (s ++ g) := ⟨by simp, fun i h _ => List.getElem?_append_left h⟩
theorem Up.at {r n : Nat} {s s' : Sto} {xs : List W} (u : Up r s s') (h : At s n xs) (hn : n ≠ r) : At s' n xs := (u.old n (List.getElem?_eq_some_iff.mp h).1 hn).trans h
theorem At.lt {n : Nat} {s : Sto} {xs : List W} (h : At s n xs) : n < s.length := (List.getElem?_eq_some_iff.mp h).1
theorem At.new {s : Sto} {xs : List W} : At (s ++ [.lst xs]) s.length xs := by unfold At; simp
theorem At.app {n : Nat} {s : Sto} {xs : List W} (h : At s n xs) (g : Sto) : At (s ++ g) n xs := by
  have l := h.lt
  unfold At at h ⊢
  rw [List.getElem?_append_left l]
  exact h
theorem At.set {n : Nat} {s : Sto} {xs ys : List W} (h : At s n xs) : At (s.set n (.lst ys)) n ys := by
  unfold At
  rw [List.getElem?_set, if_pos rfl, if_pos h.lt]
theorem At.set_ne {n m : Nat} {s : Sto} {xs : List W} {c : Cell} (h : At s n xs) (ne : m ≠ n) : At (s.set m c) n xs := by
  unfold At at h ⊢
  rw [List.getElem?_set, if_neg ne]
  exact h
theorem Up.set {r : Nat} {s : Sto} {c : Cell} : Up r s (s.set r c) := ⟨by rw [List.length_set]; exact Nat.le_refl _, fun i h n => by rw [List.getElem?_set, if_neg (Ne.symm n)]⟩
theorem Up.set_new {r m : Nat} {s s1 : Sto} {c : Cell} (u : Up r s s1) (h : s.length ≤ m) : Up r s (s1.set m c) := ⟨by rw [List.length_set]; exact u.len, fun i hi n => by rw [List.getElem?_set, if_neg (by omega)]; exact u.old i hi n⟩
theorem Cu.put {s s' : Sto} {r a : Nat} {p acc k p' acc' k' : Int} {ns : List Int} (x : Cu s r a p acc k ns) (u : Up r s s') (hr : r < s'.length) (hp : 0 ≤ p') (hacc : 0 ≤ acc') : Cu (s'.set r (.lst [.ref a, .int p', .int acc', .int k'])) r a p' acc' k' ns := by
  refine ⟨?_, (u.at x.ha x.ne).set_ne x.ne.symm, x.ne, hp, hacc⟩
  unfold At
  rw [List.getElem?_set, if_pos rfl, if_pos hr]
theorem CU.up {s s' : Sto} {r : Nat} (x : CU s r) (h : ∀ i, i < s.length → s'[i]? = s[i]?) : CU s' r := by
  obtain ⟨a, p, acc, k, ns, d⟩ := x
  exact ⟨a, p, acc, k, ns, (h r d.hc.lt).trans d.hc, (h a d.ha.lt).trans d.ha, d.ne, d.hp, d.hacc⟩
theorem CU.app {s : Sto} {r : Nat} (x : CU s r) (g : Sto) : CU (s ++ g) r := x.up fun i h => List.getElem?_append_left h
theorem CU.lt {s : Sto} {r : Nat} (x : CU s r) : r < s.length := by
  obtain ⟨a, p, acc, k, ns, d⟩ := x
  exact d.hc.lt
theorem CU.set_new {s : Sto} {r m : Nat} {c : Cell} (x : CU s r) (h : m ≠ r) (h2 : ∀ a p acc k ns, Cu s r a p acc k ns → m ≠ a) : CU (s.set m c) r := by
  obtain ⟨a, p, acc, k, ns, d⟩ := x
  exact ⟨a, p, acc, k, ns, d.hc.set_ne h, d.ha.set_ne (h2 _ _ _ _ _ d), d.ne, d.hp, d.hacc⟩
theorem ix4 {a b c d : W} : ixN [a, b, c, d].length 0 = some 0 ∧ ixN [a, b, c, d].length 1 = some 1 ∧ ixN [a, b, c, d].length 2 = some 2 ∧ ixN [a, b, c, d].length 3 = some 3 := ⟨rfl, rfl, rfl, rfl⟩
theorem fill_wm {s : Sto} {r a : Nat} {p acc k : Int} {ns : List Int} {Q : W → Sto → Prop} {X : Er → Sto → Prop} (x : Cu s r a p acc k ns)
    (q : ∀ n s' p' k', 0 ≤ n → Cu s' r a p' acc k' ns → Up r s s' → s'.length = s.length → Q (.int n) s') : WM (f_law_fill [.ref r] s) Q X := by
  have l := x.hc.lt
  unfold f_law_fill m_law_fill
  simp [startE, wo_ixL x.hc, setAt_L x.hc, ixN]
  have x1 := x.put (Up.refl r s) l x.hp x.hacc (k' := k + 1)
  have u1 : Up r s (s.set r (.lst [.ref a, .int p, .int acc, .int (k + 1)])) := Up.set
  have l1 : (s.set r (.lst [.ref a, .int p, .int acc, .int (k + 1)])).length = s.length := List.length_set ..
  generalize s.set r (.lst [.ref a, .int p, .int acc, .int (k + 1)]) = s1 at x1 u1 l1 ⊢
  simp [wo_ixL x1.hc]
  refine nx_cut (fun ρ' s' => ∃ n p', ρ' = [some (.ref r), some (.int n)] ∧ Cu s' r a p' acc (k + 1) ns ∧ Up r s s' ∧ s'.length = s.length) ?_ ?_
  · unfold m_law_fill_1
    simp [wo_ixL x1.hc, wo_lenL x1.ha]
    split
    · rename_i hlt
      obtain ⟨j, rfl⟩ := Int.eq_ofNat_of_zero_le x1.hp
      have hj : j < ns.length := by omega
      simp [wo_ixL x1.hc, wo_ixL x1.ha, atI_nat', hj, setAt_L x1.hc, ixN]
      have x2 := x1.put (Up.refl r s1) (by omega) (show (0 : Int) ≤ (j : Int) + 1 by omega) x1.hacc (k' := k + 1)
      have u2 : Up r s1 (s1.set r (.lst [.ref a, .int ((j : Int) + 1), .int acc, .int (k + 1)])) := Up.set
      have l2 : (s1.set r (.lst [.ref a, .int ((j : Int) + 1), .int acc, .int (k + 1)])).length = s1.length := List.length_set ..
      generalize s1.set r (.lst [.ref a, .int ((j : Int) + 1), .int acc, .int (k + 1)]) = s2 at x2 u2 l2 ⊢
      generalize ns[j] = z
      refine nx_cut (fun ρ' s' => ∃ n, ρ' = [some (.ref r), some (.int n)] ∧ 0 ≤ n ∧ s' = s2) ?_ ?_
      · unfold m_law_fill_2
        simp
        split
        · omega
        · omega
      · rintro ρ' s' ⟨n, rfl, hn, rfl⟩
        unfold m_law_fill_3
        simp
        split
        · exact q _ _ _ _ hn x2 (u1.trans u2) (by omega)
        · exact ⟨⟨_, x2⟩, u1.trans u2, by omega⟩
    · exact ⟨⟨_, x1⟩, u1, l1⟩
  · rintro ρ' s' ⟨n, p', rfl, x2, u2, l2⟩
    refine nx_cut (fun ρ' s'' => ∃ n, ρ' = [some (.ref r), some (.int n)] ∧ s'' = s') ?_ ?_
    · unfold m_law_fill_4
      simp [wo_ixL x2.hc, wo_ixL x2.ha, wo_truL x2.ha, wo_lenL x2.ha]
      cases ns with
      | nil => simp
      | cons n0 nt =>
        simp
        intro _
        have e : atI (W.int n0 :: List.map W.int nt) (-1) = some (.int ((n0 :: nt).getLast (by simp))) := by
          rw [← List.map_cons, atI_m1, List.getLast?_map, List.getLast?_eq_getLast (by simp)]
          rfl
        simp [e]
    · rintro ρ' s'' ⟨n, rfl, rfl⟩
      simp [wo_ixL x2.hc]
      have m1 := Int.fmod_nonneg_of_pos (n * 48271 + (k + 1) * 69621) (show (0 : Int) < 2147483647 by decide)
      have m2 := Int.fmod_lt_of_pos (n * 48271 + (k + 1) * 69621) (show (0 : Int) < 2147483647 by decide)
      generalize (n * 48271 + (k + 1) * 69621).fmod 2147483647 = y at m1 m2 ⊢
      refine ⟨.inl (by omega), q _ _ _ _ ?_ x2 u2 l2⟩
      have := Int.fmod_nonneg_of_pos (y * y + (k + 1) * 7919 + 11) (show (0 : Int) < 2305843009213693951 by decide)
      omega
theorem take_wm {s : Sto} {r : Nat} {m : Int} {Q : W → Sto → Prop} {X : Er → Sto → Prop} (x : CU s r) (hm : 0 < m) (hm2 : m.natAbs.log2 < 9000)
    (q : ∀ n s', 0 ≤ n → n < m → CU s' r → Up r s s' → s'.length = s.length → Q (.int n) s') : WM (f_law_take [.ref r, .int m] s) Q X := by
  obtain ⟨a, p, acc, k, ns, x⟩ := x
  have l := x.hc.lt
  unfold f_law_take m_law_take
  simp [startE]
  refine nx_cut (fun ρ' s' => ρ' = [some (.ref r), some (.int m), none] ∧ (∃ p acc k, Cu s' r a p acc k ns) ∧ Up r s s' ∧ s'.length = s.length) ?_ ?_
  · unfold m_law_take_1
    simp [wo_ixL x.hc]
    split
    · refine fill_wm x fun n s' p' k' hn x' u' l' => ?_
      simp [setAt_L x'.hc, ixN]
      exact ⟨⟨_, _, _, x'.put (Up.refl r s') (by omega) x'.hp hn⟩, u'.trans Up.set, l'⟩
    · exact ⟨⟨_, _, _, x⟩, Up.refl _ _⟩
  · rintro ρ' s' ⟨rfl, ⟨p, acc, k, x⟩, u, l'⟩
    simp [wo_ixL x.hc, setAt_L x.hc, ixN]
    have m0 : m ≠ 0 := by omega
    refine ⟨m0, ⟨m0, hm2⟩, q _ _ (Int.fmod_nonneg_of_pos _ hm) (Int.fmod_lt_of_pos _ hm) ⟨a, p, _, k, ns, x.put (Up.refl r s') (by omega) x.hp ?_⟩ (u.trans Up.set) (by rw [List.length_set]; exact l')⟩
    rw [Int.fdiv_eq_ediv_of_nonneg _ (by omega)]
    exact Int.ediv_nonneg x.hacc (by omega)
end ME

set_option Elab.async false
set_option linter.all false
set_option maxRecDepth 100000
set_option maxHeartbeats 1000000
/-! ### plain: the law's own readers -/
namespace ME
open PySem PySem.Spec PyProof.Rows L2 PySem.NumText
open FL (isDig rNat rInt isDig_iff all_digits rNat_dg rInt_ic dg ic dg_len dg_digits dg_ne str_int ic_back)
/-- None where there is nothing -/
def oW (o : Option W) : W := o.getD .non
@[simp] theorem oW_none : oW none = .non := rfl
@[simp] theorem oW_some {w : W} : oW (some w) = w := rfl
theorem eqG {r : Res W} {v : W} {s : Sto} (h : WM r (fun w s' => w = v ∧ ∃ g, s' = s ++ g) fun _ _ => False) : ∃ g, r = .ok v (s ++ g) := by
  cases r with
  | ok a s' =>
    obtain ⟨rfl, g, rfl⟩ := (show a = v ∧ ∃ g, s' = s ++ g from h)
    exact ⟨g, rfl⟩
  | er e s' => exact h.elim
  | no => exact h.elim
@[simp] theorem cut_1 (x : List Nat) : cut x none (some 1) = x.take 1 := cut_upto x 1
theorem take1 (c : Nat) (x : List Nat) : x.take 1 = [c] ↔ x.head? = some c := by cases x <;> simp
@[simp] theorem law_natural_eq {t : List Nat} {s : Sto} (ht : t.length ≤ 500) : f_law_natural_of [.str t] s = .ok (oW ((rNat t).map fun n => .int n)) s := by
  refine eqOk ?_
  unfold f_law_natural_of m_law_natural_of
  simp [startE]
  refine nx_cut (fun ρ' s' => ρ' = [some (.str t), none] ∧ s' = s ∧ t ≠ [] ∧ ¬ (1 < t.length ∧ t.head? = some 48)) ?_ ?_
  · unfold m_law_natural_of_1
    cases t with
    | nil => simp [rNat]
    | cons c r =>
      simp
      have ht' : r.length + 1 ≤ 500 := ht
      have h1 : 0 < r.length → c = 48 → rNat (c :: r) = none := by
        intro h z
        unfold rNat
        rw [if_pos (.inr (.inl ⟨by rw [List.length_cons]; omega, by rw [z]; rfl⟩))]
      refine ⟨by omega, ?_⟩
      split
      · refine ⟨by omega, ?_⟩
        split
        · rename_i h2 h3
          rw [h1 (by omega) h3]
          rfl
        · exact fun _ h => by omega
      · omega
  · rintro ρ' s' ⟨rfl, rfl, hne, h0⟩
    try simp
    refine nx_cut (fun ρ' s'' => (∃ u, ρ' = [some (.str t), u]) ∧ s'' = s' ∧ t.all isDig = true) ?_ ?_
    · unfold m_law_natural_of_2
      simp
      refine for_by0 (fun i ρ' s'' => (∃ u, ρ' = [some (.str t), u]) ∧ s'' = s' ∧ (t.take i).all isDig = true) ?_ ?_ ⟨⟨_, rfl⟩, rfl, by simp⟩
      · rintro i w ρ s'' hw ⟨⟨u, rfl⟩, rfl, hd⟩
        rw [List.getElem?_map] at hw
        obtain ⟨c, hc, rfl⟩ := Option.map_eq_some_iff.mp hw
        have hm := List.mem_of_getElem? hc
        unfold m_law_natural_of_3
        simp
        split
        · rename_i h1
          have : isDig c = false := by
            cases z : isDig c with
            | false => rfl
            | true => have := isDig_iff.mp z; omega
          rw [rNat_brc hm this]
          rfl
        · rename_i h1
          intro x hx
          rw [List.take_add_one, hc] at hx
          rcases List.mem_append.mp hx with h2 | h2
          · exact List.all_eq_true.mp hd x h2
          · simp at h2
            subst h2
            exact isDig_iff.mpr (by omega)
      · rintro ρ s'' ⟨⟨u, rfl⟩, rfl, hd⟩
        simp
        rw [List.length_map, List.take_length] at hd
        simpa using hd
    · rintro ρ' s'' ⟨⟨u, rfl⟩, rfl, hd⟩
      have ev : rNat t = some (digitsVal t) := by
        unfold rNat
        rw [if_neg]
        rintro (z | z | z)
        · exact hne z
        · exact h0 z
        · exact z hd
      simp [ev, wo_intS hne (show t.length ≤ 640 by omega) hd]
@[simp] theorem law_integer_eq {t : List Nat} {s : Sto} (ht : t.length ≤ 500) : f_law_integer_of [.str t] s = .ok (oW ((rInt t).map fun n => .int n)) s := by
  refine eqOk ?_
  unfold f_law_integer_of m_law_integer_of
  simp [startE]
  unfold m_law_integer_of_1
  simp [take1]
  refine ⟨by omega, ?_⟩
  split
  · rename_i h
    have l : t.tail.length ≤ 500 := by rw [List.length_tail]; omega
    simp [cut_from]
    rw [law_natural_eq l]
    refine ⟨by omega, ?_⟩
    unfold m_law_integer_of_2
    cases e : rNat t.tail with
    | none => simp [rInt, h, e]
    | some n =>
      simp [rInt, h, e]
      split
      · rfl
      · simp
  · rename_i h
    simp [ht]
    cases e : rNat t with
    | none => simp [rInt, h, e]
    | some n => simp [rInt, h, e]
@[simp] theorem law_common_eq {a b : Int} {s : Sto} : f_law_common [.int a, .int b] s = .ok (.int (Int.gcd a b : Nat)) s := by
  refine eqOk ?_
  unfold f_law_common m_law_common
  simp [startE, abs_if]
  refine nx_cut (fun ρ' s' => (∃ u, ρ' = [some (.int (Int.gcd a b : Nat)), some (.int 0), u]) ∧ s' = s) ?_ ?_
  · unfold m_law_common_1
    refine while_by (fun n ρ s' => ∃ (x y : Nat) (u : Option W), n = y ∧ ρ = [some (.int x), some (.int y), u] ∧ s' = s ∧ Nat.gcd x y = Int.gcd a b) ?_ ⟨a.natAbs, b.natAbs, _, rfl, rfl, rfl, rfl⟩
    rintro n ρ s' ⟨x, y, u, rfl, rfl, rfl, h⟩
    simp
    split
    · rename_i hy
      subst hy
      simp at h
      rw [h]
      simp
    · rename_i hy
      exact ⟨hy, _, Nat.mod_lt _ (by omega), n, ⟨rfl, by rw [fmod_nat]⟩, (gcd_step x n (by omega)).trans h⟩
  · rintro ρ' s' ⟨⟨u, rfl⟩, rfl⟩
    simp
@[simp] theorem law_zero_eq {d : Dm} {s : Sto} : f_law_zero [domW d] s = .ok (zeroW d) s := by
  refine eqOk ?_
  unfold f_law_zero m_law_zero
  cases d <;> (simp [startE, domW]; unfold m_law_zero_1; simp [zeroW]) <;> (unfold m_law_zero_2; simp)
theorem cut_12 (x : List Nat) : cut x (some 1) (some 2) = x.tail.take 1 := by
  unfold cut
  rw [show (1 : Int) = ((1 : Nat) : Int) from rfl, show (2 : Int) = ((2 : Nat) : Int) from rfl, HT.sIx_nat, HT.sIx_nat]
  match x with
  | [] => rfl
  | [c] => rfl
  | c :: d :: r =>
    have h1 : min 1 (c :: d :: r).length = 1 := by rw [List.length_cons]; omega
    have h2 : min 2 (c :: d :: r).length = 2 := by rw [List.length_cons, List.length_cons]; omega
    rw [h1, h2]
    rfl
theorem prI_of {n : Int} (h2 : 2 ≤ n) (h : ∀ k : Int, 2 ≤ k → k < 256 → k * k ≤ n → n % k ≠ 0) (hn : n ≤ 65521) : PrI n := by
  refine ⟨by omega, fun k hk hkk => h k hk ?_ hkk⟩
  refine Decidable.byContradiction fun z => ?_
  have := Int.mul_le_mul (show 256 ≤ k by omega) (show 256 ≤ k by omega) (by omega) (by omega)
  omega
theorem law_dom : ∀ {t : List Nat} {k : Nat} {s : Sto}, t.length ≤ 500 → lvl t < k → ∃ g, f_law_domain_of k [.str t] s = .ok (oW ((rDt t).map domW)) (s ++ g)
  | [], k, s, ht, hk => by
    obtain ⟨k, rfl⟩ : ∃ j, k = j + 1 := ⟨k - 1, by omega⟩
    refine eqG ?_
    unfold f_law_domain_of m_law_domain_of
    simp [startE]
    unfold m_law_domain_of_1
    simp
    rw [wo_inF at_last (by exact True.intro) (by simp [Fn])]
    simp
    unfold m_law_domain_of_2
    simp [cut_from]
    unfold m_law_domain_of_4
    simp [rDt]
  | x :: r, k, s, ht, hk => by
    obtain ⟨k, rfl⟩ : ∃ j, k = j + 1 := ⟨k - 1, by omega⟩
    have hr : r.length + 1 ≤ 500 := ht
    refine eqG ?_
    unfold f_law_domain_of m_law_domain_of
    simp [startE]
    unfold m_law_domain_of_1
    simp
    rw [wo_inF at_last (by exact True.intro) (by simp [Fn])]
    simp
    split
    · rename_i h
      rcases h with ⟨rfl, rfl⟩ | ⟨rfl, rfl⟩
      · rw [rDt_z]
        rfl
      · rw [rDt_q]
        rfl
    · rename_i hzq
      refine nx_cut (fun ρ' s' => ρ' = [some (.str (x :: r)), none, none, none] ∧ (∃ g, s' = s ++ g) ∧ ¬ (x = 80 ∧ r ≠ [90] ∧ r.head? ≠ some 80)) ?_ ?_
      · unfold m_law_domain_of_2
        simp [cut_from, cut_12, take1]
        refine ⟨by omega, ?_⟩
        split
        · rename_i hx
          subst hx
          refine ⟨by omega, ?_⟩
          split
          · rename_i h90
            exact fun _ h => absurd h90 h
          · rename_i h90
            refine ⟨by omega, ?_⟩
            split
            · rename_i h80
              exact fun _ _ => h80
            · rename_i h80
              refine ⟨by omega, ?_⟩
              have lk : lvl r < k := by
                have h1 : (1 : Nat) < k + 1 := hk
                unfold lvl
                rw [if_neg h80]
                omega
              obtain ⟨g, e⟩ := law_dom (s := s ++ [Cell.lst [W.str [90], W.str [81]]]) (show r.length ≤ 500 by omega) lk
              rw [e]
              simp
              unfold m_law_domain_of_3
              cases ed : rDt r with
              | none => simp [rDt_P h80, ed]
              | some d =>
                have hf := rDt_field ed h90 h80
                have e2 : domO (.p d) = some (.p d) := by
                  unfold domO
                  rw [if_pos (show IsD (.p d) from hf)]
                have hn : isNon (domW d) = false := by cases d <;> rfl
                simp [rDt_P h80, ed, e2, hn, domW]
        · exact fun h => by omega
      · rintro ρ' s' ⟨rfl, ⟨g, rfl⟩, hno⟩
        simp [cut_from]
        rw [law_natural_eq (show r.length ≤ 500 by omega)]
        refine ⟨by omega, ?_⟩
        have hz : x :: r ≠ [90] := fun z => hzq (.inl (by simpa using z))
        have hq : x :: r ≠ [81] := fun z => hzq (.inr (by simpa using z))
        have hno' : ¬ ((x :: r).head? = some 80 ∧ (x :: r).tail ≠ [90] ∧ (x :: r).tail.head? ≠ some 80) := fun z => hno ⟨by simpa using z.1, z.2.1, z.2.2⟩
        simp
        refine nx_cut (fun ρ' s' => ∃ n : Nat, ρ' = [some (.str (x :: r)), none, some (.int n), none] ∧ s' = s ++ g ∧ x = 70 ∧ rNat r = some n ∧ 2 ≤ n ∧ n ≤ 65521) ?_ ?_
        · unfold m_law_domain_of_4
          simp [take1]
          refine ⟨by omega, ?_⟩
          split
          · rename_i hx
            subst hx
            cases e : rNat r with
            | none => 
              simp
              rw [rDt_none hz hq hno' fun m _ hm => by rw [show (70 :: r).tail = r from rfl, e] at hm; cases hm]
              rfl
            | some n =>
              have nn : ¬ (2 ≤ n ∧ n ≤ 65521) → rDt (70 :: r) = none := fun h => rDt_none hz hq hno' fun m _ hm => by
                rw [show (70 :: r).tail = r from rfl, e] at hm
                cases hm
                exact h
              simp
              split
              · rw [nn (by omega)]
                rfl
              · split
                · rw [nn (by omega)]
                  rfl
                · exact ⟨n, rfl, rfl, by omega, by omega⟩
          · rename_i hx
            rw [rDt_none hz hq hno' fun m h _ => absurd (by simpa using h) hx]
            rfl
        · rintro ρ' s' ⟨n, rfl, rfl, rfl, hn, h2, h6⟩
          have eF : rDt (70 :: r) = domO (.f n) := by
            rw [rDt_F (rNat_short hn h6), hn]
            rfl
          refine nx_cut (fun ρ' s' => (∃ u, ρ' = [some (.str (70 :: r)), none, some (.int n), u]) ∧ s' = s ++ g ∧ PrI n) ?_ ?_
          · unfold m_law_domain_of_5
            simp
            refine for_by0 (fun i ρ' s' => (∃ u, ρ' = [some (.str (70 :: r)), none, some (.int n), u]) ∧ s' = s ++ g ∧ ∀ k : Int, 2 ≤ k → k < 2 + i → k * k ≤ n → (n : Int) % k ≠ 0) ?_ ?_ ⟨⟨_, rfl⟩, rfl, fun k h1 h2 => by omega⟩
            · rintro i w ρ s' hw ⟨⟨u, rfl⟩, rfl, hk⟩
              obtain ⟨hi, rfl⟩ := rangeL_get hw
              have hi' : i < 254 := hi
              unfold m_law_domain_of_6
              simp
              have nf : (n : Int) % (2 + i) = 0 → (2 + (i : Int)) * (2 + i) ≤ n → W.non = oW (Option.map domW (rDt (70 :: r))) := fun h1 h2 => by
                have : domO (.f (n : Int)) = none := by
                  unfold domO
                  rw [if_neg (fun (z : IsD (.f (n : Int))) => z.2.2 (2 + i) (by omega) h2 h1)]
                rw [eF, this]
                rfl
              have step : ((2 + (i : Int)) * (2 + i) ≤ n → (n : Int) % (2 + i) ≠ 0) → ∀ (k : Int), 2 ≤ k → k < 2 + ((i : Int) + 1) → k * k ≤ n → ¬ (n : Int) % k = 0 := fun hs k h1 h2 h3 => by
                by_cases e : k = 2 + i
                · subst e
                  exact hs h3
                · exact hk k h1 (by omega) h3
              refine ⟨.inl (by omega), ?_⟩
              split
              · rename_i hle
                refine ⟨by omega, ?_⟩
                rw [Int.fmod_eq_emod_of_nonneg _ (by omega)]
                split
                · rename_i h0
                  exact nf h0 hle
                · rename_i h0
                  exact step fun _ => h0
              · rename_i hle
                exact step fun z => absurd z hle
            · rintro ρ s' ⟨⟨u, rfl⟩, rfl, hk⟩
              simp
              exact prI_of (by omega) (fun k h1 h2 => hk k h1 (by rw [rangeL_len]; exact h2)) (by omega)
          · rintro ρ' s' ⟨⟨u, rfl⟩, rfl, hp⟩
            have e2 : domO (.f (n : Int)) = some (.f n) := by
              unfold domO
              rw [if_pos (show IsD (.f (n : Int)) from ⟨⟨by omega, by omega⟩, hp⟩)]
            simp [eF, e2, domW]
theorem brc_eq (c : Nat) : ((if c = 123 then (1 : Int) else 0) - if c = 125 then 1 else 0) = brc c := by
  unfold brc
  by_cases h : c = 123
  · subst h
    rfl
  · rw [if_neg h, if_neg h]
    split <;> rfl
theorem law_pieces_eq {t : List Nat} {s : Sto} (ht : t.length ≤ 500) : f_law_pieces [.str t] s = .ok (.ref s.length) (s ++ [.lst ((pcs [] 0 t).map .str)]) := by
  have go : WM (f_law_pieces [.str t] s) (fun w s' => w = .ref s.length ∧ s' = s ++ [.lst ((pcs [] 0 t).map .str)]) fun _ _ => False := by
    unfold f_law_pieces m_law_pieces
    simp [startE]
    refine nx_cut (fun ρ' s' => ∃ k u, ρ' = [some (.str t), some (.ref s.length), some (.int k), u] ∧ s' = s ++ [.lst ((pcs [] 0 t).map .str)]) ?_ ?_
    · unfold m_law_pieces_1
      simp
      refine for_by0 (fun i ρ' s' => ∃ cur k u acc, ρ' = [some (.str t), some (.ref s.length), some (.int k), u] ∧ s' = s ++ [.lst ((acc ++ [cur]).map .str)] ∧ acc ++ pcs cur k (t.drop i) = pcs [] 0 t ∧ cur.length ≤ i ∧ acc.length ≤ i) ?_ ?_ ⟨[], 0, none, [], rfl, rfl, rfl, Nat.le_refl _, Nat.le_refl _⟩
      · rintro i w ρ s' hw ⟨cur, k, u, acc, rfl, rfl, hp, h1, h2⟩
        rw [List.getElem?_map] at hw
        obtain ⟨c, hc, rfl⟩ := Option.map_eq_some_iff.mp hw
        have hi := (List.getElem?_eq_some_iff.mp hc).1
        have hdr : t.drop i = c :: t.drop (i + 1) := by
          rw [List.drop_eq_getElem_cons hi, (List.getElem?_eq_some_iff.mp hc).2]
        rw [hdr, pcs] at hp
        simp
        unfold m_law_pieces_2
        simp
        have e1 : ((k + if c = 123 then (1 : Int) else 0) - if c = 125 then 1 else 0) = k + brc c := by rw [← brc_eq]; omega
        rw [e1]
        by_cases hs : c = 32 ∧ k = 0
        · obtain ⟨rfl, rfl⟩ := hs
          have b0 : brc 32 = 0 := rfl
          rw [if_pos ⟨rfl, rfl⟩] at hp
          rw [if_pos rfl, b0, Int.add_zero, if_pos rfl]
          refine ⟨isT_L at_last, ?_⟩
          rw [wo_appendL at_last, set_last]
          refine ⟨by rw [List.length_append, List.length_map, szl]; simp; omega, [], acc ++ [cur], by simp, ?_, by simp, by simp; omega⟩
          rw [← hp, List.append_assoc]
          rfl
        · rw [if_neg hs] at hp
          have key : ∀ {G H : Prop}, G → (if c = 32 then if k + brc c = 0 then H else G else G) := fun {G H} g => by
            split
            · rename_i h1
              rw [if_neg (fun z => hs ⟨h1, by subst h1; have b0 : brc 32 = 0 := rfl; omega⟩)]
              exact g
            · exact g
          refine key ?_
          rw [wo_ixL at_last, atI_m1]
          refine ⟨.str cur, by simp, ?_⟩
          rw [wo_addS]
          refine ⟨by rw [szl]; simp; omega, ?_⟩
          rw [setAt_L at_last]
          have ei : ixN (List.map W.str acc ++ [W.str cur]).length (-1) = some acc.length := by
            unfold ixN
            simp
            omega
          rw [ei]
          refine ⟨_, rfl, cur ++ [c], acc, ?_, hp, by simp; omega, by omega⟩
          dsimp only
          rw [set_last, List.set_append_right _ _ (by simp)]
          simp
      · rintro ρ s' ⟨cur, k, u, acc, rfl, rfl, hp, h1, h2⟩
        rw [List.length_map] at hp h2
        rw [List.drop_length, pcs] at hp
        simp
        rw [← hp]
        simp
    · rintro ρ' s' ⟨k, u, rfl, rfl⟩
      simp
  obtain ⟨a, s', e, rfl, rfl⟩ := WM.ok go
  exact e
/-! elements -/
open Classical in
theorem mapO_oW {f : List Nat → Option W} : ∀ {xs : List (List Nat)}, (∀ x ∈ xs, f x ≠ some .non) → mapO f xs = if W.non ∈ xs.map (fun x => oW (f x)) then none else some (xs.map fun x => oW (f x))
  | [], _ => by simp [mapO]
  | x :: xs, h => by
    rw [mapO, mapO_oW fun y hy => h y (List.mem_cons_of_mem _ hy)]
    cases e : f x with
    | none => simp [e]
    | some y =>
      have hy : y ≠ .non := fun z => h x (List.mem_cons_self ..) (by rw [e, z])
      simp only [List.map_cons, List.mem_cons, e, oW_some]
      by_cases hm : W.non ∈ xs.map (fun x => oW (f x))
      · rw [if_pos hm, if_pos (.inr hm)]
      · rw [if_neg hm, if_neg (fun z => z.elim (fun z => hy z.symm) hm)]
/-- a comprehension of total readings -/
theorem map_comp {v n : Nat} {m : Env → M W} {ρ : Env} {f : List Nat → W} {xs : List (List Nat)} {s0 : Sto} {Q : List W → Sto → Prop} {X : Er → Sto → Prop}
    (hn : xs.length ≤ 16000000) (hat : At s0 n (xs.map .str))
    (hm : ∀ x s, x ∈ xs → ∃ g, m (ρ.set v (some (.str x))) s = .ok (f x) (s ++ g))
    (q : ∀ g, Q (xs.map f) (s0 ++ g)) :
    WM (compN (some (n, xs.map .str)) (gN v) xYes m ρ (xs.map .str) [] s0) Q X := by
  refine comp_by (fun i acc s' => (∃ g, s' = s0 ++ g) ∧ acc = (xs.take i).map f ∧ i ≤ xs.length) ?_ ?_ ?_ ⟨⟨[], by simp⟩, by simp, Nat.zero_le _⟩
  · rintro i acc s' hi ⟨⟨g, rfl⟩, _⟩
    exact okL_at (hat.app' g)
  · rintro i w acc s' hw ⟨⟨g, rfl⟩, rfl, h2⟩
    rw [List.getElem?_map] at hw
    obtain ⟨c, hc, rfl⟩ := Option.map_eq_some_iff.mp hw
    have hi := (List.getElem?_eq_some_iff.mp hc).1
    obtain ⟨g', e⟩ := hm c (s0 ++ g) (List.mem_of_getElem? hc)
    simp
    rw [e]
    simp
    exact ⟨by omega, by rw [List.take_add_one, List.getElem?_map, hc]; rfl, hi⟩
  · rintro acc s' ⟨⟨g, rfl⟩, rfl, _⟩
    rw [List.length_map, List.take_length]
    exact q g
theorem dt_oW {d : Dm} {o : Option W} (h : ∀ x, o = some x → Shp d x) : Dt (dpt d + 1) (oW o) := by
  cases o with
  | none => simp [Dt]
  | some x => exact dt_shp (h x rfl)
theorem framed_inner_nil {o c : Nat} {t : List Nat} (h : framed o c t) (hi : inner t = []) : t = [o, c] := by
  obtain ⟨h1, h2, h3⟩ := h
  have := inner_len t
  rw [hi] at this
  match t, h1, h2, h3 with
  | [a, b], _, h2, h3 =>
    simp at h2 h3
    rw [h2, h3]
  | a :: b :: c :: r, _, _, _ => simp at this
theorem law_elem : ∀ {d : Dm} {k : Nat}, IsD d → dpt d < k → ∀ (t : List Nat) (s : Sto), t.length ≤ 500 → ∃ g, f_law_element_of k [domW d, .str t] s = .ok (oW (rEl d t)) (s ++ g)
  | .z, k, hd, hk => by
    obtain ⟨k, rfl⟩ : ∃ j, k = j + 1 := ⟨k - 1, by omega⟩
    intro t s ht
    refine eqG ?_
    unfold f_law_element_of m_law_element_of
    simp [startE, domW]
    unfold m_law_element_of_1
    simp
    unfold m_law_element_of_5
    simp [ht]
    unfold m_law_element_of_7
    simp
    have er : rEl .z t = flt .z ((rInt t).map .int) := by rw [rEl]
    cases e : rInt t with
    | none =>
      simp [er, e, flt_none]
    | some n =>
      simp
      unfold m_law_element_of_8
      simp [er, e]
      rw [flt_yes (d := .z) (x := .int n) ⟨n, rfl⟩]
      rfl
  | .f p, k, hd, hk => by
    obtain ⟨k, rfl⟩ : ∃ j, k = j + 1 := ⟨k - 1, by omega⟩
    intro t s ht
    refine eqG ?_
    unfold f_law_element_of m_law_element_of
    simp [startE, domW]
    unfold m_law_element_of_1
    simp
    unfold m_law_element_of_5
    simp [ht]
    unfold m_law_element_of_7
    simp
    have er : rEl (.f p) t = flt (.f p) ((rInt t).map .int) := by rw [rEl]
    cases e : rInt t with
    | none =>
      simp [er, e, flt_none]
    | some n =>
      have no : ¬ (0 ≤ n ∧ n < p) → W.non = oW (rEl (.f p) t) := fun h => by
        have nb : ¬ Bel (.f p) (.int n) := fun ⟨m, e, h1, h2⟩ => by cases e; exact h ⟨h1, h2⟩
        rw [er, e, show Option.map W.int (some n) = some (.int n) from rfl, flt_no nb]
        rfl
      simp
      unfold m_law_element_of_8
      simp
      split
      · split
        · have yb : Bel (.f p) (.int n) := ⟨n, rfl, by assumption, by assumption⟩
          rw [er, e, show Option.map W.int (some n) = some (.int n) from rfl, flt_yes yb]
          rfl
        · exact no (by omega)
      · exact no (by omega)
  | .q, k, hd, hk => by
    obtain ⟨k, rfl⟩ : ∃ j, k = j + 1 := ⟨k - 1, by omega⟩
    intro t s ht
    refine eqG ?_
    unfold f_law_element_of m_law_element_of
    simp [startE, domW]
    unfold m_law_element_of_1
    simp
    unfold m_law_element_of_5
    simp [ht]
    split
    · rename_i h47
      obtain ⟨a, b, l, hl⟩ := spl1_two t [] h47
      have er : rEl .q t = flt .q (preL (a :: b :: l)) := by rw [rEl]; unfold preQ; rw [hl]
      have small : ∀ x ∈ a :: b :: l, x.length ≤ 500 := fun x hx => by
        have := spl_small [47] t 0 [] x (by rw [hl]; exact hx)
        simp at this
        omega
      have ha := small a (by simp)
      have hb := small b (by simp)
      rw [hl]
      simp [wo_ixL at_last, ha, hb]
      refine ⟨by omega, ?_⟩
      unfold m_law_element_of_6
      simp [wo_lenL at_last]
      have no : preL (a :: b :: l) = none → W.non = oW (rEl .q t) := fun h => by rw [er, h]; rfl
      split
      · rename_i hl2
        have : l = [] := List.length_eq_zero_iff.mp (by omega)
        subst this
        rw [preL2] at no er
        cases e : rInt a with
        | none => exact no (by rw [e])
        | some n =>
          cases e2 : rNat b with
          | none =>
            simp
            exact no (by rw [e, e2])
          | some m =>
            rw [e, e2] at no er
            dsimp only at no er
            simp
            split
            · exact no (by rw [if_neg (by omega)])
            · rw [if_pos (by omega)] at er
              split
              · rename_i hg
                rw [er, flt_yes (d := .q) (x := .tup [.int n, .int m]) ⟨n, m, rfl, by omega, by omega⟩]
                rfl
              · rename_i hg
                have nb : ¬ Bel .q (.tup [.int n, .int m]) := fun ⟨a, b, e, _, h⟩ => by cases e; exact hg (by omega)
                rw [er, flt_no nb]
                rfl
      · rename_i hl2
        refine no ?_
        cases l with
        | nil => simp at hl2
        | cons c l => rw [preL3]
    · rename_i h47
      have er : rEl .q t = flt .q ((rInt t).map fun n => .tup [.int n, .int 1]) := by
        rw [rEl]
        unfold preQ
        rw [spl1_none t [] h47, List.nil_append, preL1]
      unfold m_law_element_of_7
      simp
      cases e : rInt t with
      | none =>
        simp [er, e, flt_none]
      | some n =>
        simp
        unfold m_law_element_of_8
        simp [er, e]
        rw [flt_yes (d := .q) (x := .tup [.int n, .int 1]) ⟨n, 1, rfl, by omega, by simp⟩]
        rfl
  | .p d, k, hd, hk => by
    have hk : dpt d + 1 < k := hk
    obtain ⟨k, rfl⟩ : ∃ j, k = j + 1 := ⟨k - 1, by omega⟩
    have hd' : IsD d := IsF.isD hd
    have ih := law_elem (d := d) (k := k) hd' (by omega)
    have er : ∀ t, rEl (.p d) t = flt (.p d) ((rLs (rEl d) 123 125 t).map .tup) := fun t => by rw [rEl]
    intro t s ht
    refine eqG ?_
    unfold f_law_element_of m_law_element_of
    simp [startE, domW]
    unfold m_law_element_of_1
    simp
    refine nx_cut (fun ρ' s' => ρ' = [some (.tup [.str [80], domW d]), some (.str t), none, none, none, none, none] ∧ s' = s ∧ t ≠ [123, 125]) ?_ ?_
    · unfold m_law_element_of_2
      simp
      intro h
      subst h
      rw [er]
      have : rLs (rEl d) 123 125 [123, 125] = some [] := by
        unfold rLs
        rw [if_pos (by decide), if_pos (by decide)]
      rw [this, show Option.map W.tup (some []) = some (.tup []) from rfl, flt_yes (d := .p d) (x := .tup []) ⟨[], rfl, by simp, by simp⟩]
      rfl
    · rintro ρ' s' ⟨rfl, rfl, hne⟩
      refine nx_cut (fun ρ' s'' => ρ' = [some (.tup [.str [80], domW d]), some (.str t), none, none, none, none, none] ∧ s'' = s' ∧ framed 123 125 t) ?_ ?_
      · unfold m_law_element_of_3
        simp
        have no : ¬ framed 123 125 t → W.non = oW (rEl (.p d) t) := fun h => by
          rw [er]
          unfold rLs
          rw [if_neg h]
          rfl
        have n3 : t.length < 3 → ¬ framed 123 125 t := fun h1 h2 => hne (framed_inner_nil h2 (List.length_eq_zero_iff.mp (by rw [inner_len]; omega)))
        refine ⟨by omega, ?_⟩
        split
        · exact no (n3 (by omega))
        · refine ⟨by omega, ?_⟩
          obtain ⟨x, hx⟩ : ∃ x, t[0]? = some x := ⟨t[0]'(by omega), List.getElem?_eq_getElem (by omega)⟩
          refine ⟨x, hx, ?_⟩
          rw [← List.head?_eq_getElem?] at hx
          split
          · rename_i hxo
            refine ⟨by omega, ?_⟩
            have hne : t ≠ [] := fun z => by rw [z] at hx; cases hx
            refine ⟨_, by rw [atI_m1]; exact List.getLast?_eq_getLast hne, ?_⟩
            split
            · rename_i hc
              exact ⟨by omega, by rw [hx, hxo], by rw [List.getLast?_eq_getLast hne, hc]⟩
            · rename_i hc
              exact no fun h => hc (by have := h.2.2; rw [List.getLast?_eq_getLast hne] at this; exact Option.some.inj this)
          · rename_i hxo
            exact no fun h => hxo (by have := h.2.1; rw [hx] at this; exact Option.some.inj this)
      · rintro ρ' s'' ⟨rfl, rfl, hfr⟩
        have hin : inner t ≠ [] := fun z => hne (framed_inner_nil hfr z)
        have hil : (inner t).length ≤ 500 := by rw [inner_len]; omega
        simp [cut_inner, wipeE]
        refine ⟨by omega, by omega, ?_⟩
        have hct := spl_count [32] (inner t) 0 []
        refine map_comp (f := fun x => oW (rEl d x)) (by omega) at_last (fun x s hx => ?_) (fun g => ?_)
        · have hx5 : x.length ≤ 500 := by
            have := spl_small [32] (inner t) 0 [] x hx
            simp at this
            omega
          obtain ⟨g, e⟩ := ih x s hx5
          refine ⟨g, ?_⟩
          refine eqOk ?_
          simp [e]
        · obtain ⟨s1, hs1, g1, hg⟩ : ∃ s1, s1 = s'' ++ [Cell.lst (List.map W.str (TL.spl [32] 0 [] (inner t)))] ++ g ∧ ∃ g', s1 = s'' ++ g' := ⟨_, rfl, _, by rw [List.append_assoc]⟩
          rw [← hs1]
          clear hs1
          have hps : TL.spl [32] 0 [] (inner t) ≠ [] := spl_ne _ _ _ _
          have ems : mapO (rEl d) (pcs [] 0 (inner t)) = mapO (rEl d) (TL.spl [32] 0 [] (inner t)) := mapO_split hd _
          generalize TL.spl [32] 0 [] (inner t) = ps at hps ems ⊢
          have nn : ∀ x ∈ ps, rEl d x ≠ some .non := fun x _ h => by
            have := (rEl_bel h).shp
            cases d <;> simp [Shp] at this
          rw [mapO_oW nn] at ems
          have erl : rLs (rEl d) 123 125 t = mapO (rEl d) (pcs [] 0 (inner t)) := by unfold rLs; rw [if_pos hfr, if_neg hin]
          rw [ems] at erl
          have dts : ∀ x ∈ ps.map (fun x => oW (rEl d x)), Dt 2 x := fun x hx => by
            obtain ⟨y, _, rfl⟩ := List.mem_map.mp hx
            refine (dt_oW fun x h => (rEl_bel h).shp).le ?_
            have := dpt_of_IsF hd
            omega
          unfold m_law_element_of_4
          simp [wo_ixL at_last]
          rw [wo_inDt at_last (m := 2) (by simp [Dt]) dts (by decide)]
          have bels : W.non ∉ ps.map (fun x => oW (rEl d x)) → ∀ x ∈ ps.map (fun x => oW (rEl d x)), Bel d x := fun h x hx => by
            obtain ⟨y, hy, rfl⟩ := List.mem_map.mp hx
            cases e : rEl d y with
            | none => exact absurd (List.mem_map.mpr ⟨y, hy, by rw [e]; rfl⟩) h
            | some z => exact rEl_bel e
          have hxs : ps.map (fun x => oW (rEl d x)) ≠ [] := by simpa using hps
          generalize ps.map (fun x => oW (rEl d x)) = xs at hxs bels dts erl ⊢
          have hr : ∃ g, s1 ++ [Cell.lst xs] = s'' ++ g := ⟨_, by rw [hg, List.append_assoc]⟩
          by_cases hm : W.non ∈ xs
          · rw [if_pos hm] at erl
            simp [hm]
            exact ⟨by rw [er, erl]; rfl, hr⟩
          · rw [if_neg hm] at erl
            obtain ⟨z, hz⟩ : ∃ z, xs.getLast? = some z := ⟨_, List.getLast?_eq_getLast hxs⟩
            simp [hm, wo_ixL at_last, atI_m1, hz]
            rw [wo_eqD (dts z (List.mem_of_getLast? hz)) (dt_zero d) (by decide) (by decide)]
            simp
            rw [er, erl, show Option.map W.tup (some xs) = some (.tup xs) from rfl]
            split
            · rename_i hzz
              have nb : ¬ Bel (.p d) (.tup xs) := fun ⟨ys, e, _, h⟩ => by
                cases e
                rw [hz, show z = zeroW d by simpa using hzz] at h
                exact h rfl
              rw [flt_no nb]
              exact ⟨rfl, hr⟩
            · rename_i hzz
              have yb : Bel (.p d) (.tup xs) := ⟨xs, rfl, bels hm, by rw [hz]; simpa using hzz⟩
              rw [flt_yes yb, wo_tupleL at_last]
              exact ⟨rfl, hr⟩
end ME

set_option Elab.async false
set_option linter.all false
set_option maxRecDepth 100000
set_option maxHeartbeats 1000000
/-! ### plain: the law's own readers, lists and matrices -/
namespace ME
open PySem PySem.Spec PyProof.Rows L2 PySem.NumText
open FL (isDig rNat rInt isDig_iff all_digits rNat_dg rInt_ic dg ic dg_len dg_digits dg_ne str_int ic_back)
theorem rEl_non {d : Dm} {x : List Nat} : rEl d x ≠ some .non := fun h => by
  have := (rEl_bel h).shp
  cases d <;> simp [Shp] at this
/-- what a list of pieces reads as -/
noncomputable def LF (d : Dm) (u : List Nat) : W := oW ((mapO (rEl d) (pcs [] 0 u)).map .tup)
theorem law_list {d : Dm} {u : List Nat} {s : Sto} (hd : IsD d) (hu : u.length ≤ 500) : ∃ g, f_law_list_of [domW d, .str u] s = .ok (LF d u) (s ++ g) := by
  have hdp := dpt_small hd
  refine eqG ?_
  unfold f_law_list_of m_law_list_of
  simp [startE, law_pieces_eq hu, wipeE]
  have hps := pcs_count u [] 0
  refine map_comp (f := fun x => oW (rEl d x)) (by omega) at_last (fun x s hx => ?_) (fun g => ?_)
  · have hx5 : x.length ≤ 500 := Nat.le_trans (pcs_small _ _ _ x hx) (by simpa using hu)
    obtain ⟨g, e⟩ := law_elem (k := 4) hd (by omega) x s hx5
    refine ⟨g, ?_⟩
    refine eqOk ?_
    simp [e]
  · obtain ⟨s1, hs1, g1, hg⟩ : ∃ s1, s1 = s ++ [Cell.lst (List.map W.str (pcs [] 0 u))] ++ g ∧ ∃ g', s1 = s ++ g' := ⟨_, rfl, _, by rw [List.append_assoc]⟩
    rw [← hs1]
    clear hs1
    unfold LF
    rw [mapO_oW fun x _ => rEl_non]
    have dts : ∀ x ∈ (pcs [] 0 u).map (fun x => oW (rEl d x)), Dt 3 x := fun x hx => by
      obtain ⟨y, _, rfl⟩ := List.mem_map.mp hx
      exact (dt_oW fun x h => (rEl_bel h).shp).le (by omega)
    generalize (pcs [] 0 u).map (fun x => oW (rEl d x)) = xs at dts ⊢
    have hr : ∃ g, s1 ++ [Cell.lst xs] = s ++ g := ⟨_, by rw [hg, List.append_assoc]⟩
    unfold m_law_list_of_1
    simp
    rw [wo_inDt at_last (m := 3) (by simp [Dt]) dts (by decide)]
    by_cases hm : W.non ∈ xs
    · rw [if_pos hm]
      simp [hm]
      exact hr
    · rw [if_neg hm]
      simp [hm, wo_tupleL at_last]
      exact hr
theorem law_vector {d : Dm} {t : List Nat} {s : Sto} (hd : IsD d) (ht : t.length ≤ 500) : ∃ g, f_law_vector_of [domW d, .str t] s = .ok (oW ((rLs (rEl d) 60 62 t).map .tup)) (s ++ g) := by
  refine eqG ?_
  unfold f_law_vector_of m_law_vector_of
  simp [startE]
  refine nx_cut (fun ρ' s'' => ρ' = [some (domW d), some (.str t)] ∧ s'' = s ∧ framed 60 62 t) ?_ ?_
  · unfold m_law_vector_of_1
    simp
    have no : ¬ framed 60 62 t → W.non = oW ((rLs (rEl d) 60 62 t).map .tup) := fun h => by
      unfold rLs
      rw [if_neg h]
      rfl
    refine ⟨by omega, ?_⟩
    split
    · exact no fun h => by have := h.1; omega
    · refine ⟨by omega, ?_⟩
      obtain ⟨x, hx⟩ : ∃ x, t[0]? = some x := ⟨t[0]'(by omega), List.getElem?_eq_getElem (by omega)⟩
      refine ⟨x, hx, ?_⟩
      rw [← List.head?_eq_getElem?] at hx
      split
      · rename_i hxo
        refine ⟨by omega, ?_⟩
        have hne : t ≠ [] := fun z => by rw [z] at hx; cases hx
        refine ⟨_, by rw [atI_m1]; exact List.getLast?_eq_getLast hne, ?_⟩
        split
        · rename_i hc
          exact ⟨by omega, by rw [hx, hxo], by rw [List.getLast?_eq_getLast hne, hc]⟩
        · rename_i hc
          exact no fun h => hc (by have := h.2.2; rw [List.getLast?_eq_getLast hne] at this; exact Option.some.inj this)
      · rename_i hxo
        exact no fun h => hxo (by have := h.2.1; rw [hx] at this; exact Option.some.inj this)
  · rintro ρ' s' ⟨rfl, rfl, hfr⟩
    have hil : (inner t).length ≤ 500 := by rw [inner_len]; omega
    unfold m_law_vector_of_2
    simp [cut_inner]
    split
    · rename_i h
      subst h
      have : rLs (rEl d) 60 62 [60, 62] = some [] := by
        unfold rLs
        rw [if_pos (by decide), if_pos (by decide)]
      rw [this]
      rfl
    · rename_i h
      refine ⟨by omega, ?_⟩
      have : rLs (rEl d) 60 62 t = mapO (rEl d) (pcs [] 0 (inner t)) := by
        unfold rLs
        rw [if_pos hfr, if_neg (fun z => h (framed_inner_nil hfr z))]
      rw [this]
      obtain ⟨g, e⟩ := law_list (s := s') hd hil
      rw [e]
      exact ⟨rfl, g, rfl⟩
theorem LF_some {d : Dm} {u : List Nat} (h : LF d u ≠ .non) : ∃ r, mapO (rEl d) (pcs [] 0 u) = some r ∧ LF d u = .tup r := by
  unfold LF at h ⊢
  cases e : mapO (rEl d) (pcs [] 0 u) with
  | none => rw [e] at h; exact absurd rfl h
  | some r => exact ⟨r, rfl, rfl⟩
theorem mapR_LF {d : Dm} : ∀ (xs : List (List Nat)), (W.non ∈ xs.map (LF d) → mapR (rEl d) xs = none) ∧ (W.non ∉ xs.map (LF d) → ∃ rows, mapR (rEl d) xs = some rows ∧ rows.map .tup = xs.map (LF d))
  | [] => ⟨(fun h => nomatch h), fun _ => ⟨[], rfl, rfl⟩⟩
  | x :: xs => by
    obtain ⟨h1, h2⟩ := mapR_LF xs
    cases e : mapO (rEl d) (pcs [] 0 x) with
    | none =>
      have el : LF d x = .non := by unfold LF; rw [e]; rfl
      refine ⟨fun _ => by rw [mapR, e], fun h => ?_⟩
      rw [List.map_cons, el] at h
      exact absurd (List.mem_cons_self ..) h
    | some r =>
      have el : LF d x = .tup r := by unfold LF; rw [e]; rfl
      rw [List.map_cons, el, mapR, e]
      dsimp only
      by_cases hm : W.non ∈ xs.map (LF d)
      · exact ⟨fun _ => by rw [h1 hm], fun h => absurd (List.mem_cons_of_mem _ hm) h⟩
      · obtain ⟨rows, e1, e2⟩ := h2 hm
        refine ⟨fun h => ?_, fun _ => ⟨r :: rows, by rw [e1], by rw [List.map_cons, e2]⟩⟩
        rcases List.mem_cons.mp h with h | h
        · cases h
        · exact absurd h hm
theorem wo_maxL {n : Nat} {s : Sto} {a b : Int} {Q : W → Sto → Prop} (h : At s n [.int a, .int b]) : WO (maxW [.ref n] s) Q = Q (.int (if b > a then b else a)) s := by
  have e : inList s [.ref n] = some [.int a, .int b] := by
    unfold inList
    dsimp only
    rw [show s[n]? = _ from h]
  show WO ((((inList s [.ref n]).bind getInts).bind maxL).map fun n => (.int n, s)) Q = _
  rw [e]
  rfl
theorem wo_minL {n : Nat} {s : Sto} {a b : Int} {Q : W → Sto → Prop} (h : At s n [.int a, .int b]) : WO (minW [.ref n] s) Q = Q (.int (if b < a then b else a)) s := by
  have e : inList s [.ref n] = some [.int a, .int b] := by
    unfold inList
    dsimp only
    rw [show s[n]? = _ from h]
  show WO ((((inList s [.ref n]).bind getInts).bind minL).map fun n => (.int n, s)) Q = _
  rw [e]
  rfl
theorem rep_one {a : W} (k : Nat) : rep k [a] = List.replicate k a := by
  unfold rep
  induction k with
  | zero => rfl
  | succ k ih => rw [List.replicate_succ, List.flatten_cons, ih]; rfl
def NV (x : List Nat) : W := match rNat x with
  | some n => .int (n : Nat)
  | none => .non
theorem NV_eq (x : List Nat) : oW ((rNat x).map fun n => W.int n) = NV x := by
  unfold NV
  cases rNat x <;> rfl
theorem NV_fn (x : List Nat) : Fn (NV x) := by
  unfold NV
  cases rNat x <;> exact True.intro
theorem law_natural_NV {t : List Nat} {s : Sto} (ht : t.length ≤ 500) : f_law_natural_of [.str t] s = .ok (NV t) s := by
  rw [← NV_eq]
  exact law_natural_eq ht
theorem law_matrix_rd {d : Dm} {t : List Nat} {s : Sto} (hd : IsD d) (ht : t.length ≤ 500) : ∃ g, f_law_matrix_of [domW d, .str t] s = .ok (oW (rMx d t)) (s ++ g) := by
  have hdp := dpt_small hd
  refine eqG ?_
  unfold f_law_matrix_of m_law_matrix_of
  simp [startE]
  refine nx_cut (fun ρ' s'' => ρ' = [some (domW d), some (.str t), none, none, none, none, none] ∧ s'' = s ∧ framed 91 93 t) ?_ ?_
  · unfold m_law_matrix_of_1
    simp
    have no : ¬ framed 91 93 t → W.non = oW (rMx d t) := fun h => by
      unfold rMx
      rw [if_neg h]
      rfl
    refine ⟨by omega, ?_⟩
    split
    · exact no fun h => by have := h.1; omega
    · refine ⟨by omega, ?_⟩
      obtain ⟨x, hx⟩ : ∃ x, t[0]? = some x := ⟨t[0]'(by omega), List.getElem?_eq_getElem (by omega)⟩
      refine ⟨x, hx, ?_⟩
      rw [← List.head?_eq_getElem?] at hx
      split
      · rename_i hxo
        refine ⟨by omega, ?_⟩
        have hne : t ≠ [] := fun z => by rw [z] at hx; cases hx
        refine ⟨_, by rw [atI_m1]; exact List.getLast?_eq_getLast hne, ?_⟩
        split
        · rename_i hc
          exact ⟨by omega, by rw [hx, hxo], by rw [List.getLast?_eq_getLast hne, hc]⟩
        · rename_i hc
          exact no fun h => hc (by have := h.2.2; rw [List.getLast?_eq_getLast hne] at this; exact Option.some.inj this)
      · rename_i hxo
        exact no fun h => hxo (by have := h.2.1; rw [hx] at this; exact Option.some.inj this)
  · rintro ρ' s' ⟨rfl, rfl, hfr⟩
    have hil : (inner t).length ≤ 500 := by rw [inner_len]; omega
    simp [cut_inner]
    refine ⟨by omega, ?_⟩
    unfold m_law_matrix_of_2
    simp
    split
    · rename_i h120
      have er : rMx d t = szL (TL.spl [120] 0 [] (inner t)) := by unfold rMx rSz; rw [if_pos hfr, if_pos h120]
      rw [er]
      have small : ∀ x ∈ TL.spl [120] 0 [] (inner t), x.length ≤ 500 := fun x hx => by
        have := spl_small [120] (inner t) 0 [] x hx
        simp at this
        omega
      have hct := spl_count [120] (inner t) 0 []
      refine ⟨by omega, ?_⟩
      simp [wipeE]
      refine map_comp (f := NV) (by omega) at_last (fun x s hx => ?_) (fun g => ?_)
      · refine ⟨[], eqOk ?_⟩
        simp
        rw [law_natural_NV (small x hx)]
        simp
      · have hA : At (s' ++ [Cell.lst (List.map W.str (TL.spl [120] 0 [] (inner t)))] ++ g) s'.length (List.map W.str (TL.spl [120] 0 [] (inner t))) := at_last.app' g
        obtain ⟨s1, hs1, g1, hg⟩ : ∃ s1, s1 = s' ++ [Cell.lst (List.map W.str (TL.spl [120] 0 [] (inner t)))] ++ g ∧ ∃ g', s1 = s' ++ g' := ⟨_, rfl, _, by rw [List.append_assoc]⟩
        rw [← hs1] at hA ⊢
        clear hs1
        generalize TL.spl [120] 0 [] (inner t) = l at hA small ⊢
        have hA2 := hA.app' [Cell.lst (l.map NV)]
        have hr : ∃ g, s1 ++ [Cell.lst (l.map NV)] = s' ++ g := ⟨_, by rw [hg, List.append_assoc]⟩
        have hin : ∀ (Q : W → Sto → Prop), WO (inW W.non (W.ref s1.length) (s1 ++ [Cell.lst (l.map NV)])) Q = Q (.bl (open Classical in decide (W.non ∈ l.map NV))) (s1 ++ [Cell.lst (l.map NV)]) := fun Q => wo_inF at_last True.intro (fun x hx => by
          obtain ⟨y, _, rfl⟩ := List.mem_map.mp hx
          exact NV_fn y)
        unfold m_law_matrix_of_3
        simp [wo_lenL hA2]
        match l, hA2, hr, hin with
        | [], _, hr, _ => simpa [szL] using hr
        | [a], _, hr, _ => simpa [szL] using hr
        | a :: b :: c :: r, _, hr, _ =>
          rw [if_neg (by simp; omega)]
          exact ⟨rfl, hr⟩
        | [a, b], _, hr, hin =>
          simp at hin hr
          simp [hin]
          have es : ∀ {m n : Nat}, rNat a = some m → rNat b = some n → szL [a, b] = if (0 < m ∧ 0 < n) ∨ 1000 < m ∨ 1000 < n then none else some (.tup [.int (m : Int), .int (n : Int), .tup (List.replicate m (.tup []))]) := fun {m n} e e2 => by
            unfold szL
            dsimp only
            rw [e, e2]
          cases e : rNat a with
          | none =>
            have : NV a = .non := by unfold NV; rw [e]
            simp [this, szL, e]
            simpa [this] using hr
          | some m =>
            have ea : NV a = .int m := by unfold NV; rw [e]
            cases e2 : rNat b with
            | none =>
              have : NV b = .non := by unfold NV; rw [e2]
              simp [this, szL, e, e2]
              simpa [this] using hr
            | some n =>
              have eb : NV b = .int n := by unfold NV; rw [e2]
              have es' := es e e2
              simp [ea, eb] at hr ⊢
              simp [wo_maxL at_last, wo_minL at_last, wo_ixL at_last, rep_one]
              have hmx : (1000 < if m < n then (n : Int) else (m : Int)) ↔ (1000 < m ∨ 1000 < n) := by split <;> omega
              have hmn : (0 < if n < m then (n : Int) else (m : Int)) ↔ (0 < m ∧ 0 < n) := by split <;> omega
              simp only [hmx, hmn]
              split
              · rename_i h
                rw [es', if_pos (.inr h)]
                exact ⟨rfl, hr⟩
              · rename_i h
                split
                · rename_i h0
                  rw [es', if_pos (.inl h0)]
                  exact ⟨rfl, hr⟩
                · rename_i h0
                  rw [es', if_neg (fun z => z.elim h0 h)]
                  exact ⟨by omega, rfl, hr⟩
    · rename_i h120
      have er : rMx d t = (mapR (rEl d) (TL.spl [59, 32] 0 [] (inner t))).bind mxOf := by unfold rMx; rw [if_pos hfr, if_neg h120]
      have hsm : ∀ x ∈ TL.spl [59, 32] 0 [] (inner t), x.length ≤ 500 := fun x hx => by
        have := spl_small [59, 32] (inner t) 0 [] x hx
        simp at this
        omega
      have hct := spl_count [59, 32] (inner t) 0 []
      have hne := spl_ne [59, 32] (inner t) 0 []
      simp [wipeE]
      refine ⟨by omega, ?_⟩
      refine map_comp (f := LF d) (by omega) at_last (fun x s hx => ?_) (fun g => ?_)
      · obtain ⟨g, e⟩ := law_list (s := s) hd (hsm x hx)
        refine ⟨g, eqOk ?_⟩
        simp [e]
      · obtain ⟨s1, hs1, g1, hg⟩ : ∃ s1, s1 = s' ++ [Cell.lst (List.map W.str (TL.spl [59, 32] 0 [] (inner t)))] ++ g ∧ ∃ g', s1 = s' ++ g' := ⟨_, rfl, _, by rw [List.append_assoc]⟩
        rw [← hs1]
        clear hs1
        generalize TL.spl [59, 32] 0 [] (inner t) = l at hsm hne er ⊢
        obtain ⟨hm1, hm2⟩ := mapR_LF (d := d) l
        have hr : ∃ g, s1 ++ [Cell.lst (l.map (LF d))] = s' ++ g := ⟨_, by rw [hg, List.append_assoc]⟩
        have dts : ∀ x ∈ l.map (LF d), Dt 4 x := fun x hx => by
          obtain ⟨u, _, rfl⟩ := List.mem_map.mp hx
          unfold LF
          cases e : mapO (rEl d) (pcs [] 0 u) with
          | none => simp [Dt]
          | some r =>
            simp [Dt]
            exact fun y hy => (dt_shp (mapO_all (p := Shp d) (fun t x h => (rEl_bel h).shp) e y hy)).le (by omega)
        unfold m_law_matrix_of_4
        simp
        rw [wo_inDt at_last (m := 4) (by simp [Dt]) dts (by decide)]
        by_cases hm : W.non ∈ l.map (LF d)
        · have e1 := hm1 hm
          rw [er, e1]
          simp at hm
          simp [hm]
          simpa using hr
        · obtain ⟨rows, e1, e2⟩ := hm2 hm
          rw [er, e1]
          rw [← e2] at hm hr ⊢
          simp
          have hrn : rows ≠ [] := fun z => by
            rw [z] at e2
            exact hne (by simpa using e2.symm)
          obtain ⟨r, rs, rfl⟩ := List.exists_cons_of_ne_nil hrn
          have emx : mxOf (r :: rs) = if ∀ x ∈ r :: rs, x.length = r.length then some (.tup [.int (((r :: rs).length : Nat) : Int), .int ((r.length : Nat) : Int), .tup ((r :: rs).map .tup)]) else none := rfl
          refine nx_cut (fun ρ' s'' => (∃ u, ρ' = [some (domW d), some (.str t), some (.str (inner t)), some (.ref s1.length), none, u, none]) ∧ s'' = s1 ++ [Cell.lst ((r :: rs).map W.tup)] ∧ ∀ x ∈ r :: rs, x.length = r.length) ?_ ?_
          · unfold m_law_matrix_of_5
            have hat : At (s1 ++ [Cell.lst ((r :: rs).map W.tup)]) s1.length ((r :: rs).map W.tup) := at_last
            simp only [ws_for, wm_iVal, wm_eVar]
            refine ⟨_, rfl, ?_⟩
            dsimp only
            rw [show (s1 ++ [Cell.lst ((r :: rs).map W.tup)])[s1.length]? = _ from hat]
            dsimp only
            refine for_by (fun i ρ' s'' => (∃ u, ρ' = [some (domW d), some (.str t), some (.str (inner t)), some (.ref s1.length), none, u, none]) ∧ s'' = s1 ++ [Cell.lst ((r :: rs).map W.tup)] ∧ ∀ x ∈ (r :: rs).take i, x.length = r.length) ?_ ?_ ?_ ⟨⟨_, rfl⟩, rfl, by simp⟩
            · rintro i ρ s'' hi ⟨_, rfl, _⟩
              exact okL_at hat
            · rintro i w ρ s'' hw ⟨⟨u, rfl⟩, rfl, hal⟩
              rw [List.getElem?_map] at hw
              obtain ⟨r', hc, rfl⟩ := Option.map_eq_some_iff.mp hw
              unfold m_law_matrix_of_6
              simp [wo_ixL at_last]
              split
              · rename_i hl
                have all : ∀ x ∈ (r :: rs).take (i + 1), x.length = r.length := fun x hx => by
                  rw [List.take_add_one, hc] at hx
                  rcases List.mem_append.mp hx with h1 | h1
                  · exact hal x h1
                  · simp at h1
                    rw [h1]
                    omega
                intro a ha
                exact all a (by rw [List.take_succ_cons]; exact List.mem_cons_of_mem _ ha)
              · rename_i hl
                rw [emx, if_neg (fun z => hl (by rw [z r' (List.mem_of_getElem? hc)]))]
                exact ⟨rfl, by simpa using hr⟩
            · rintro ρ s'' ⟨⟨u, rfl⟩, rfl, hal⟩
              rw [List.length_map, List.take_length] at hal
              exact ⟨⟨_, rfl⟩, rfl, hal⟩
          · rintro ρ' s'' ⟨⟨u, rfl⟩, rfl, hal⟩
            rw [emx, if_pos hal]
            simp [wo_lenL at_last, wo_ixL at_last, wo_tupleL at_last]
            simpa using hr
/-- what the text stands for: kind 0 a domain, 1 an element, 2 a vector, 3 a matrix -/
noncomputable def rK (k : Nat) (d : Dm) (t : List Nat) : Option W :=
  if k = 0 then (rDt t).map domW else if k = 1 then rEl d t else if k = 2 then (rLs (rEl d) 60 62 t).map .tup else rMx d t
theorem lvl_le (t : List Nat) : lvl t < 2 := by unfold lvl; split <;> omega
theorem due_ok {k : Nat} {d : Dm} {t : List Nat} {s : Sto} (hk : k < 4) (hd : IsD d) (ht : t.length ≤ 500) : ∃ g, f_law_due [.int (k : Nat), domW d, .str t] s = .ok (oW (rK k d t)) (s ++ g) := by
  have hdp := dpt_small hd
  have hlv := lvl_le t
  refine eqG ?_
  unfold f_law_due m_law_due rK m_law_due_1 m_law_due_2 m_law_due_3
  obtain rfl | rfl | rfl | rfl : k = 0 ∨ k = 1 ∨ k = 2 ∨ k = 3 := by omega
  · simp [startE]
    obtain ⟨g, e⟩ := law_dom (k := 4) (s := s) ht (by omega)
    rw [e]
    exact ⟨rfl, g, rfl⟩
  · simp [startE]
    obtain ⟨g, e⟩ := law_elem (k := 4) hd (by omega) t s ht
    rw [e]
    exact ⟨rfl, g, rfl⟩
  · simp [startE]
    obtain ⟨g, e⟩ := law_vector (s := s) hd ht
    rw [e]
    exact ⟨rfl, g, rfl⟩
  · simp [startE]
    obtain ⟨g, e⟩ := law_matrix_rd (s := s) hd ht
    rw [e]
    exact ⟨rfl, g, rfl⟩
/-- the list that the reading hands back -/
def oL : Option W → List W
  | some w => [w]
  | none => []
theorem read_ok {k : Nat} {d : Dm} {t : List Nat} {s : Sto} (hk : k < 4) (hd : IsD d) (ht : t.length ≤ 500) : ∃ g n, f_law_read [.int (k : Nat), domW d, .str t] s = .ok (.ref n) (s ++ g) ∧ At (s ++ g) n (oL (rK k d t)) := by
  have hdp := dpt_small hd
  have hlv := lvl_le t
  have go : WM (f_law_read [.int (k : Nat), domW d, .str t] s) (fun w s' => ∃ n g, w = .ref n ∧ s' = s ++ g ∧ At s' n (oL (rK k d t))) fun _ _ => False := by
    have fin : ∀ {o : Option W} {s' : Sto} {Q : W → Sto → Prop} {X : Er → Sto → Prop}, (∃ g, s' = s ++ g) → (∀ x, o = some x → Q x s') → (o = none → X TE s') → WM (toR o s') Q X := fun _ h1 h2 => toR_wm h1 h2
    unfold f_law_read m_law_read m_law_read_1 rK m_law_read_2 m_law_read_3 m_law_read_4
    obtain rfl | rfl | rfl | rfl : k = 0 ∨ k = 1 ∨ k = 2 ∨ k = 3 := by omega
    · simp [startE, ws_tryAs, caught_law_read, msu_law_read]
      rw [dom_short (k := 4) ht (by omega)]
      refine toR_wm (fun x hx => ?_) (fun hx => ?_)
      · simp [hx, oL, At]
      · simp [hx, oL, At, trK]
    · simp [startE, ws_tryAs, caught_law_read, msu_law_read]
      obtain ⟨g, e⟩ := elem_ok (k := 6) hd (by omega) t s ht
      rw [e]
      refine toR_wm (fun x hx => ?_) (fun hx => ?_)
      · simp [hx, oL, At]
      · simp [hx, oL, At, trK]
    · simp [startE, ws_tryAs, caught_law_read, msu_law_read]
      obtain ⟨g, e⟩ := vector_ok (s := s) hd ht
      rw [e]
      refine toR_wm (fun x hx => ?_) (fun hx => ?_)
      · simp [hx, oL, At]
      · simp [hx, oL, At, trK]
    · simp [startE, ws_tryAs, caught_law_read, msu_law_read]
      obtain ⟨g, e⟩ := matrix_ok (s := s) hd ht
      rw [e]
      refine toR_wm (fun x hx => ?_) (fun hx => ?_)
      · simp [hx, oL, At]
      · simp [hx, oL, At, trK]
  obtain ⟨a, s', e, n, g, rfl, rfl, h⟩ := WM.ok go
  exact ⟨g, n, e, h⟩
end ME

set_option Elab.async false
set_option linter.all false
set_option maxRecDepth 100000
set_option maxHeartbeats 1000000
/-! ### plain: what the law draws -/
namespace ME
open PySem PySem.Spec PyProof.Rows L2 PySem.NumText
open FL (isDig rNat rInt isDig_iff all_digits rNat_dg rInt_ic dg ic dg_len dg_digits dg_ne str_int ic_back)
theorem cut_63 {ns : List Int} (h : ns.length ≤ 63) : cut (ns.map W.int) none (some 63) = ns.map .int := by
  unfold cut
  rw [HT.sIx_none, show (63 : Int) = ((63 : Nat) : Int) from rfl, HT.sIx_nat, List.drop_zero, Nat.sub_zero, Nat.min_eq_right (by rw [List.length_map]; exact h), List.take_of_length_le (Nat.le_refl _)]
theorem start_wm {ns : List Int} {s : Sto} {Q : W → Sto → Prop} {X : Er → Sto → Prop} (h : ns.length ≤ 63)
    (q : ∀ r s', CU s' r → Q (.ref r) s') : WM (f_law_start [.scr ns] s) Q X := by
  unfold f_law_start m_law_start
  simp [startE, slW, wipeE, cut_63 h]
  refine comp_by (fun i acc s' => s' = s ++ [Cell.lst (ns.map W.int)] ∧ acc = (ns.take i).map W.int ∧ i ≤ ns.length) ?_ ?_ ?_ ⟨rfl, rfl, Nat.zero_le _⟩
  · rintro i acc s' hi ⟨rfl, _⟩
    exact okL_at at_last
  · rintro i w acc s' hw ⟨rfl, rfl, h2⟩
    rw [List.getElem?_map] at hw
    obtain ⟨c, hc, rfl⟩ := Option.map_eq_some_iff.mp hw
    have hi := (List.getElem?_eq_some_iff.mp hc).1
    simp
    exact ⟨by omega, by rw [List.take_add_one, List.getElem?_map, hc]; rfl, hi⟩
  · rintro acc s' ⟨rfl, rfl, _⟩
    rw [List.length_map, List.take_length]
    refine q _ _ ⟨s.length + 1, 0, 0, 0, ns, ?_, ?_, ?_, by decide, by decide⟩
    · have := at_last (s := s ++ [Cell.lst (List.map W.int ns)] ++ [Cell.lst (List.map W.int ns)]) (xs := [W.ref (s.length + 1), W.int 0, W.int 0, W.int 0])
      simpa using this
    · have := (at_last (s := s ++ [Cell.lst (List.map W.int ns)]) (xs := List.map W.int ns)).app [Cell.lst [W.ref (s.length + 1), W.int 0, W.int 0, W.int 0]]
      simpa using this
    · simp
theorem pr_of (n : Nat) (h : 2 ≤ n ∧ n ≤ 65521) (hd : ∀ k < 256, 2 ≤ k → k * k ≤ n → n % k ≠ 0) : IsD (.f (n : Int)) := by
  refine ⟨⟨by omega, by omega⟩, prI_of (by omega) (fun k h1 h2 h3 => ?_) (by omega)⟩
  obtain ⟨j, rfl⟩ := Int.eq_ofNat_of_zero_le (show 0 ≤ k by omega)
  have h3' : j * j ≤ n := by exact_mod_cast h3
  have := hd j (by omega) (by omega) h3'
  exact_mod_cast this
theorem field_draws : IsD (.f 2) ∧ IsD (.f 3) ∧ IsD (.f 5) ∧ IsD (.f 7) ∧ IsD (.f 101) ∧ IsD (.f 65521) :=
  ⟨pr_of 2 (by decide) (by decide +kernel), pr_of 3 (by decide) (by decide +kernel), pr_of 5 (by decide) (by decide +kernel), pr_of 7 (by decide) (by decide +kernel), pr_of 101 (by decide) (by decide +kernel), pr_of 65521 (by decide) (by decide +kernel)⟩
theorem atI_map {α : Type} {f : α → W} {l : List α} {k : Int} (h0 : 0 ≤ k) (h1 : k < l.length) : ∃ x ∈ l, atI (l.map f) k = some (f x) := by
  obtain ⟨j, rfl⟩ := Int.eq_ofNat_of_zero_le h0
  have hj : j < l.length := by omega
  refine ⟨l[j], List.getElem_mem hj, ?_⟩
  rw [atI_nat', List.getElem?_map, List.getElem?_eq_getElem hj]
  rfl
abbrev F8 : List Dm := [.q, .q, .f 2, .f 3, .f 5, .f 7, .f 101, .f 65521]
theorem F8_ok : ∀ d ∈ F8, IsF d := by
  obtain ⟨a, b, c, d, e, f⟩ := field_draws
  simp [F8]
  exact ⟨True.intro, a, b, c, d, e, f⟩
theorem domain_wm {s : Sto} {r : Nat} {Q : W → Sto → Prop} {X : Er → Sto → Prop} (x : CU s r)
    (q : ∀ d s', IsD d → CU s' r → Up r s s' → Q (domW d) s') : WM (f_law_domain [.ref r] s) Q X := by
  unfold f_law_domain m_law_domain
  simp [startE]
  have hat : At (s ++ [Cell.lst (F8.map domW)]) s.length (F8.map domW) := at_last
  have hn : s.length ≠ r := Nat.ne_of_gt x.lt
  refine take_wm (x.app [Cell.lst (F8.map domW)]) (by decide) (by decide) fun n1 s1 h0 h1 x1 u1 l1 => ?_
  refine take_wm x1 (by decide) (by decide) fun n2 s2 h2 h3 x2 u2 l2 => ?_
  have hat2 := u2.at (u1.at hat hn) hn
  obtain ⟨d, hd, e⟩ := atI_map (f := domW) (l := F8) h2 h3
  have hf := F8_ok d hd
  rw [wo_ixL hat2]
  refine ⟨_, e, ?_⟩
  obtain ⟨d', hd', e'⟩ := atI_map (f := domW) (l := [.z, d, d, d, .p d, .p d]) (k := n1) h0 h1
  rw [wo_ixL at_last]
  refine ⟨_, e', ?_⟩
  refine q _ _ ?_ (x2.app _) ((Up.app _).trans (u1.trans (u2.trans (Up.app _))))
  simp at hd'
  rcases hd' with rfl | rfl | rfl
  · exact True.intro
  · exact hf.isD
  · exact hf
/-- small numbers -/
def In (v : W) : Prop := ∃ n : Int, v = .int n ∧ n.natAbs < 100000
def Sm : Dm → W → Prop
  | .z, v => In v
  | .f _, v => In v
  | .q, v => ∃ n m : Int, v = .tup [.int n, .int m] ∧ n.natAbs < 100000 ∧ m.natAbs < 100000
  | .p d, v => ∃ xs, v = .tup xs ∧ xs.length ≤ 3 ∧ ∀ y ∈ xs, Sm d y
theorem Sm.shp : ∀ {d : Dm} {v : W}, Sm d v → Shp d v
  | .z, _, ⟨n, h, _⟩ => ⟨n, h⟩
  | .f _, _, ⟨n, h, _⟩ => ⟨n, h⟩
  | .q, _, ⟨n, m, h, _⟩ => ⟨n, m, h⟩
  | .p d, _, ⟨xs, h, _, k⟩ => ⟨xs, h, fun y hy => (k y hy).shp⟩
theorem small_head {s : Sto} {r : Nat} {K : W → Sto → Prop} {X : Er → Sto → Prop} (x : CU s r) (q : ∀ (n : Int) s', n.natAbs ≤ 1001 → CU s' r → Up r s s' → K (.int n) s') :
    WM (f_law_take [.ref r, .int 9] s) (fun x s1 => WO (subW x (.int 4) s1) fun x s1 => WM (f_law_take [.ref r, .int 2000] s1) (fun x_1 s1 => WO (subW x_1 (.int 999) s1) fun x_2 s1 =>
      WM (f_law_take [.ref r, .int 4] (s1 ++ [Cell.lst [x, .int 0, .int 1, x_2]])) (fun y s2 => WO (ixW (.ref (List.length s1)) y s2) K) X) X) X := by
  refine take_wm x (by decide) (by decide) fun n1 s1 h0 h1 x1 u1 l1 => ?_
  rw [wo_subI]
  refine take_wm x1 (by decide) (by decide) fun n2 s2 h2 h3 x2 u2 l2 => ?_
  rw [wo_subI]
  have hat : At (s2 ++ [Cell.lst [.int (n1 - 4), .int 0, .int 1, .int (n2 - 999)]]) s2.length ([n1 - 4, 0, 1, n2 - 999].map W.int) := at_last
  refine take_wm (x2.app _) (by decide) (by decide) fun n3 s3 h4 h5 x3 u3 l3 => ?_
  have hat3 := u3.at hat (Nat.ne_of_gt x2.lt)
  obtain ⟨n, hn, e⟩ := atI_map (f := W.int) (l := [n1 - 4, 0, 1, n2 - 999]) h4 h5
  rw [wo_ixL hat3]
  refine ⟨_, e, q n _ ?_ x3 (u1.trans (u2.trans ((Up.app _).trans u3)))⟩
  simp at hn
  rcases hn with rfl | rfl | rfl | rfl <;> omega
theorem fdiv_small {n g : Int} (hg : 1 ≤ g) : (n.fdiv g).natAbs ≤ n.natAbs := by
  rw [Int.fdiv_eq_ediv_of_nonneg _ (by omega)]
  by_cases h : 0 ≤ n
  · have h1 := Int.ediv_nonneg h (show 0 ≤ g by omega)
    have h2 := Int.ediv_le_self g h
    omega
  · have h1 : n ≤ n / g := by
      rw [Int.le_ediv_iff_mul_le (by omega)]
      have : n * g ≤ n * 1 := Int.mul_le_mul_of_nonpos_left (by omega) hg
      omega
    have h2 : n / g < 0 := Int.ediv_neg_of_neg_of_pos (by omega) (by omega)
    omega
theorem small_wm : ∀ {d : Dm} {k : Nat} {s : Sto} {r : Nat} {Q : W → Sto → Prop} {X : Er → Sto → Prop}, IsD d → dpt d < k → CU s r →
    (∀ v s', Sm d v → CU s' r → Up r s s' → Q v s') → WM (f_law_small k [.ref r, domW d] s) Q X := by
  intro d
  induction d with
  | z =>
    intro k s r Q X hd hk x q
    obtain ⟨k, rfl⟩ : ∃ j, k = j + 1 := ⟨k - 1, by omega⟩
    unfold f_law_small m_law_small
    simp [startE, domW]
    refine small_head x fun n s' hn x' u' => ?_
    unfold m_law_small_1
    simp
    unfold m_law_small_2
    simp
    unfold m_law_small_3
    simp
    exact q _ _ ⟨n, rfl, by omega⟩ x' u'
  | f p =>
    intro k s r Q X hd hk x q
    obtain ⟨k, rfl⟩ : ∃ j, k = j + 1 := ⟨k - 1, by omega⟩
    have hp : (1 < p ∧ p ≤ 65521) ∧ PrI p := hd
    unfold f_law_small m_law_small
    simp [startE, domW]
    refine small_head x fun n s' hn x' u' => ?_
    unfold m_law_small_1
    simp
    refine ⟨by omega, q _ _ ⟨_, rfl, ?_⟩ x' u'⟩
    have h1 := Int.fmod_nonneg_of_pos n (show (0 : Int) < p by omega)
    have h2 := Int.fmod_lt_of_pos n (show (0 : Int) < p by omega)
    omega
  | q =>
    intro k s r Q X hd hk x q
    obtain ⟨k, rfl⟩ : ∃ j, k = j + 1 := ⟨k - 1, by omega⟩
    unfold f_law_small m_law_small
    simp [startE, domW]
    refine small_head x fun n s' hn x' u' => ?_
    unfold m_law_small_1
    simp
    unfold m_law_small_2
    simp
    refine take_wm x' (by decide) (by decide) fun m s2 h0 h1 x2 u2 l2 => ?_
    simp
    have hg : Int.gcd n (1 + m) ≠ 0 := fun z => by
      have := Int.gcd_eq_zero_iff.mp z
      omega
    have hg2 : Int.gcd n (1 + m) ≤ 4 := by
      have h3 : Int.gcd n (1 + m) ∣ (1 + m).natAbs := Int.gcd_dvd_natAbs_right ..
      have := Nat.le_of_dvd (by omega) h3
      omega
    refine ⟨⟨fun _ => by omega, ?_⟩, q _ _ ⟨_, _, rfl, ?_, ?_⟩ x2 (u'.trans u2)⟩
    · rw [Nat.log2_lt hg]
      exact Nat.lt_of_le_of_lt hg2 (Nat.lt_of_lt_of_le (show 4 < 2 ^ 3 by decide) (Nat.pow_le_pow_right (by decide) (by decide)))
    · have := fdiv_small (n := n) (g := (Int.gcd n (1 + m) : Nat)) (by omega)
      omega
    · have := fdiv_small (n := 1 + m) (g := (Int.gcd n (1 + m) : Nat)) (by omega)
      omega
  | p d ih =>
    intro k s r Q X hd hk x q
    have hk : dpt d + 1 < k := hk
    obtain ⟨k, rfl⟩ : ∃ j, k = j + 1 := ⟨k - 1, by omega⟩
    unfold f_law_small m_law_small
    simp [startE, domW]
    refine small_head x fun n s' hn x' u' => ?_
    unfold m_law_small_1
    simp
    unfold m_law_small_2
    simp
    unfold m_law_small_3
    simp
    refine take_wm x' (by decide) (by decide) fun m s2 h0 h1 x2 u2 l2 => ?_
    simp [wipeE]
    refine ⟨by omega, ?_⟩
    have hdd := dpt_of_IsF hd
    refine comp_by0 (fun i acc s' => CU s' r ∧ Up r s2 s' ∧ acc.length = i ∧ ∀ y ∈ acc, Sm d y) ?_ ?_ ⟨x2, Up.refl _ _, rfl, by simp⟩
    · rintro i w acc s3 hw ⟨x3, u3, rfl, ha⟩
      obtain ⟨hi, rfl⟩ := rangeL_get hw
      simp
      refine ih (IsF.isD hd) (by omega) x3 fun v s4 hv x4 u4 => ?_
      refine ⟨by omega, x4, u3.trans u4, ?_⟩
      rintro y (hy | rfl)
      · exact ha y hy
      · exact hv
    · rintro acc s3 ⟨x3, u3, hl, ha⟩
      rw [rangeL_len] at hl
      obtain ⟨a, p, ac, kk, ns, c3⟩ := x3
      refine nx_cut (fun ρ' s' => ∃ (xs : List W) (u : Option W), ρ' = [some (.ref r), some (.tup [.str [80], domW d]), some (.int n), none, none, some (.ref s3.length), u] ∧ At s' s3.length xs ∧ xs.length ≤ 3 ∧ (∀ y ∈ xs, Sm d y) ∧ CU s' r ∧ Up r s s') ?_ ?_
      · unfold m_law_small_4
        refine while_by (fun m ρ' s' => ∃ (xs : List W) (u : Option W), m = xs.length ∧ ρ' = [some (.ref r), some (.tup [.str [80], domW d]), some (.int n), none, none, some (.ref s3.length), u] ∧ At s' s3.length xs ∧ xs.length ≤ 3 ∧ (∀ y ∈ xs, Sm d y) ∧ Cu s' r a p ac kk ns ∧ Up r s3 s') ?_ (n := acc.length) ⟨acc, none, rfl, rfl, at_last, by omega, ha, ⟨c3.hc.app _, c3.ha.app _, c3.ne, c3.hp, c3.hacc⟩, Up.app _⟩
        rintro m' ρ' s' ⟨xs, u, rfl, rfl, hat, hxl, hxs, hcu, hup⟩
        have n1 : s3.length ≠ r := Nat.ne_of_gt c3.hc.lt
        have n2 : s3.length ≠ a := Nat.ne_of_gt c3.ha.lt
        have upS : Up r s s' := u'.trans (u2.trans (u3.trans hup))
        simp [wo_truL hat, wo_ixL hat, atI_m1]
        split
        · rename_i he
          subst he
          exact ⟨[], hat, by simp, by simp, ⟨_, _, _, _, _, hcu⟩, upS⟩
        · rename_i he
          obtain ⟨z, hz⟩ : ∃ z, xs.getLast? = some z := ⟨_, List.getLast?_eq_getLast he⟩
          refine ⟨z, hz, ?_⟩
          rw [wo_eqD (dt_shp (hxs z (List.mem_of_getLast? hz)).shp) (dt_zero d) (by omega) (by omega)]
          simp
          split
          · refine ⟨isT_L hat, ?_⟩
            rw [wo_popL hat]
            refine ⟨z, by rw [← List.getLast?_eq_getElem?]; exact hz, ?_⟩
            have hpos : 0 < xs.length := List.length_pos_iff.mpr he
            refine ⟨xs.length - 1, by omega, xs.dropLast, by rw [List.length_dropLast], hat.set, by rw [List.length_dropLast]; omega, fun y hy => hxs y (List.dropLast_subset _ hy), ⟨hcu.hc.set_ne n1, hcu.ha.set_ne n2, hcu.ne, hcu.hp, hcu.hacc⟩, hup.set_new (Nat.le_refl _)⟩
          · exact ⟨xs, hat, hxl, hxs, ⟨_, _, _, _, _, hcu⟩, upS⟩
      · rintro ρ' s' ⟨xs, u, rfl, hat, hxl, hxs, hcu, hup⟩
        simp [wo_tupleL hat]
        exact q _ _ ⟨xs, rfl, hxl, hxs⟩ hcu hup
end ME

set_option Elab.async false
set_option linter.all false
set_option maxRecDepth 100000
set_option maxHeartbeats 1000000
/-! ### plain: the texts that the law writes -/
namespace ME
open PySem PySem.Spec PyProof.Rows L2 PySem.NumText
open FL (isDig rNat rInt isDig_iff all_digits rNat_dg rInt_ic dg ic dg_len dg_digits dg_ne str_int ic_back ic_signs)
theorem matrix_wm {d : Dm} {s : Sto} {r : Nat} {m n : Int} {Q : W → Sto → Prop} {X : Er → Sto → Prop} (hd : IsD d) (x : CU s r) (hm : 0 ≤ m ∧ m ≤ 3) (hn : 0 ≤ n ∧ n ≤ 3)
    (q : ∀ (rows : List (List W)) s', rows.length = m.toNat → (∀ w ∈ rows, w.length = n.toNat ∧ ∀ y ∈ w, Sm d y) → CU s' r → Up r s s' → Q (.tup [.int m, .int n, .tup (rows.map .tup)]) s') :
    WM (f_law_matrix [.ref r, domW d, .int m, .int n] s) Q X := by
  have hdp := dpt_small hd
  unfold f_law_matrix m_law_matrix
  simp [startE, wipeE]
  refine ⟨by omega, ?_⟩
  refine comp_by0 (fun i acc s' => ∃ rows : List (List W), acc = rows.map .tup ∧ CU s' r ∧ Up r s s' ∧ rows.length = i ∧ ∀ w ∈ rows, w.length = n.toNat ∧ ∀ y ∈ w, Sm d y) ?_ ?_ ⟨[], rfl, x, Up.refl _ _, rfl, by simp⟩
  · rintro i w acc s3 hw ⟨rows, rfl, x3, u3, rfl, ha⟩
    obtain ⟨hi, rfl⟩ := rangeL_get hw
    simp [wipeE]
    refine ⟨by omega, ?_⟩
    refine comp_by0 (fun i acc s' => CU s' r ∧ Up r s s' ∧ acc.length = i ∧ ∀ y ∈ acc, Sm d y) ?_ ?_ ⟨x3, u3, rfl, by simp⟩
    · rintro i w acc s4 hw ⟨x4, u4, rfl, ha⟩
      obtain ⟨hi, rfl⟩ := rangeL_get hw
      simp
      refine small_wm hd (by omega) x4 fun v s5 hv x5 u5 => ?_
      refine ⟨by omega, x5, u4.trans u5, ?_⟩
      rintro y (hy | rfl)
      · exact ha y hy
      · exact hv
    · rintro acc s4 ⟨x4, u4, hl, ha4⟩
      rw [rangeL_len] at hl
      rw [wo_tupleL at_last]
      refine ⟨by omega, rows ++ [acc], by simp, x4.app _, u4.trans (Up.app _), by simp, ?_⟩
      intro w hw
      rcases List.mem_append.mp hw with h | h
      · exact ha w h
      · rw [List.mem_singleton.mp h]
        exact ⟨hl, ha4⟩
  · rintro acc s3 ⟨rows, rfl, x3, u3, hl, ha⟩
    rw [rangeL_len] at hl
    rw [wo_tupleL at_last]
    exact q rows _ hl ha (x3.app _) (u3.trans (Up.app _))
theorem wo_strI {i : Int} {s : Sto} {Q : W → Sto → Prop} (h : i.natAbs < 100000) : WO (strW [.int i] s) Q = Q (.str (ic i)) s := by
  unfold strW
  dsimp only
  rw [if_pos, str_int]
  · rfl
  · by_cases z : i.natAbs = 0
    · rw [z]; decide
    · rw [Nat.log2_lt z]
      exact Nat.lt_of_lt_of_le h (Nat.le_trans (show 100000 ≤ 2 ^ 17 by decide) (Nat.pow_le_pow_right (by decide) (by decide)))
theorem ic_small {i : Int} (h : i.natAbs < 100000) : (ic i).length ≤ 6 ∧ 59 ∉ ic i := by
  refine ⟨?_, fun z => by have := ic_signs i 59 z; omega⟩
  unfold ic
  split
  · have := dg_len (n := i.natAbs) (k := 5) (by decide) (by omega)
    simp
    omega
  · have := dg_len (n := i.natAbs) (k := 5) (by decide) (by omega)
    omega
theorem getStrs_map : ∀ (ts : List (List Nat)), getStrs (ts.map W.str) = some ts
  | [] => rfl
  | t :: ts => by
    rw [List.map_cons, getStrs, getStrs_map ts]
    rfl
theorem wo_joinL {a : List Nat} {n : Nat} {ts : List (List Nat)} {s : Sto} {Q : W → Sto → Prop} (h : At s n (ts.map .str)) (hl : (ts.map List.length).sum + ts.length * a.length ≤ 16777216) : WO (joinW (.str a) [.ref n] s) Q = Q (.str (TL.joinL a ts)) s := by
  unfold joinW
  dsimp only
  have e : inSeq s [.ref n] = some (ts.map .str) := by
    unfold inSeq
    dsimp only
    rw [show s[n]? = _ from h]
  rw [e, Option.bind_some, getStrs_map]
  dsimp only
  rw [if_pos hl]
  rfl
theorem joinL_len (a : List Nat) : ∀ (ts : List (List Nat)), (TL.joinL a ts).length ≤ (ts.map List.length).sum + ts.length * a.length
  | [] => Nat.zero_le _
  | [t] => by simp [TL.joinL]
  | t :: u :: ts => by
    have := joinL_len a (u :: ts)
    simp only [TL.joinL, List.length_append, List.map_cons, List.sum_cons, List.length_cons, Nat.add_mul, Nat.one_mul] at this ⊢
    omega
theorem joinL_mem {a : List Nat} {c : Nat} : ∀ {ts : List (List Nat)}, c ∈ TL.joinL a ts → c ∈ a ∨ ∃ t ∈ ts, c ∈ t
  | [], h => nomatch h
  | [t], h => .inr ⟨t, by simp, h⟩
  | t :: u :: ts, h => by
    rw [TL.joinL] at h
    rcases List.mem_append.mp h with h | h
    · exact .inr ⟨t, by simp, h⟩
    · rcases List.mem_append.mp h with h | h
      · exact .inl h
      · rcases joinL_mem h with h | ⟨x, hx, h⟩
        · exact .inl h
        · exact .inr ⟨x, List.mem_cons_of_mem _ hx, h⟩
theorem sum_le {b : Nat} : ∀ {ts : List (List Nat)}, (∀ t ∈ ts, t.length ≤ b) → (ts.map List.length).sum ≤ ts.length * b
  | [], _ => Nat.zero_le _
  | t :: ts, h => by
    have h1 := h t (by simp)
    have h2 := sum_le (ts := ts) fun x hx => h x (List.mem_cons_of_mem _ hx)
    simp only [List.map_cons, List.sum_cons, List.length_cons, Nat.add_mul, Nat.one_mul]
    omega
/-- the length of an element's text -/
def tl : Dm → Nat
  | .q => 13
  | .p d => 3 * tl d + 5
  | _ => 6
theorem tl_small {d : Dm} (h : IsD d) : tl d ≤ 44 := by
  cases d with
  | p d => cases d <;> first | exact h.elim | (unfold tl tl; omega)
  | _ => unfold tl; omega
/-- a comprehension of texts -/
theorem txt_comp {v : Nat} {m : Env → M W} {ρ : Env} {b : Nat} {xs : List W} {s0 : Sto} {Q : List W → Sto → Prop} {X : Er → Sto → Prop} (hx : xs.length ≤ 1000)
    (hm : ∀ x s (Q : W → Sto → Prop), x ∈ xs → (∀ (t : List Nat) (g : Sto), t.length ≤ b → 59 ∉ t → Q (.str t) (s ++ g)) → WM (m (ρ.set v (some x)) s) Q X)
    (q : ∀ (ts : List (List Nat)) (g : Sto), ts.length = xs.length → (∀ t ∈ ts, t.length ≤ b ∧ 59 ∉ t) → Q (ts.map .str) (s0 ++ g)) :
    WM (compN none (gN v) xYes m ρ xs [] s0) Q X := by
  refine comp_by0 (fun i acc s' => ∃ ts : List (List Nat), acc = ts.map .str ∧ (∃ g, s' = s0 ++ g) ∧ ts.length = i ∧ ∀ t ∈ ts, t.length ≤ b ∧ 59 ∉ t) ?_ ?_ ⟨[], rfl, ⟨[], by simp⟩, rfl, by simp⟩
  · rintro i w acc s' hw ⟨ts, rfl, ⟨g, rfl⟩, rfl, ht⟩
    have hi := (List.getElem?_eq_some_iff.mp hw).1
    simp
    refine hm w _ _ (List.mem_of_getElem? hw) fun t g' h1 h2 => ?_
    refine ⟨by omega, ts ++ [t], by simp, ⟨g ++ g', by rw [List.append_assoc]⟩, by simp, ?_⟩
    intro y hy
    rcases List.mem_append.mp hy with h | h
    · exact ht y h
    · rw [List.mem_singleton.mp h]
      exact ⟨h1, h2⟩
  · rintro acc s' ⟨ts, rfl, ⟨g, rfl⟩, hl, ht⟩
    exact q ts g hl ht
theorem text_wm : ∀ {d : Dm} {k : Nat} {s : Sto} {v : W} {Q : W → Sto → Prop} {X : Er → Sto → Prop}, IsD d → dpt d < k → Sm d v → (∀ (t : List Nat) (g : Sto), t.length ≤ tl d → 59 ∉ t → Q (.str t) (s ++ g)) → WM (f_law_text k [domW d, v] s) Q X := by
  intro d
  induction d with
  | z =>
    rintro k s v Q X hd hk ⟨n, rfl, hn⟩ q
    obtain ⟨k, rfl⟩ : ∃ j, k = j + 1 := ⟨k - 1, by omega⟩
    unfold f_law_text m_law_text m_law_text_1 m_law_text_2
    simp [startE, domW, wo_strI hn]
    obtain ⟨h1, h2⟩ := ic_small hn
    have := q _ [] h1 h2
    simpa using this
  | f p =>
    rintro k s v Q X hd hk ⟨n, rfl, hn⟩ q
    obtain ⟨k, rfl⟩ : ∃ j, k = j + 1 := ⟨k - 1, by omega⟩
    unfold f_law_text m_law_text m_law_text_1 m_law_text_2
    simp [startE, domW, wo_strI hn]
    obtain ⟨h1, h2⟩ := ic_small hn
    have := q _ [] h1 h2
    simpa using this
  | q =>
    rintro k s v Q X hd hk ⟨n, m, rfl, hn, hm⟩ q
    obtain ⟨k, rfl⟩ : ∃ j, k = j + 1 := ⟨k - 1, by omega⟩
    obtain ⟨h1, h2⟩ := ic_small hn
    obtain ⟨h3, h4⟩ := ic_small hm
    unfold f_law_text m_law_text m_law_text_1 m_law_text_2
    simp [startE, domW, wo_strI hn, wo_strI hm]
    refine ⟨by omega, ?_⟩
    have hat : At (s ++ [Cell.lst [W.str (47 :: ic m), W.str []]]) s.length ([47 :: ic m, []].map W.str) := at_last
    obtain ⟨y, hy, e⟩ := atI_map (f := W.str) (l := [47 :: ic m, []]) (k := if m = 1 then 1 else 0) (by split <;> omega) (by simp; split <;> omega)
    rw [wo_ixL hat]
    refine ⟨_, e, ?_⟩
    have hy2 : y.length ≤ 7 ∧ 59 ∉ y := by
      simp at hy
      rcases hy with rfl | rfl
      · exact ⟨by simp; omega, by simp; exact h4⟩
      · simp
    simp
    refine ⟨by omega, q _ _ (by simp; unfold tl; omega) (fun z => (List.mem_append.mp z).elim h2 hy2.2)⟩
  | p d ih =>
    rintro k s v Q X hd hk ⟨xs, rfl, hl, hx⟩ q
    have hk : dpt d + 1 < k := hk
    obtain ⟨k, rfl⟩ : ∃ j, k = j + 1 := ⟨k - 1, by omega⟩
    unfold f_law_text m_law_text m_law_text_1 m_law_text_2
    simp [startE, domW, wipeE]
    refine txt_comp (b := tl d) (by omega) (fun x s Q hx' q => ?_) fun ts g h1 h2 => ?_
    · simp
      exact ih (IsF.isD hd) (by omega) (hx x hx') q
    · have hs := sum_le (b := tl d) fun t ht => (h2 t ht).1
      have hj := joinL_len [32] ts
      have ht := tl_small hd
      unfold tl at ht
      have hm : ts.length * tl d ≤ 3 * tl d := Nat.mul_le_mul_right _ (by omega)
      simp only [List.length_singleton, Nat.mul_one] at hj
      rw [wo_joinL at_last (by simp; omega)]
      simp
      refine ⟨by omega, by omega, ?_⟩
      have := q (123 :: (TL.joinL [32] ts ++ [125])) (g ++ [Cell.lst (ts.map W.str)]) (by simp; unfold tl; omega) (fun z => ?_)
      · simpa using this
      · simp at z
        rcases joinL_mem z with h | ⟨x, hx, h⟩
        · simp at h
        · exact (h2 x hx).2 h
theorem domain_text_wm : ∀ {d : Dm} {k : Nat} {s : Sto} {Q : W → Sto → Prop} {X : Er → Sto → Prop}, IsD d → dpt d < k → (∀ (t : List Nat) (g : Sto), t.length ≤ 8 → Q (.str t) (s ++ g)) → WM (f_law_domain_text k [domW d] s) Q X := by
  have F : ∀ {d : Dm} {k : Nat} {s : Sto} {Q : W → Sto → Prop} {X : Er → Sto → Prop}, (d = .z ∨ IsF d) → 0 < k → (∀ (t : List Nat) (g : Sto), t.length ≤ 7 → Q (.str t) (s ++ g)) → WM (f_law_domain_text k [domW d] s) Q X := by
    intro d k s Q X hd hk q
    obtain ⟨k, rfl⟩ : ∃ j, k = j + 1 := ⟨k - 1, by omega⟩
    unfold f_law_domain_text m_law_domain_text m_law_domain_text_1 m_law_domain_text_2
    cases d with
    | z =>
      simp [startE, domW]
      have := q [90] [] (by decide)
      simpa using this
    | q =>
      simp [startE, domW]
      have := q [81] [] (by decide)
      simpa using this
    | f n =>
      have hf : (1 < n ∧ n ≤ 65521) ∧ PrI n := hd.resolve_left (fun z => nomatch z)
      have hn : n.natAbs < 100000 := by omega
      obtain ⟨h1, _⟩ := ic_small hn
      simp [startE, domW, wo_strI hn]
      refine ⟨by omega, ?_⟩
      have := q (70 :: ic n) [] (by simp; omega)
      simpa using this
    | p d => exact (hd.resolve_left (fun z => nomatch z)).elim
  intro d k s Q X hd hk q
  cases d with
  | p d =>
    have hk : dpt d + 1 < k := hk
    obtain ⟨k, rfl⟩ : ∃ j, k = j + 1 := ⟨k - 1, by omega⟩
    unfold f_law_domain_text m_law_domain_text m_law_domain_text_1 m_law_domain_text_2
    simp [startE, domW]
    refine F (.inr hd) (by omega) fun t g ht => ?_
    simp
    exact ⟨by omega, q _ _ (by simp; omega)⟩
  | z => exact F (.inl rfl) (by omega) fun t g ht => q t g (by omega)
  | q => exact F (.inr hd) (by omega) fun t g ht => q t g (by omega)
  | f n => exact F (.inr hd) (by omega) fun t g ht => q t g (by omega)
theorem vector_text_wm {d : Dm} {s : Sto} {xs : List W} {Q : W → Sto → Prop} {X : Er → Sto → Prop} (hd : IsD d) (hl : xs.length ≤ 3) (hx : ∀ x ∈ xs, Sm d x) (q : ∀ (t : List Nat) (g : Sto), t.length ≤ 137 → Q (.str t) (s ++ g)) :
    WM (f_law_vector_text [domW d, .tup xs] s) Q X := by
  have hdp := dpt_small hd
  have ht := tl_small hd
  unfold f_law_vector_text m_law_vector_text
  simp [startE, wipeE]
  refine txt_comp (b := tl d) (by omega) (fun x s Q hx' q => ?_) fun ts g h1 h2 => ?_
  · simp
    exact text_wm hd (by omega) (hx x hx') q
  · have hs := sum_le (b := tl d) fun t ht => (h2 t ht).1
    have hj := joinL_len [32] ts
    have hm : ts.length * tl d ≤ 3 * tl d := Nat.mul_le_mul_right _ (by omega)
    simp only [List.length_singleton, Nat.mul_one] at hj
    rw [wo_joinL at_last (by simp; omega)]
    simp
    refine ⟨by omega, by omega, ?_⟩
    have := q (60 :: (TL.joinL [32] ts ++ [62])) (g ++ [Cell.lst (ts.map W.str)]) (by simp; omega)
    simpa using this
/-- what the text of a matrix is -/
def MxT (m n : Nat) (t : List Nat) : Prop := 0 < m → 0 < n → ∃ ts, t = 91 :: (TL.joinL [59, 32] ts ++ [93]) ∧ ts.length = m ∧ ∀ x ∈ ts, 59 ∉ x ∧ x.length ≤ 135
theorem matrix_text_wm {d : Dm} {s : Sto} {rows : List (List W)} {n : Nat} {Q : W → Sto → Prop} {X : Er → Sto → Prop} (hd : IsD d) (hl : rows.length ≤ 3) (hn : n ≤ 3) (hx : ∀ w ∈ rows, w.length = n ∧ ∀ y ∈ w, Sm d y)
    (q : ∀ (t : List Nat) (g : Sto), t.length ≤ 420 → MxT rows.length n t → Q (.str t) (s ++ g)) :
    WM (f_law_matrix_text [domW d, .tup [.int (rows.length : Nat), .int (n : Nat), .tup (rows.map .tup)]] s) Q X := by
  have hdp := dpt_small hd
  have ht := tl_small hd
  unfold f_law_matrix_text m_law_matrix_text
  simp [startE]
  refine nx_cut (fun ρ' s' => (∃ u v, ρ' = [some (domW d), some (.tup [.int (rows.length : Nat), .int (n : Nat), .tup (rows.map .tup)]), u, v]) ∧ s' = s) ?_ ?_
  · unfold m_law_matrix_text_1
    obtain ⟨h1, _⟩ := ic_small (show ((rows.length : Nat) : Int).natAbs < 100000 by omega)
    obtain ⟨h2, _⟩ := ic_small (show ((n : Nat) : Int).natAbs < 100000 by omega)
    simp [wo_strI (show ((rows.length : Nat) : Int).natAbs < 100000 by omega), wo_strI (show ((n : Nat) : Int).natAbs < 100000 by omega)]
    have key : ∀ {G : Prop}, ((rows = [] ∨ n = 0) → G) → (if rows = [] then G else n = 0 → G) := fun {G} g => by
      split
      · exact g (.inl (by assumption))
      · exact fun h => g (.inr h)
    refine key fun hz => ⟨by omega, by omega, by omega, by omega, ?_⟩
    have := q (91 :: (ic (rows.length : Nat) ++ 120 :: (ic (n : Nat) ++ [93]))) [] (by simp; omega) (fun h1 h2 => by
      rcases hz with hz | hz
      · rw [hz] at h1
        exact absurd h1 (by simp)
      · omega)
    simpa using this
  · rintro ρ' s' ⟨⟨u, v, rfl⟩, rfl⟩
    simp [wipeE]
    refine txt_comp (b := 3 * tl d + 3) (by rw [List.length_map]; omega) (fun x s Q hx' q => ?_) fun ts g h1 h2 => ?_
    · obtain ⟨w, hw, rfl⟩ := List.mem_map.mp hx'
      obtain ⟨hwl, hws⟩ := hx w hw
      simp [wipeE]
      refine txt_comp (b := tl d) (by omega) (fun x s Q hx' q => ?_) fun ts g h1 h2 => ?_
      · simp
        exact text_wm hd (by omega) (hws x hx') q
      · have hs := sum_le (b := tl d) fun t ht => (h2 t ht).1
        have hj := joinL_len [32] ts
        have hm : ts.length * tl d ≤ 3 * tl d := Nat.mul_le_mul_right _ (by omega)
        simp only [List.length_singleton, Nat.mul_one] at hj
        rw [wo_joinL at_last (by simp; omega), List.append_assoc]
        refine q _ _ (by omega) (fun z => ?_)
        rcases joinL_mem z with h | ⟨x, hx, h⟩
        · simp at h
        · exact (h2 x hx).2 h
    · rw [List.length_map] at h1
      have hs := sum_le (b := 3 * tl d + 3) fun t ht => (h2 t ht).1
      have hj := joinL_len [59, 32] ts
      have hm : ts.length * (3 * tl d + 3) ≤ 3 * (3 * tl d + 3) := Nat.mul_le_mul_right _ (by omega)
      simp only [List.length_cons, List.length_nil] at hj
      rw [wo_joinL at_last (by simp; omega)]
      simp
      refine ⟨by omega, by omega, ?_⟩
      have := q (91 :: (TL.joinL [59, 32] ts ++ [93])) (g ++ [Cell.lst (ts.map W.str)]) (by simp; omega) (fun _ _ => ⟨ts, rfl, h1, fun x hx => ⟨(h2 x hx).2, by have := (h2 x hx).1; omega⟩⟩)
      simpa using this
/-- the value of each kind -/
def KV (d : Dm) : Nat → W → Prop
  | 0, v => v = domW d
  | 1, v => Sm d v
  | 2, v => ∃ xs, v = .tup xs ∧ xs.length ≤ 3 ∧ ∀ x ∈ xs, Sm d x
  | _, v => ∃ (rows : List (List W)) (n : Nat), v = .tup [.int (rows.length : Nat), .int (n : Nat), .tup (rows.map .tup)] ∧ rows.length ≤ 3 ∧ n ≤ 3 ∧ ∀ w ∈ rows, w.length = n ∧ ∀ y ∈ w, Sm d y
theorem made_wm {k : Nat} {d : Dm} {s : Sto} {v : W} {Q : W → Sto → Prop} {X : Er → Sto → Prop} (hk : k < 3) (hd : IsD d) (hv : KV d k v) (q : ∀ (t : List Nat) (g : Sto), t.length ≤ 420 → Q (.str t) (s ++ g)) :
    WM (f_law_made [.int (k : Nat), domW d, v] s) Q X := by
  have hdp := dpt_small hd
  have ht := tl_small hd
  unfold f_law_made m_law_made m_law_made_1 m_law_made_2 m_law_made_3
  obtain rfl | rfl | rfl : k = 0 ∨ k = 1 ∨ k = 2 := by omega
  · have hv : v = domW d := hv
    subst hv
    simp [startE]
    exact domain_text_wm hd (by omega) fun t g ht => q t g (by omega)
  · simp [startE]
    exact text_wm hd (by omega) hv fun t g ht _ => q t g (by omega)
  · obtain ⟨xs, rfl, hl, hx⟩ := hv
    simp [startE]
    exact vector_text_wm hd hl hx fun t g ht => q t g (by omega)
theorem made3_wm {d : Dm} {s : Sto} {rows : List (List W)} {n : Nat} {Q : W → Sto → Prop} {X : Er → Sto → Prop} (hd : IsD d) (hl : rows.length ≤ 3) (hn : n ≤ 3) (hx : ∀ w ∈ rows, w.length = n ∧ ∀ y ∈ w, Sm d y)
    (q : ∀ (t : List Nat) (g : Sto), t.length ≤ 420 → MxT rows.length n t → Q (.str t) (s ++ g)) :
    WM (f_law_made [.int 3, domW d, .tup [.int (rows.length : Nat), .int (n : Nat), .tup (rows.map .tup)]] s) Q X := by
  unfold f_law_made m_law_made m_law_made_1 m_law_made_2 m_law_made_3
  simp [startE]
  exact matrix_text_wm hd hl hn hx q
end ME

set_option Elab.async false
set_option linter.all false
set_option maxRecDepth 100000
set_option maxHeartbeats 1000000
/-! ### plain: the changed texts, the law -/
namespace ME
open PySem PySem.Spec PyProof.Rows L2 PySem.NumText
open FL (isDig rNat rInt isDig_iff all_digits rNat_dg rInt_ic dg ic dg_len dg_digits dg_ne str_int ic_back ic_signs)
theorem lg_small {m : Nat} (h : m < 100000) : m.log2 < 9000 := by
  by_cases z : m = 0
  · rw [z]; decide
  · rw [Nat.log2_lt z]
    exact Nat.lt_of_lt_of_le h (Nat.le_trans (show 100000 ≤ 2 ^ 17 by decide) (Nat.pow_le_pow_right (by decide) (by decide)))
theorem pieced_wm {s : Sto} {r : Nat} {Q : W → Sto → Prop} {X : Er → Sto → Prop} (x : CU s r) (q : ∀ (t : List Nat) s', t.length ≤ 40 → CU s' r → Up r s s' → Q (.str t) s') : WM (f_law_pieced [.ref r] s) Q X := by
  unfold f_law_pieced m_law_pieced
  simp [startE]
  generalize hL : TL.spl [44] 0 [] [70, 44, 81, 44, 90, 44, 80, 44, 55, 44, 50, 53, 44, 53, 54, 49, 44, 54, 53, 53, 49, 57, 44, 54, 53, 53, 50, 49, 44, 54, 53, 53, 51, 55, 44, 48, 44, 49, 44, 45, 44, 47, 44, 123, 44, 125, 44, 60, 44, 62, 44, 91, 44, 93, 44, 59, 44, 32, 44, 120, 44, 50, 44, 48, 49, 44, 49, 47, 50, 44, 50, 47, 52, 44, 59, 32, 44, 123, 49, 125, 44, 45, 51, 44, 49, 48, 48, 48, 44, 49, 48, 48, 49] = L
  have hLl : L.length = 32 ∧ ∀ x ∈ L, x.length ≤ 5 := by
    rw [← hL]
    decide +kernel
  clear hL
  have hat : At (s ++ [Cell.lst (L.map W.str)]) s.length (L.map W.str) := at_last
  have hn : s.length ≠ r := Nat.ne_of_gt x.lt
  refine take_wm (x.app _) (by decide) (by decide) fun m s1 h0 h1 x1 u1 l1 => ?_
  have hat1 := u1.at hat hn
  simp [wipeE]
  refine ⟨by omega, ?_⟩
  refine comp_by0 (fun i acc s' => ∃ ts : List (List Nat), acc = ts.map .str ∧ CU s' r ∧ Up r s1 s' ∧ ts.length = i ∧ ∀ t ∈ ts, t.length ≤ 5) ?_ ?_ ⟨[], rfl, x1, Up.refl _ _, rfl, by simp⟩
  · rintro i w acc s3 hw ⟨ts, rfl, x3, u3, rfl, ha⟩
    obtain ⟨hi, rfl⟩ := rangeL_get hw
    simp
    refine take_wm x3 (by decide) (by decide) fun n s4 h2 h3 x4 u4 l4 => ?_
    obtain ⟨y, hy, e⟩ := atI_map (f := W.str) (l := L) (k := n) h2 (by omega)
    rw [wo_ixL (u4.at (u3.at hat1 hn) hn)]
    refine ⟨_, e, by omega, ts ++ [y], by simp, x4, u3.trans u4, by simp, ?_⟩
    intro t ht
    rcases List.mem_append.mp ht with h | h
    · exact ha t h
    · rw [List.mem_singleton.mp h]
      exact hLl.2 y hy
  · rintro acc s3 ⟨ts, rfl, x3, u3, hl, ha⟩
    rw [rangeL_len] at hl
    have hs := sum_le (b := 5) ha
    have hj := joinL_len [] ts
    simp only [List.length_nil, Nat.mul_zero] at hj
    rw [wo_joinL at_last (by simp; omega)]
    exact q _ _ (by omega) (x3.app _) ((Up.app _).trans (u1.trans (u3.trans (Up.app _))))
theorem changed_wm {s : Sto} {r : Nat} {t : List Nat} {Q : W → Sto → Prop} {X : Er → Sto → Prop} (x : CU s r) (ht : t.length ≤ 420) (q : ∀ (t : List Nat) s', t.length ≤ 430 → CU s' r → Up r s s' → Q (.str t) s') : WM (f_law_changed [.ref r, .str t] s) Q X := by
  unfold f_law_changed m_law_changed
  simp [startE]
  refine nx_cut (fun ρ' s' => ∃ (t' : List Nat) (u v w : Option W), ρ' = [some (.ref r), some (.str t'), u, v, w] ∧ t'.length ≤ 424 ∧ CU s' r ∧ Up r s s') ?_ ?_
  · unfold m_law_changed_1
    simp
    refine take_wm x (by decide) (by decide) fun m s1 h0 h1 x1 u1 l1 => ?_
    simp
    refine ⟨by omega, ?_⟩
    refine for_by0 (fun i ρ' s' => ∃ (t' : List Nat) (u v w : Option W), ρ' = [some (.ref r), some (.str t'), u, v, w] ∧ t'.length ≤ 420 + i ∧ CU s' r ∧ Up r s s') ?_ ?_ ⟨t, none, none, none, rfl, by omega, x1, u1⟩
    · rintro i w ρ s3 hw ⟨t', u, v, w', rfl, hl, x3, u3⟩
      obtain ⟨hi, rfl⟩ := rangeL_get hw
      simp
      refine ⟨by omega, ?_⟩
      refine take_wm x3 (by omega) (lg_small (by omega)) fun n s4 h2 h3 x4 u4 l4 => ?_
      obtain ⟨j, rfl⟩ := Int.eq_ofNat_of_zero_le h2
      refine take_wm x4 (by decide) (by decide) fun n s5 h4 h5 x5 u5 l5 => ?_
      obtain ⟨jn, rfl⟩ := Int.eq_ofNat_of_zero_le h4
      have hj : j ≤ t'.length := by omega
      obtain ⟨sg, hsg⟩ : ∃ sg, [48, 32, 49, 45, 47, 123, 125, 60, 62, 91, 93, 59, 120, 50, 81, 10, 55, 70, 80, 43, 95][jn]? = some sg := ⟨_, List.getElem?_eq_getElem (show jn < 21 by omega)⟩
      have e1 : ((j : Int) + 1) = ((j + 1 : Nat) : Int) := rfl
      rw [wo_ixS]
      refine ⟨by simp, sg, by rw [atI_nat']; exact hsg, ?_⟩
      simp only [wo_getI_int, wo_addS, wo_addI, e1, cut_upto, cut_after, szl]
      have l1 : (t'.take j).length = j := by rw [List.length_take]; omega
      have l2 : (t'.drop j).length = t'.length - j := List.length_drop ..
      have l3 : (t'.drop (j + 1)).length = t'.length - (j + 1) := List.length_drop ..
      refine ⟨by omega, by simp; omega, by omega, by simp; omega, by omega, by omega, by simp; omega, by omega, by simp; omega, by omega, by simp; omega, ?_⟩
      have hat : At (s5 ++ [Cell.lst ([t'.take j ++ [sg] ++ t'.drop j, t'.take j ++ t'.drop (j + 1), t'.take j ++ [sg] ++ t'.drop (j + 1)].map W.str)]) s5.length ([t'.take j ++ [sg] ++ t'.drop j, t'.take j ++ t'.drop (j + 1), t'.take j ++ [sg] ++ t'.drop (j + 1)].map W.str) := at_last
      refine take_wm (x5.app _) (by decide) (by decide) fun n s6 h6 h7 x6 u6 l6 => ?_
      obtain ⟨y, hy, e⟩ := atI_map (f := W.str) h6 (show n < (([t'.take j ++ [sg] ++ t'.drop j, t'.take j ++ t'.drop (j + 1), t'.take j ++ [sg] ++ t'.drop (j + 1)] : List (List Nat)).length : Int) by simp; omega)
      rw [wo_ixL (u6.at hat (Nat.ne_of_gt x5.lt))]
      refine ⟨_, e, y, rfl, ?_, x6, u3.trans (u4.trans (u5.trans ((Up.app _).trans u6)))⟩
      simp only [List.mem_cons, List.not_mem_nil, or_false] at hy
      rcases hy with rfl | rfl | rfl <;> (simp; omega)
    · rintro ρ s3 ⟨t', u, v, w, rfl, hl, x3, u3⟩
      rw [rangeL_len] at hl
      simp
      exact ⟨by omega, x3, u3⟩
  · rintro ρ' s3 ⟨t', u, v, w, rfl, hl, x3, u3⟩
    simp
    refine take_wm x3 (by decide) (by decide) fun n s4 h2 h3 x4 u4 l4 => ?_
    simp
    have hr : (rep (if n = 0 then (1 : Int) else 0).toNat [10]).length ≤ 1 := by
      split
      · decide
      · decide
    refine ⟨by split <;> omega, by omega, q _ _ (by simp; omega) x4 (u3.trans u4)⟩
end ME

set_option Elab.async false
set_option linter.all false
set_option maxRecDepth 100000
set_option maxHeartbeats 2000000
/-! ### plain: the law -/
namespace ME
open PySem PySem.Spec PyProof.Rows L2 PySem.NumText
open FL (isDig rNat rInt isDig_iff all_digits rNat_dg rInt_ic dg ic dg_len dg_digits dg_ne str_int ic_back ic_signs)
theorem pcs_ne : ∀ (u cur : List Nat) (k : Int), pcs cur k u ≠ []
  | [], cur, k => by rw [pcs]; simp
  | c :: r, cur, k => by
    rw [pcs]
    split
    · simp
    · exact pcs_ne r _ _
theorem pcs_join : ∀ (u cur : List Nat) (k : Int), (TL.joinL [32] (pcs cur k u)).length = cur.length + u.length
  | [], cur, k => by rw [pcs]; simp [TL.joinL]
  | c :: r, cur, k => by
    rw [pcs]
    split
    · have ih := pcs_join r [] k
      cases e : pcs [] k r with
      | nil => exact absurd e (pcs_ne r [] k)
      | cons p ps =>
        rw [e] at ih
        rw [TL.joinL]
        simp at ih ⊢
        omega
    · have ih := pcs_join r (cur ++ [c]) (k + brc c)
      rw [ih]
      simp
      omega
theorem joinL_tail (a : List Nat) : ∀ (ts : List (List Nat)), (TL.joinL a ts.tail).length ≤ (TL.joinL a ts).length
  | [] => Nat.le_refl _
  | [t] => Nat.zero_le _
  | t :: u :: ts => by
    simp [TL.joinL]
    omega
theorem cut_fromW (x : List W) : cut x (some 1) none = x.tail := by
  unfold cut
  rw [HT.sIx_none, show (1 : Int) = ((1 : Nat) : Int) from rfl, HT.sIx_nat]
  cases x with
  | nil => rfl
  | cons c r =>
    have : min 1 (c :: r).length = 1 := by rw [List.length_cons]; omega
    rw [this]
    simp
theorem sum_set {b : Nat} : ∀ {ts : List (List Nat)} {j : Nat} {y x : List Nat}, ts[j]? = some x → y.length ≤ x.length + b → ((ts.set j y).map List.length).sum ≤ (ts.map List.length).sum + b
  | t :: ts, 0, y, x, h, hy => by
    simp at h
    subst h
    simp
    omega
  | t :: ts, j + 1, y, x, h, hy => by
    have h' : ts[j]? = some x := by simpa using h
    have := sum_set (ts := ts) h' hy
    simp only [List.set_cons_succ, List.map_cons, List.sum_cons]
    omega
theorem map_set (ts : List (List Nat)) (j : Nat) (y : List Nat) : (ts.map W.str).set j (.str y) = (ts.set j y).map .str := by
  rw [List.map_set]
theorem inner_br (x : List Nat) (a b : Nat) : inner (a :: (x ++ [b])) = x := by
  unfold inner
  simp
theorem dt_kind {k : Nat} {d : Dm} {t : List Nat} {w : W} (hk : k < 4) (hd : IsD d) (h : rK k d t = some w) : Dt 5 w := by
  have hdp := dpt_small hd
  unfold rK at h
  split at h
  · obtain ⟨d', h1, rfl⟩ := Option.map_eq_some_iff.mp h
    have := dpt_small (rDt_isD h1)
    exact (dt_dom d').le (by omega)
  · split at h
    · exact (dt_shp (rEl_bel h).shp).le (by omega)
    · split at h
      · obtain ⟨xs, h1, rfl⟩ := Option.map_eq_some_iff.mp h
        simp [Dt]
        exact fun x hx => (dt_shp (rLs_all (p := Shp d) (fun t x h => (rEl_bel h).shp) h1 x hx)).le (by omega)
      · unfold rMx at h
        split at h
        · split at h
          · unfold rSz szL at h
            split at h
            · split at h
              · split at h
                · cases h
                · cases h
                  simp [Dt]
              · cases h
            · cases h
          · obtain ⟨rows, h1, h2⟩ := Option.bind_eq_some_iff.mp h
            have ha := mapR_all (p := Shp d) (fun t x h => (rEl_bel h).shp) h1
            unfold mxOf at h2
            split at h2
            · cases h2
            · split at h2
              · cases h2
                simp [Dt]
                refine ⟨fun x hx => (dt_shp (ha _ (List.mem_cons_self ..) x hx)).le (by omega), fun r hr x hx => (dt_shp (ha r (List.mem_cons_of_mem _ hr) x hx)).le (by omega)⟩
              · cases h2
        · cases h
theorem rK_non {k : Nat} {d : Dm} {t : List Nat} (h : rK k d t = some .non) : False := by
  unfold rK at h
  split at h
  · obtain ⟨d', h1, h2⟩ := Option.map_eq_some_iff.mp h
    cases d' <;> cases h2
  · split at h
    · exact rEl_non h
    · split at h
      · obtain ⟨xs, h1, h2⟩ := Option.map_eq_some_iff.mp h
        cases h2
      · unfold rMx at h
        split at h
        · split at h
          · unfold rSz szL at h
            split at h
            · split at h
              · split at h <;> cases h
              · cases h
            · cases h
          · obtain ⟨rows, h1, h2⟩ := Option.bind_eq_some_iff.mp h
            unfold mxOf at h2
            split at h2
            · cases h2
            · split at h2 <;> cases h2
        · cases h
/-- told and due agree -/
theorem end_wm {k : Nat} {d : Dm} {t : List Nat} {s : Sto} {a0 a1 a4 a5 a6 a8 a9 a10 a11 : Option W} (hk : k < 4) (hd : IsD d) (ht : t.length ≤ 500) :
    WS (sSeq (sAsg (eCall f_law_due (aCons (eVar 3) (aCons (eVar 2) (aCons (eVar 7) aNil)))) (gN 10)) (sSeq (sAsg (eCall f_law_read (aCons (eVar 3) (aCons (eVar 2) (aCons (eVar 7) aNil)))) (gN 11)) (sSeq (m_law_3) (sRet (e2 eqW (eVar 11) (eLst (aCons (eVar 10) aNil))))))
      [a0, a1, some (domW d), some (.int (k : Nat)), a4, a5, a6, some (.str t), a8, a9, a10, a11] s) fun fl _ => fl = .rt (.bl true) := by
  obtain ⟨g, e⟩ := due_ok (s := s) hk hd ht
  obtain ⟨g2, n, e2, hat⟩ := read_ok (s := s ++ g) hk hd ht
  obtain ⟨s1, hs1⟩ : ∃ s1, s1 = s ++ g ++ g2 := ⟨_, rfl⟩
  rw [← hs1] at e2 hat
  clear hs1
  simp [e, e2]
  unfold m_law_3
  cases h : rK k d t with
  | none =>
    rw [h] at hat
    simp
    rw [wo_eqL (n := 5) (hat.app _) at_last (by simp [oL]) (by simp) (by decide)]
    simp [oL]
  | some w =>
    rw [h] at hat
    have hw : isNon w = false := by
      cases w <;> first | rfl | exact (rK_non h).elim
    simp [hw]
    have hdt := dt_kind hk hd h
    rw [wo_eqL (n := 5) (hat.app _) at_last (by simpa [oL] using hdt) (by simpa using hdt) (by decide)]
    simp [oL]
/-- the text is drawn -/
theorem text1_wm {k : Nat} {d : Dm} {t : List Nat} {s : Sto} {r nr : Nat} {n : Int} {a5 a6 : Option W} {a0 : Option W} {X : Er → Sto → Prop} {K : Env → Sto → Prop} {Q : Fl → Sto → Prop} (hk : k < 4) (hd : IsD d) (x : CU s r) (hn : 0 ≤ n ∧ n < 4) (ht : t.length ≤ 420) (hm : k = 3 → 1 < n → ∃ c, 0 < c ∧ MxT n.toNat c t)
    (q : ∀ (t' : List Nat) s' b4 b5 b6 b8 b9, t'.length ≤ 500 → K [a0, some (.ref r), some (domW d), some (.int (k : Nat)), b4, b5, b6, some (.str t'), b8, b9, none, none] s') :
    WS (m_law_1 [a0, some (.ref r), some (domW d), some (.int (k : Nat)), some (.int n), a5, a6, some (.str t), none, none, none, none] s) (nxK K Q) := by
  have hdp := dpt_small hd
  have htl := tl_small hd
  have part2 : ∀ {s a5}, CU s r → WS (m_law_2 [a0, some (.ref r), some (domW d), some (.int (k : Nat)), some (.int n), a5, a6, some (.str t), none, none, none, none] s) (nxK K Q) := by
    intro s a5 x
    unfold m_law_2
    simp
    refine take_wm x (by decide) (by decide) fun m s1 h0 h1 x1 u1 l1 => ?_
    simp
    split
    · have hat : At (s1 ++ [Cell.lst (([[], [], [60], [91]] : List (List Nat)).map W.str)]) s1.length (([[], [], [60], [91]] : List (List Nat)).map W.str) := at_last
      obtain ⟨y, hy, e⟩ := atI_map (f := W.str) (l := [[], [], [60], [91]]) (k := (k : Int)) (by omega) (by simp; omega)
      have hyl : y.length ≤ 1 := by
        simp at hy
        rcases hy with rfl | rfl | rfl <;> decide
      simp at hat e
      simp [wo_ixL hat, e]
      refine pieced_wm (x1.app _) fun t1 s2 h1 x2 u2 => ?_
      simp
      refine ⟨by omega, ?_⟩
      have hat2 : At (s2 ++ [Cell.lst (([[], [], [62], [93]] : List (List Nat)).map W.str)]) s2.length (([[], [], [62], [93]] : List (List Nat)).map W.str) := at_last
      obtain ⟨y2, hy2, e2⟩ := atI_map (f := W.str) (l := [[], [], [62], [93]]) (k := (k : Int)) (by omega) (by simp; omega)
      have hyl2 : y2.length ≤ 1 := by
        simp at hy2
        rcases hy2 with rfl | rfl | rfl <;> decide
      simp at hat2 e2
      simp [wo_ixL hat2, e2]
      exact ⟨by omega, q _ _ _ _ _ _ _ (by simp; omega)⟩
    · refine changed_wm x1 ht fun t' s2 h1 x2 u2 => ?_
      try simp
      exact q _ _ _ _ _ _ _ (by omega)
  unfold m_law_1
  simp
  split
  · rename_i hk3
    split
    · rename_i hn1
      have hk3' : k = 3 := by omega
      obtain ⟨c, hc, hmx⟩ := hm hk3' hn1
      obtain ⟨ts, rfl, htl2, hts⟩ := hmx (by omega) hc
      refine take_wm x (by decide) (by decide) fun m s1 h0 h1 x1 u1 l1 => ?_
      simp
      split
      · refine take_wm x1 (by omega) (lg_small (by omega)) fun j s2 h2 h3 x2 u2 l2 => ?_
        obtain ⟨j, rfl⟩ := Int.eq_ofNat_of_zero_le h2
        have hj : j < ts.length := by omega
        simp [cut_inner, inner_br]
        have hs1 := sum_le (b := 135) fun t ht => (hts t ht).2
        have hjl := joinL_len [59, 32] ts
        simp only [List.length_cons, List.length_nil] at hjl
        have hspl : TL.spl [59, 32] 0 [] (TL.joinL [59, 32] ts) = ts := TL.spl_join (fun z => by rw [z] at hj; exact absurd hj (by simp)) fun p hp => (hts p hp).1
        rw [hspl]
        obtain ⟨u, hu⟩ : ∃ u, ts[j]? = some u := ⟨_, List.getElem?_eq_getElem hj⟩
        have hul := (hts u (List.mem_of_getElem? hu)).2
        have hidx : atI (ts.map W.str) (j : Int) = some (.str u) := by rw [atI_nat', List.getElem?_map, hu]; rfl
        have hat : At (s2 ++ [Cell.lst (ts.map W.str)]) s2.length (ts.map W.str) := at_last
        have hnr : s2.length ≠ r := Nat.ne_of_gt x2.lt
        have hts3 : ts.length ≤ 3 := by omega
        refine ⟨by omega, ?_⟩
        rw [wo_ixL hat]
        refine ⟨_, hidx, ?_⟩
        rw [wo_addS]
        refine ⟨by simp; omega, ?_⟩
        refine small_wm hd (by omega) (x2.app _) fun v s3 hv x3 u3 => ?_
        have hat3 := u3.at hat hnr
        refine text_wm hd (by omega) hv fun et g hel _ => ?_
        have hat4 := hat3.app g
        have x4 := x3.app g
        generalize s3 ++ g = s4 at hat4 x4 ⊢
        rw [wo_addS]
        refine ⟨by simp; omega, ?_⟩
        rw [wo_ixL hat4]
        refine ⟨_, hidx, ?_⟩
        rw [law_pieces_eq (show u.length ≤ 500 by omega)]
        have hpl := pcs_count u [] 0
        have hps := sum_le (ts := (pcs [] 0 u).tail) (b := 500) fun x hx => by
          have := pcs_small u [] 0 x (List.mem_of_mem_tail hx)
          simp at this
          omega
        have hpj := joinL_tail [32] (pcs [] 0 u)
        rw [pcs_join] at hpj
        simp only [WM_ok]
        rw [wo_slL at_last, cut_fromW, ← List.map_tail]
        have hat5 := (hat4.app [Cell.lst ((pcs [] 0 u).map W.str)]).app [Cell.lst ((pcs [] 0 u).tail.map W.str)]
        have x5 := (x4.app [Cell.lst ((pcs [] 0 u).map W.str)]).app [Cell.lst ((pcs [] 0 u).tail.map W.str)]
        have hlt : (pcs [] 0 u).tail.length ≤ 501 := by rw [List.length_tail]; omega
        have hml : (pcs [] 0 u).tail.length * 500 ≤ 501 * 500 := Nat.mul_le_mul_right _ (by rw [List.length_tail]; omega)
        rw [wo_joinL at_last (by simp only [List.length_singleton, Nat.mul_one]; omega)]
        generalize s4 ++ [Cell.lst ((pcs [] 0 u).map W.str)] ++ [Cell.lst ((pcs [] 0 u).tail.map W.str)] = s5 at hat5 x5 ⊢
        have hatL : At (s5 ++ [Cell.lst ([u ++ [32] ++ et, TL.joinL [32] (pcs [] 0 u).tail].map W.str)]) s5.length ([u ++ [32] ++ et, TL.joinL [32] (pcs [] 0 u).tail].map W.str) := at_last
        refine take_wm (x5.app _) (by decide) (by decide) fun i6 s6 h6 h7 x6 u6 l6 => ?_
        obtain ⟨y, hy, e⟩ := atI_map (f := W.str) (l := [u ++ [32] ++ et, TL.joinL [32] (pcs [] 0 u).tail]) (k := i6) h6 h7
        rw [wo_ixL (u6.at hatL (Nat.ne_of_gt x5.lt))]
        have hyl : y.length ≤ u.length + 45 := by
          simp at hy
          rcases hy with rfl | rfl
          · simp
            omega
          · simp at hpj
            omega
        have hat6 := u6.at (hat5.app _) hnr
        refine ⟨_, e, ?_⟩
        rw [setAt_L hat6]
        have ei : ixN (ts.map W.str).length (j : Int) = some j := by
          unfold ixN
          rw [if_pos (Int.natCast_nonneg _), if_pos (by rw [List.length_map]; omega)]
          rfl
        rw [ei]
        refine ⟨_, rfl, ?_⟩
        dsimp only
        rw [map_set]
        have hat7 : At (s6.set s2.length (Cell.lst ((ts.set j y).map W.str))) s2.length ((ts.set j y).map W.str) := hat6.set
        have hss := sum_set (b := 45) hu hyl
        have hjs := joinL_len [59, 32] (ts.set j y)
        simp only [List.length_cons, List.length_nil, List.length_set] at hjs
        rw [wo_joinL hat7 (by simp only [List.length_cons, List.length_nil, List.length_set]; omega), wo_addS]
        refine ⟨by simp; omega, ?_⟩
        rw [wo_addS]
        refine ⟨by simp; omega, q _ _ _ _ _ _ _ (by simp; omega)⟩
      · exact part2 x1
    · exact part2 x
  · exact part2 x
end ME

set_option Elab.async false
set_option linter.all false
set_option maxRecDepth 100000
set_option maxHeartbeats 2000000
/-! ### plain: the law answers yes -/
namespace ME
open PySem PySem.Spec PyProof.Rows L2 PySem.NumText
theorem end_wm' {k : Nat} {d : Dm} {t : List Nat} {s : Sto} {a0 a1 a4 a5 a6 a8 a9 a10 a11 : Option W} (hk : k < 4) (hd : IsD d) (ht : t.length ≤ 500) :
    WS (sSeq (sAsg (eCall f_law_due (aCons (eVar 3) (aCons (eVar 2) (aCons (eVar 7) aNil)))) (gN 10)) (sSeq (sAsg (eCall f_law_read (aCons (eVar 3) (aCons (eVar 2) (aCons (eVar 7) aNil)))) (gN 11)) (sSeq (m_law_3) (sRet (e2 eqW (eVar 11) (eLst (aCons (eVar 10) aNil))))))
      [a0, a1, some (domW d), some (.int (k : Nat)), a4, a5, a6, some (.str t), a8, a9, a10, a11] s) fun fl s' => match fl with
    | .rt w => (fun (w : W) (_ : Sto) => w = .bl true) w s'
    | .nx _ => (fun (w : W) (_ : Sto) => w = .bl true) .non s'
    | .ex e _ => (fun _ _ => False : Er → Sto → Prop) e s'
    | _ => False := (end_wm (s := s) (a0 := a0) (a1 := a1) (a4 := a4) (a5 := a5) (a6 := a6) (a8 := a8) (a9 := a9) (a10 := a10) (a11 := a11) hk hd ht).imp fun fl s' h => by
  rw [h]
theorem law_wm {ns : List Int} {s : Sto} (h : ns.length ≤ 63) : WM (f_law [.scr ns] s) (fun w _ => w = .bl true) fun _ _ => False := by
  unfold f_law m_law
  simp only [wm_runM, startE]
  refine ⟨rfl, ?_⟩
  simp
  refine start_wm h fun r s1 x1 => ?_
  refine domain_wm x1 fun d s2 hd x2 u2 => ?_
  have hdp := dpt_small hd
  refine take_wm x2 (by decide) (by decide) fun k s3 h0 h1 x3 u3 l3 => ?_
  obtain ⟨k, rfl⟩ := Int.eq_ofNat_of_zero_le h0
  refine take_wm x3 (by decide) (by decide) fun n s4 h2 h3 x4 u4 l4 => ?_
  refine small_wm hd (by omega) x4 fun v s5 hv x5 u5 => ?_
  simp [wipeE]
  refine ⟨by omega, ?_⟩
  refine comp_by0 (fun i acc s' => CU s' r ∧ acc.length = i ∧ ∀ y ∈ acc, Sm d y) ?_ ?_ ⟨x5, rfl, by simp⟩
  · rintro i w acc s6 hw ⟨x6, rfl, ha⟩
    obtain ⟨hi, rfl⟩ := rangeL_get hw
    simp
    refine small_wm hd (by omega) x6 fun v s7 hv x7 u7 => ?_
    refine ⟨by omega, x7, ?_⟩
    rintro y (hy | rfl)
    · exact ha y hy
    · exact hv
  · rintro acc s6 ⟨x6, hl, ha⟩
    rw [rangeL_len] at hl
    rw [wo_tupleL at_last]
    refine take_wm (x6.app _) (by decide) (by decide) fun m s7 h4 h5 x7 u7 l7 => ?_
    rw [wo_addI]
    refine matrix_wm hd x7 (by omega) (by omega) fun rows s8 hr hrs x8 u8 => ?_
    have hat : At (s8 ++ [Cell.lst [domW d, v, .tup acc, .tup [.int n, .int (1 + m), .tup (rows.map .tup)]]]) s8.length [domW d, v, .tup acc, .tup [.int n, .int (1 + m), .tup (rows.map .tup)]] := at_last
    have x9 := x8.app [Cell.lst [domW d, v, .tup acc, .tup [.int n, .int (1 + m), .tup (rows.map .tup)]]]
    generalize s8 ++ [Cell.lst [domW d, v, .tup acc, .tup [.int n, .int (1 + m), .tup (rows.map .tup)]]] = s9 at hat x9 ⊢
    rw [wo_ixL hat]
    obtain ⟨w, hw⟩ : ∃ w, atI [domW d, v, .tup acc, .tup [.int n, .int (1 + m), .tup (rows.map .tup)]] (k : Int) = some w := by
      rw [atI_nat']
      exact ⟨_, List.getElem?_eq_getElem (by simp; omega)⟩
    refine ⟨w, hw, ?_⟩
    rw [atI_nat'] at hw
    by_cases hk3 : k = 3
    · subst hk3
      cases hw
      obtain ⟨mn, hmn⟩ := Int.eq_ofNat_of_zero_le (show 0 ≤ 1 + m by omega)
      obtain ⟨nn, rfl⟩ := Int.eq_ofNat_of_zero_le h2
      have hrl : rows.length = nn := by omega
      subst hrl
      rw [hmn] at hrs ⊢
      refine made3_wm hd (by omega) (by omega) (fun w hw => ⟨by have := (hrs w hw).1; omega, (hrs w hw).2⟩) fun t g ht hmx => ?_
      refine text1_wm (nr := 0) (X := fun _ _ => True) (k := 3) (by decide) hd (x9.app g) ⟨h2, h3⟩ ht (fun _ _ => ⟨mn, by omega, by simpa using hmx⟩) fun t' s' b4 b5 b6 b8 b9 ht' => ?_
      have e := end_wm' (d := d) (t := t') (k := 3) (s := s') (a0 := some (.scr ns)) (a1 := some (.ref r)) (a4 := b4) (a5 := b5) (a6 := b6) (a8 := b8) (a9 := b9) (a10 := none) (a11 := none) (by decide) hd ht'
      simp at e ⊢
      exact e
    · have hkv : KV d k w := by
        obtain rfl | rfl | rfl : k = 0 ∨ k = 1 ∨ k = 2 := by omega
        · cases hw; rfl
        · cases hw; exact hv
        · cases hw
          exact ⟨acc, rfl, by omega, ha⟩
      refine made_wm (by omega) hd hkv fun t g ht => ?_
      refine text1_wm (nr := 0) (X := fun _ _ => True) (by omega) hd (x9.app g) ⟨h2, h3⟩ ht (fun z => absurd z hk3) fun t' s' b4 b5 b6 b8 b9 ht' => ?_
      have e := end_wm' (d := d) (t := t') (k := k) (s := s') (a0 := some (.scr ns)) (a1 := some (.ref r)) (a4 := b4) (a5 := b5) (a6 := b6) (a8 := b8) (a9 := b9) (a10 := none) (a11 := none) (by omega) hd ht'
      simp at e ⊢
      exact e
end ME

set_option Elab.async false
set_option linter.all false
set_option maxRecDepth 100000
/-! ### the end: from the mirror to the law's promise -/
namespace ME
open PySem PySem.Spec PyProof.Rows L2
def spLawM (K : PySem.W.Frag) : Sp := fun vs H Q _ => ∃ (a : Addr) (ns : List Int), vs = [.ref a] ∧ Only H ∧ SqL K H a (ns.map V.int) ∧ ns.length ≤ 63 ∧ ∀ H', Q (.bl true) H'
abbrev cfgL (K : PySem.W.Frag) (C : Addr) (a : Addr) (ns : List Int) : Cfg := ⟨K, fun _ => C, fun _ => C, a, ns⟩
theorem sz_only {K : PySem.W.Frag} {C a : Addr} {ns : List Int} {H : Hp} (hO : Only H) (hS : SqL K H a (ns.map V.int)) : Sz (cfgL K C a ns) H := by
  rcases hS with h | h
  · rcases hO a with z | ⟨o, xs, z⟩
    · rcases h with h | ⟨o, h⟩
      · rw [z] at h; cases h
      · rw [z] at h; cases h
    · rcases h with h | ⟨o', h⟩
      · rw [z] at h; cases h
      · exact .inl ⟨o', h⟩
  · exact .inr fun H' => .inr h
theorem law_spM {P : Program} {w : World} {K : PySem.W.Frag} {mg : Str → Option Value} {base : Heap} {k : Nat} {f : Addr} {fd : FuncData} {x : Str} {C : Addr} {g : List W → M W}
    (F : ∀ (a : Addr) (ns : List Int), FnOk P w K mg base (L2.CX P w) k f fd [x] (spM (cfgL K C a ns) g))
    (hg : ∀ (ns : List Int) (s : Sto), ns.length ≤ 63 → WM (g [.scr ns] s) (fun w _ => w = .bl true) fun _ _ => False) :
    FnOk P w K mg base (L2.CX P w) k f fd [x] (spLawM K) := by
  have key : ∀ (vs : List V) (H : Hp) (Q : VK) (E : XK), spLawM K vs H Q E → ∃ a ns, spM (cfgL K C a ns) g vs H Q E := by
    rintro vs H Q E ⟨a, ns, rfl, hO, hS, hl, q⟩
    refine ⟨a, ns, [.scr ns], [], [], ⟨_, _, rfl, ⟨rfl, rfl⟩, rfl⟩, ⟨rfl, List.nodup_nil, (fun n x h => by cases h), sz_only hO hS⟩, ?_⟩
    obtain ⟨z, s', e, hz⟩ := WM.ok (hg ns [] hl)
    rw [e]
    intro μ' H' _ _ v rv
    have hz : z = .bl true := hz
    subst hz
    have rv : v = .bl true := rv
    subst rv
    exact q H'
  exact ⟨fun vs H Q E h => let ⟨a, ns, h'⟩ := key vs H Q E h; (F a ns).len vs H Q E h', fun A outer s H args us vs Q E hr he hb hv hs => let ⟨a, ns, h'⟩ := key vs H Q E hs; (F a ns).run A outer s H args us vs Q E hr he hb hv h'⟩
theorem cx_no {P : Program} {w : World} {o : List PySem.Env} {H : Hp} {s : Shared} {e : Value} {s' : Shared} (h : L2.CX P w o H s (fun _ _ _ => False) e s') : False := by
  obtain ⟨a, B, H', cls, d, h⟩ := h
  exact h.2.2.2.2.2.2.2
end ME

set_option Elab.async false
set_option linter.all false
set_option maxRecDepth 100000
set_option maxHeartbeats 4000000
namespace ME
open PySem PySem.Spec PyProof.Rows L2
theorem all_mk {P : Program} {w : World} {K : PySem.W.Frag} {h : Heap} {mg : Str → Option Value} {fa : Addr} (X : K.In h) (G : h.Ns mainGlobals mg) (hfa : mg "law" = some (.ref fa))
    {f_divisor : Addr} {od_divisor an_divisor : Option Addr} {sl_divisor : Array (Option Value)} {oc_divisor kV_divisor dc_divisor pm_divisor cd_divisor ct_divisor : Value}
    (a_divisor : PySem.W.nsIn K mainGlobals "divisor" = some (some (.ref f_divisor)))
    (l_divisor : K.lookup f_divisor = some ⟨oc_divisor, od_divisor, .func (PySem.W.fnOf "divisor" "divisor" (defArgs s_divisor) (defBody s_divisor) (defScope s_divisor) .none kV_divisor dc_divisor pm_divisor an_divisor cd_divisor ct_divisor), sl_divisor⟩)
    (c_divisor : PySem.W.codeIn K cd_divisor "divisor" = true) (k_divisor : PySem.W.keepIn K (.ref f_divisor) = true)
    {f_is_prime : Addr} {od_is_prime an_is_prime : Option Addr} {sl_is_prime : Array (Option Value)} {oc_is_prime kV_is_prime dc_is_prime pm_is_prime cd_is_prime ct_is_prime : Value}
    (a_is_prime : PySem.W.nsIn K mainGlobals "is_prime" = some (some (.ref f_is_prime)))
    (l_is_prime : K.lookup f_is_prime = some ⟨oc_is_prime, od_is_prime, .func (PySem.W.fnOf "is_prime" "is_prime" (defArgs s_is_prime) (defBody s_is_prime) (defScope s_is_prime) .none kV_is_prime dc_is_prime pm_is_prime an_is_prime cd_is_prime ct_is_prime), sl_is_prime⟩)
    (c_is_prime : PySem.W.codeIn K cd_is_prime "is_prime" = true) (k_is_prime : PySem.W.keepIn K (.ref f_is_prime) = true)
    {f_is_integer : Addr} {od_is_integer an_is_integer : Option Addr} {sl_is_integer : Array (Option Value)} {oc_is_integer kV_is_integer dc_is_integer pm_is_integer cd_is_integer ct_is_integer : Value}
    (a_is_integer : PySem.W.nsIn K mainGlobals "is_integer" = some (some (.ref f_is_integer)))
    (l_is_integer : K.lookup f_is_integer = some ⟨oc_is_integer, od_is_integer, .func (PySem.W.fnOf "is_integer" "is_integer" (defArgs s_is_integer) (defBody s_is_integer) (defScope s_is_integer) .none kV_is_integer dc_is_integer pm_is_integer an_is_integer cd_is_integer ct_is_integer), sl_is_integer⟩)
    (c_is_integer : PySem.W.codeIn K cd_is_integer "is_integer" = true) (k_is_integer : PySem.W.keepIn K (.ref f_is_integer) = true)
    {f_is_field : Addr} {od_is_field an_is_field : Option Addr} {sl_is_field : Array (Option Value)} {oc_is_field kV_is_field dc_is_field pm_is_field cd_is_field ct_is_field : Value}
    (a_is_field : PySem.W.nsIn K mainGlobals "is_field" = some (some (.ref f_is_field)))
    (l_is_field : K.lookup f_is_field = some ⟨oc_is_field, od_is_field, .func (PySem.W.fnOf "is_field" "is_field" (defArgs s_is_field) (defBody s_is_field) (defScope s_is_field) .none kV_is_field dc_is_field pm_is_field an_is_field cd_is_field ct_is_field), sl_is_field⟩)
    (c_is_field : PySem.W.codeIn K cd_is_field "is_field" = true) (k_is_field : PySem.W.keepIn K (.ref f_is_field) = true)
    {f_is_domain : Addr} {od_is_domain an_is_domain : Option Addr} {sl_is_domain : Array (Option Value)} {oc_is_domain kV_is_domain dc_is_domain pm_is_domain cd_is_domain ct_is_domain : Value}
    (a_is_domain : PySem.W.nsIn K mainGlobals "is_domain" = some (some (.ref f_is_domain)))
    (l_is_domain : K.lookup f_is_domain = some ⟨oc_is_domain, od_is_domain, .func (PySem.W.fnOf "is_domain" "is_domain" (defArgs s_is_domain) (defBody s_is_domain) (defScope s_is_domain) .none kV_is_domain dc_is_domain pm_is_domain an_is_domain cd_is_domain ct_is_domain), sl_is_domain⟩)
    (c_is_domain : PySem.W.codeIn K cd_is_domain "is_domain" = true) (k_is_domain : PySem.W.keepIn K (.ref f_is_domain) = true)
    {f_need_domain : Addr} {od_need_domain an_need_domain : Option Addr} {sl_need_domain : Array (Option Value)} {oc_need_domain kV_need_domain dc_need_domain pm_need_domain cd_need_domain ct_need_domain : Value}
    (a_need_domain : PySem.W.nsIn K mainGlobals "need_domain" = some (some (.ref f_need_domain)))
    (l_need_domain : K.lookup f_need_domain = some ⟨oc_need_domain, od_need_domain, .func (PySem.W.fnOf "need_domain" "need_domain" (defArgs s_need_domain) (defBody s_need_domain) (defScope s_need_domain) .none kV_need_domain dc_need_domain pm_need_domain an_need_domain cd_need_domain ct_need_domain), sl_need_domain⟩)
    (c_need_domain : PySem.W.codeIn K cd_need_domain "need_domain" = true) (k_need_domain : PySem.W.keepIn K (.ref f_need_domain) = true)
    {f_zero : Addr} {od_zero an_zero : Option Addr} {sl_zero : Array (Option Value)} {oc_zero kV_zero dc_zero pm_zero cd_zero ct_zero : Value}
    (a_zero : PySem.W.nsIn K mainGlobals "zero" = some (some (.ref f_zero)))
    (l_zero : K.lookup f_zero = some ⟨oc_zero, od_zero, .func (PySem.W.fnOf "zero" "zero" (defArgs s_zero) (defBody s_zero) (defScope s_zero) .none kV_zero dc_zero pm_zero an_zero cd_zero ct_zero), sl_zero⟩)
    (c_zero : PySem.W.codeIn K cd_zero "zero" = true) (k_zero : PySem.W.keepIn K (.ref f_zero) = true)
    {f_belongs : Addr} {od_belongs an_belongs : Option Addr} {sl_belongs : Array (Option Value)} {oc_belongs kV_belongs dc_belongs pm_belongs cd_belongs ct_belongs : Value}
    (a_belongs : PySem.W.nsIn K mainGlobals "belongs" = some (some (.ref f_belongs)))
    (l_belongs : K.lookup f_belongs = some ⟨oc_belongs, od_belongs, .func (PySem.W.fnOf "belongs" "belongs" (defArgs s_belongs) (defBody s_belongs) (defScope s_belongs) .none kV_belongs dc_belongs pm_belongs an_belongs cd_belongs ct_belongs), sl_belongs⟩)
    (c_belongs : PySem.W.codeIn K cd_belongs "belongs" = true) (k_belongs : PySem.W.keepIn K (.ref f_belongs) = true)
    {f_is_element : Addr} {od_is_element an_is_element : Option Addr} {sl_is_element : Array (Option Value)} {oc_is_element kV_is_element dc_is_element pm_is_element cd_is_element ct_is_element : Value}
    (a_is_element : PySem.W.nsIn K mainGlobals "is_element" = some (some (.ref f_is_element)))
    (l_is_element : K.lookup f_is_element = some ⟨oc_is_element, od_is_element, .func (PySem.W.fnOf "is_element" "is_element" (defArgs s_is_element) (defBody s_is_element) (defScope s_is_element) .none kV_is_element dc_is_element pm_is_element an_is_element cd_is_element ct_is_element), sl_is_element⟩)
    (c_is_element : PySem.W.codeIn K cd_is_element "is_element" = true) (k_is_element : PySem.W.keepIn K (.ref f_is_element) = true)
    {f_is_matrix : Addr} {od_is_matrix an_is_matrix : Option Addr} {sl_is_matrix : Array (Option Value)} {oc_is_matrix kV_is_matrix dc_is_matrix pm_is_matrix cd_is_matrix ct_is_matrix : Value}
    (a_is_matrix : PySem.W.nsIn K mainGlobals "is_matrix" = some (some (.ref f_is_matrix)))
    (l_is_matrix : K.lookup f_is_matrix = some ⟨oc_is_matrix, od_is_matrix, .func (PySem.W.fnOf "is_matrix" "is_matrix" (defArgs s_is_matrix) (defBody s_is_matrix) (defScope s_is_matrix) .none kV_is_matrix dc_is_matrix pm_is_matrix an_is_matrix cd_is_matrix ct_is_matrix), sl_is_matrix⟩)
    (c_is_matrix : PySem.W.codeIn K cd_is_matrix "is_matrix" = true) (k_is_matrix : PySem.W.keepIn K (.ref f_is_matrix) = true)
    {f_piece_base : Addr} {od_piece_base an_piece_base : Option Addr} {sl_piece_base : Array (Option Value)} {oc_piece_base kV_piece_base dc_piece_base pm_piece_base cd_piece_base ct_piece_base : Value}
    (a_piece_base : PySem.W.nsIn K mainGlobals "piece_base" = some (some (.ref f_piece_base)))
    (l_piece_base : K.lookup f_piece_base = some ⟨oc_piece_base, od_piece_base, .func (PySem.W.fnOf "piece_base" "piece_base" (defArgs s_piece_base) (defBody s_piece_base) (defScope s_piece_base) .none kV_piece_base dc_piece_base pm_piece_base an_piece_base cd_piece_base ct_piece_base), sl_piece_base⟩)
    (c_piece_base : PySem.W.codeIn K cd_piece_base "piece_base" = true) (k_piece_base : PySem.W.keepIn K (.ref f_piece_base) = true)
    {f_fail : Addr} {od_fail an_fail : Option Addr} {sl_fail : Array (Option Value)} {oc_fail kV_fail dc_fail pm_fail cd_fail ct_fail : Value}
    (a_fail : PySem.W.nsIn K mainGlobals "fail" = some (some (.ref f_fail)))
    (l_fail : K.lookup f_fail = some ⟨oc_fail, od_fail, .func (PySem.W.fnOf "fail" "fail" (defArgs s_fail) (defBody s_fail) (defScope s_fail) .none kV_fail dc_fail pm_fail an_fail cd_fail ct_fail), sl_fail⟩)
    (c_fail : PySem.W.codeIn K cd_fail "fail" = true) (k_fail : PySem.W.keepIn K (.ref f_fail) = true)
    {f_read_natural : Addr} {od_read_natural an_read_natural : Option Addr} {sl_read_natural : Array (Option Value)} {oc_read_natural kV_read_natural dc_read_natural pm_read_natural cd_read_natural ct_read_natural : Value}
    (a_read_natural : PySem.W.nsIn K mainGlobals "read_natural" = some (some (.ref f_read_natural)))
    (l_read_natural : K.lookup f_read_natural = some ⟨oc_read_natural, od_read_natural, .func (PySem.W.fnOf "read_natural" "read_natural" (defArgs s_read_natural) (defBody s_read_natural) (defScope s_read_natural) .none kV_read_natural dc_read_natural pm_read_natural an_read_natural cd_read_natural ct_read_natural), sl_read_natural⟩)
    (c_read_natural : PySem.W.codeIn K cd_read_natural "read_natural" = true) (k_read_natural : PySem.W.keepIn K (.ref f_read_natural) = true)
    {f_read_integer : Addr} {od_read_integer an_read_integer : Option Addr} {sl_read_integer : Array (Option Value)} {oc_read_integer kV_read_integer dc_read_integer pm_read_integer cd_read_integer ct_read_integer : Value}
    (a_read_integer : PySem.W.nsIn K mainGlobals "read_integer" = some (some (.ref f_read_integer)))
    (l_read_integer : K.lookup f_read_integer = some ⟨oc_read_integer, od_read_integer, .func (PySem.W.fnOf "read_integer" "read_integer" (defArgs s_read_integer) (defBody s_read_integer) (defScope s_read_integer) .none kV_read_integer dc_read_integer pm_read_integer an_read_integer cd_read_integer ct_read_integer), sl_read_integer⟩)
    (c_read_integer : PySem.W.codeIn K cd_read_integer "read_integer" = true) (k_read_integer : PySem.W.keepIn K (.ref f_read_integer) = true)
    {f_read_domain : Addr} {od_read_domain an_read_domain : Option Addr} {sl_read_domain : Array (Option Value)} {oc_read_domain kV_read_domain dc_read_domain pm_read_domain cd_read_domain ct_read_domain : Value}
    (a_read_domain : PySem.W.nsIn K mainGlobals "read_domain" = some (some (.ref f_read_domain)))
    (l_read_domain : K.lookup f_read_domain = some ⟨oc_read_domain, od_read_domain, .func (PySem.W.fnOf "read_domain" "read_domain" (defArgs s_read_domain) (defBody s_read_domain) (defScope s_read_domain) .none kV_read_domain dc_read_domain pm_read_domain an_read_domain cd_read_domain ct_read_domain), sl_read_domain⟩)
    (c_read_domain : PySem.W.codeIn K cd_read_domain "read_domain" = true) (k_read_domain : PySem.W.keepIn K (.ref f_read_domain) = true)
    {f_pieces : Addr} {od_pieces an_pieces : Option Addr} {sl_pieces : Array (Option Value)} {oc_pieces kV_pieces dc_pieces pm_pieces cd_pieces ct_pieces : Value}
    (a_pieces : PySem.W.nsIn K mainGlobals "pieces" = some (some (.ref f_pieces)))
    (l_pieces : K.lookup f_pieces = some ⟨oc_pieces, od_pieces, .func (PySem.W.fnOf "pieces" "pieces" (defArgs s_pieces) (defBody s_pieces) (defScope s_pieces) .none kV_pieces dc_pieces pm_pieces an_pieces cd_pieces ct_pieces), sl_pieces⟩)
    (c_pieces : PySem.W.codeIn K cd_pieces "pieces" = true) (k_pieces : PySem.W.keepIn K (.ref f_pieces) = true)
    {f_read_element : Addr} {od_read_element an_read_element : Option Addr} {sl_read_element : Array (Option Value)} {oc_read_element kV_read_element dc_read_element pm_read_element cd_read_element ct_read_element : Value}
    (a_read_element : PySem.W.nsIn K mainGlobals "read_element" = some (some (.ref f_read_element)))
    (l_read_element : K.lookup f_read_element = some ⟨oc_read_element, od_read_element, .func (PySem.W.fnOf "read_element" "read_element" (defArgs s_read_element) (defBody s_read_element) (defScope s_read_element) .none kV_read_element dc_read_element pm_read_element an_read_element cd_read_element ct_read_element), sl_read_element⟩)
    (c_read_element : PySem.W.codeIn K cd_read_element "read_element" = true) (k_read_element : PySem.W.keepIn K (.ref f_read_element) = true)
    {f_read_list : Addr} {od_read_list an_read_list : Option Addr} {sl_read_list : Array (Option Value)} {oc_read_list kV_read_list dc_read_list pm_read_list cd_read_list ct_read_list : Value}
    (a_read_list : PySem.W.nsIn K mainGlobals "read_list" = some (some (.ref f_read_list)))
    (l_read_list : K.lookup f_read_list = some ⟨oc_read_list, od_read_list, .func (PySem.W.fnOf "read_list" "read_list" (defArgs s_read_list) (defBody s_read_list) (defScope s_read_list) .none kV_read_list dc_read_list pm_read_list an_read_list cd_read_list ct_read_list), sl_read_list⟩)
    (c_read_list : PySem.W.codeIn K cd_read_list "read_list" = true) (k_read_list : PySem.W.keepIn K (.ref f_read_list) = true)
    {f_read_vector : Addr} {od_read_vector an_read_vector : Option Addr} {sl_read_vector : Array (Option Value)} {oc_read_vector kV_read_vector dc_read_vector pm_read_vector cd_read_vector ct_read_vector : Value}
    (a_read_vector : PySem.W.nsIn K mainGlobals "read_vector" = some (some (.ref f_read_vector)))
    (l_read_vector : K.lookup f_read_vector = some ⟨oc_read_vector, od_read_vector, .func (PySem.W.fnOf "read_vector" "read_vector" (defArgs s_read_vector) (defBody s_read_vector) (defScope s_read_vector) .none kV_read_vector dc_read_vector pm_read_vector an_read_vector cd_read_vector ct_read_vector), sl_read_vector⟩)
    (c_read_vector : PySem.W.codeIn K cd_read_vector "read_vector" = true) (k_read_vector : PySem.W.keepIn K (.ref f_read_vector) = true)
    {f_read_sizes : Addr} {od_read_sizes an_read_sizes : Option Addr} {sl_read_sizes : Array (Option Value)} {oc_read_sizes kV_read_sizes dc_read_sizes pm_read_sizes cd_read_sizes ct_read_sizes : Value}
    (a_read_sizes : PySem.W.nsIn K mainGlobals "read_sizes" = some (some (.ref f_read_sizes)))
    (l_read_sizes : K.lookup f_read_sizes = some ⟨oc_read_sizes, od_read_sizes, .func (PySem.W.fnOf "read_sizes" "read_sizes" (defArgs s_read_sizes) (defBody s_read_sizes) (defScope s_read_sizes) .none kV_read_sizes dc_read_sizes pm_read_sizes an_read_sizes cd_read_sizes ct_read_sizes), sl_read_sizes⟩)
    (c_read_sizes : PySem.W.codeIn K cd_read_sizes "read_sizes" = true) (k_read_sizes : PySem.W.keepIn K (.ref f_read_sizes) = true)
    {f_read_matrix : Addr} {od_read_matrix an_read_matrix : Option Addr} {sl_read_matrix : Array (Option Value)} {oc_read_matrix kV_read_matrix dc_read_matrix pm_read_matrix cd_read_matrix ct_read_matrix : Value}
    (a_read_matrix : PySem.W.nsIn K mainGlobals "read_matrix" = some (some (.ref f_read_matrix)))
    (l_read_matrix : K.lookup f_read_matrix = some ⟨oc_read_matrix, od_read_matrix, .func (PySem.W.fnOf "read_matrix" "read_matrix" (defArgs s_read_matrix) (defBody s_read_matrix) (defScope s_read_matrix) .none kV_read_matrix dc_read_matrix pm_read_matrix an_read_matrix cd_read_matrix ct_read_matrix), sl_read_matrix⟩)
    (c_read_matrix : PySem.W.codeIn K cd_read_matrix "read_matrix" = true) (k_read_matrix : PySem.W.keepIn K (.ref f_read_matrix) = true)
    {f_law_start : Addr} {od_law_start an_law_start : Option Addr} {sl_law_start : Array (Option Value)} {oc_law_start kV_law_start dc_law_start pm_law_start cd_law_start ct_law_start : Value}
    (a_law_start : PySem.W.nsIn K mainGlobals "_law_start" = some (some (.ref f_law_start)))
    (l_law_start : K.lookup f_law_start = some ⟨oc_law_start, od_law_start, .func (PySem.W.fnOf "_law_start" "_law_start" (defArgs s_law_start) (defBody s_law_start) (defScope s_law_start) .none kV_law_start dc_law_start pm_law_start an_law_start cd_law_start ct_law_start), sl_law_start⟩)
    (c_law_start : PySem.W.codeIn K cd_law_start "_law_start" = true) (k_law_start : PySem.W.keepIn K (.ref f_law_start) = true)
    {f_law_fill : Addr} {od_law_fill an_law_fill : Option Addr} {sl_law_fill : Array (Option Value)} {oc_law_fill kV_law_fill dc_law_fill pm_law_fill cd_law_fill ct_law_fill : Value}
    (a_law_fill : PySem.W.nsIn K mainGlobals "_law_fill" = some (some (.ref f_law_fill)))
    (l_law_fill : K.lookup f_law_fill = some ⟨oc_law_fill, od_law_fill, .func (PySem.W.fnOf "_law_fill" "_law_fill" (defArgs s_law_fill) (defBody s_law_fill) (defScope s_law_fill) .none kV_law_fill dc_law_fill pm_law_fill an_law_fill cd_law_fill ct_law_fill), sl_law_fill⟩)
    (c_law_fill : PySem.W.codeIn K cd_law_fill "_law_fill" = true) (k_law_fill : PySem.W.keepIn K (.ref f_law_fill) = true)
    {f_law_take : Addr} {od_law_take an_law_take : Option Addr} {sl_law_take : Array (Option Value)} {oc_law_take kV_law_take dc_law_take pm_law_take cd_law_take ct_law_take : Value}
    (a_law_take : PySem.W.nsIn K mainGlobals "_law_take" = some (some (.ref f_law_take)))
    (l_law_take : K.lookup f_law_take = some ⟨oc_law_take, od_law_take, .func (PySem.W.fnOf "_law_take" "_law_take" (defArgs s_law_take) (defBody s_law_take) (defScope s_law_take) .none kV_law_take dc_law_take pm_law_take an_law_take cd_law_take ct_law_take), sl_law_take⟩)
    (c_law_take : PySem.W.codeIn K cd_law_take "_law_take" = true) (k_law_take : PySem.W.keepIn K (.ref f_law_take) = true)
    {f_law_zero : Addr} {od_law_zero an_law_zero : Option Addr} {sl_law_zero : Array (Option Value)} {oc_law_zero kV_law_zero dc_law_zero pm_law_zero cd_law_zero ct_law_zero : Value}
    (a_law_zero : PySem.W.nsIn K mainGlobals "_law_zero" = some (some (.ref f_law_zero)))
    (l_law_zero : K.lookup f_law_zero = some ⟨oc_law_zero, od_law_zero, .func (PySem.W.fnOf "_law_zero" "_law_zero" (defArgs s_law_zero) (defBody s_law_zero) (defScope s_law_zero) .none kV_law_zero dc_law_zero pm_law_zero an_law_zero cd_law_zero ct_law_zero), sl_law_zero⟩)
    (c_law_zero : PySem.W.codeIn K cd_law_zero "_law_zero" = true) (k_law_zero : PySem.W.keepIn K (.ref f_law_zero) = true)
    {f_law_common : Addr} {od_law_common an_law_common : Option Addr} {sl_law_common : Array (Option Value)} {oc_law_common kV_law_common dc_law_common pm_law_common cd_law_common ct_law_common : Value}
    (a_law_common : PySem.W.nsIn K mainGlobals "_law_common" = some (some (.ref f_law_common)))
    (l_law_common : K.lookup f_law_common = some ⟨oc_law_common, od_law_common, .func (PySem.W.fnOf "_law_common" "_law_common" (defArgs s_law_common) (defBody s_law_common) (defScope s_law_common) .none kV_law_common dc_law_common pm_law_common an_law_common cd_law_common ct_law_common), sl_law_common⟩)
    (c_law_common : PySem.W.codeIn K cd_law_common "_law_common" = true) (k_law_common : PySem.W.keepIn K (.ref f_law_common) = true)
    {f_law_domain : Addr} {od_law_domain an_law_domain : Option Addr} {sl_law_domain : Array (Option Value)} {oc_law_domain kV_law_domain dc_law_domain pm_law_domain cd_law_domain ct_law_domain : Value}
    (a_law_domain : PySem.W.nsIn K mainGlobals "_law_domain" = some (some (.ref f_law_domain)))
    (l_law_domain : K.lookup f_law_domain = some ⟨oc_law_domain, od_law_domain, .func (PySem.W.fnOf "_law_domain" "_law_domain" (defArgs s_law_domain) (defBody s_law_domain) (defScope s_law_domain) .none kV_law_domain dc_law_domain pm_law_domain an_law_domain cd_law_domain ct_law_domain), sl_law_domain⟩)
    (c_law_domain : PySem.W.codeIn K cd_law_domain "_law_domain" = true) (k_law_domain : PySem.W.keepIn K (.ref f_law_domain) = true)
    {f_law_small : Addr} {od_law_small an_law_small : Option Addr} {sl_law_small : Array (Option Value)} {oc_law_small kV_law_small dc_law_small pm_law_small cd_law_small ct_law_small : Value}
    (a_law_small : PySem.W.nsIn K mainGlobals "_law_small" = some (some (.ref f_law_small)))
    (l_law_small : K.lookup f_law_small = some ⟨oc_law_small, od_law_small, .func (PySem.W.fnOf "_law_small" "_law_small" (defArgs s_law_small) (defBody s_law_small) (defScope s_law_small) .none kV_law_small dc_law_small pm_law_small an_law_small cd_law_small ct_law_small), sl_law_small⟩)
    (c_law_small : PySem.W.codeIn K cd_law_small "_law_small" = true) (k_law_small : PySem.W.keepIn K (.ref f_law_small) = true)
    {f_law_matrix : Addr} {od_law_matrix an_law_matrix : Option Addr} {sl_law_matrix : Array (Option Value)} {oc_law_matrix kV_law_matrix dc_law_matrix pm_law_matrix cd_law_matrix ct_law_matrix : Value}
    (a_law_matrix : PySem.W.nsIn K mainGlobals "_law_matrix" = some (some (.ref f_law_matrix)))
    (l_law_matrix : K.lookup f_law_matrix = some ⟨oc_law_matrix, od_law_matrix, .func (PySem.W.fnOf "_law_matrix" "_law_matrix" (defArgs s_law_matrix) (defBody s_law_matrix) (defScope s_law_matrix) .none kV_law_matrix dc_law_matrix pm_law_matrix an_law_matrix cd_law_matrix ct_law_matrix), sl_law_matrix⟩)
    (c_law_matrix : PySem.W.codeIn K cd_law_matrix "_law_matrix" = true) (k_law_matrix : PySem.W.keepIn K (.ref f_law_matrix) = true)
    {f_law_domain_text : Addr} {od_law_domain_text an_law_domain_text : Option Addr} {sl_law_domain_text : Array (Option Value)} {oc_law_domain_text kV_law_domain_text dc_law_domain_text pm_law_domain_text cd_law_domain_text ct_law_domain_text : Value}
    (a_law_domain_text : PySem.W.nsIn K mainGlobals "_law_domain_text" = some (some (.ref f_law_domain_text)))
    (l_law_domain_text : K.lookup f_law_domain_text = some ⟨oc_law_domain_text, od_law_domain_text, .func (PySem.W.fnOf "_law_domain_text" "_law_domain_text" (defArgs s_law_domain_text) (defBody s_law_domain_text) (defScope s_law_domain_text) .none kV_law_domain_text dc_law_domain_text pm_law_domain_text an_law_domain_text cd_law_domain_text ct_law_domain_text), sl_law_domain_text⟩)
    (c_law_domain_text : PySem.W.codeIn K cd_law_domain_text "_law_domain_text" = true) (k_law_domain_text : PySem.W.keepIn K (.ref f_law_domain_text) = true)
    {f_law_text : Addr} {od_law_text an_law_text : Option Addr} {sl_law_text : Array (Option Value)} {oc_law_text kV_law_text dc_law_text pm_law_text cd_law_text ct_law_text : Value}
    (a_law_text : PySem.W.nsIn K mainGlobals "_law_text" = some (some (.ref f_law_text)))
    (l_law_text : K.lookup f_law_text = some ⟨oc_law_text, od_law_text, .func (PySem.W.fnOf "_law_text" "_law_text" (defArgs s_law_text) (defBody s_law_text) (defScope s_law_text) .none kV_law_text dc_law_text pm_law_text an_law_text cd_law_text ct_law_text), sl_law_text⟩)
    (c_law_text : PySem.W.codeIn K cd_law_text "_law_text" = true) (k_law_text : PySem.W.keepIn K (.ref f_law_text) = true)
    {f_law_vector_text : Addr} {od_law_vector_text an_law_vector_text : Option Addr} {sl_law_vector_text : Array (Option Value)} {oc_law_vector_text kV_law_vector_text dc_law_vector_text pm_law_vector_text cd_law_vector_text ct_law_vector_text : Value}
    (a_law_vector_text : PySem.W.nsIn K mainGlobals "_law_vector_text" = some (some (.ref f_law_vector_text)))
    (l_law_vector_text : K.lookup f_law_vector_text = some ⟨oc_law_vector_text, od_law_vector_text, .func (PySem.W.fnOf "_law_vector_text" "_law_vector_text" (defArgs s_law_vector_text) (defBody s_law_vector_text) (defScope s_law_vector_text) .none kV_law_vector_text dc_law_vector_text pm_law_vector_text an_law_vector_text cd_law_vector_text ct_law_vector_text), sl_law_vector_text⟩)
    (c_law_vector_text : PySem.W.codeIn K cd_law_vector_text "_law_vector_text" = true) (k_law_vector_text : PySem.W.keepIn K (.ref f_law_vector_text) = true)
    {f_law_matrix_text : Addr} {od_law_matrix_text an_law_matrix_text : Option Addr} {sl_law_matrix_text : Array (Option Value)} {oc_law_matrix_text kV_law_matrix_text dc_law_matrix_text pm_law_matrix_text cd_law_matrix_text ct_law_matrix_text : Value}
    (a_law_matrix_text : PySem.W.nsIn K mainGlobals "_law_matrix_text" = some (some (.ref f_law_matrix_text)))
    (l_law_matrix_text : K.lookup f_law_matrix_text = some ⟨oc_law_matrix_text, od_law_matrix_text, .func (PySem.W.fnOf "_law_matrix_text" "_law_matrix_text" (defArgs s_law_matrix_text) (defBody s_law_matrix_text) (defScope s_law_matrix_text) .none kV_law_matrix_text dc_law_matrix_text pm_law_matrix_text an_law_matrix_text cd_law_matrix_text ct_law_matrix_text), sl_law_matrix_text⟩)
    (c_law_matrix_text : PySem.W.codeIn K cd_law_matrix_text "_law_matrix_text" = true) (k_law_matrix_text : PySem.W.keepIn K (.ref f_law_matrix_text) = true)
    {f_law_natural_of : Addr} {od_law_natural_of an_law_natural_of : Option Addr} {sl_law_natural_of : Array (Option Value)} {oc_law_natural_of kV_law_natural_of dc_law_natural_of pm_law_natural_of cd_law_natural_of ct_law_natural_of : Value}
    (a_law_natural_of : PySem.W.nsIn K mainGlobals "_law_natural_of" = some (some (.ref f_law_natural_of)))
    (l_law_natural_of : K.lookup f_law_natural_of = some ⟨oc_law_natural_of, od_law_natural_of, .func (PySem.W.fnOf "_law_natural_of" "_law_natural_of" (defArgs s_law_natural_of) (defBody s_law_natural_of) (defScope s_law_natural_of) .none kV_law_natural_of dc_law_natural_of pm_law_natural_of an_law_natural_of cd_law_natural_of ct_law_natural_of), sl_law_natural_of⟩)
    (c_law_natural_of : PySem.W.codeIn K cd_law_natural_of "_law_natural_of" = true) (k_law_natural_of : PySem.W.keepIn K (.ref f_law_natural_of) = true)
    {f_law_integer_of : Addr} {od_law_integer_of an_law_integer_of : Option Addr} {sl_law_integer_of : Array (Option Value)} {oc_law_integer_of kV_law_integer_of dc_law_integer_of pm_law_integer_of cd_law_integer_of ct_law_integer_of : Value}
    (a_law_integer_of : PySem.W.nsIn K mainGlobals "_law_integer_of" = some (some (.ref f_law_integer_of)))
    (l_law_integer_of : K.lookup f_law_integer_of = some ⟨oc_law_integer_of, od_law_integer_of, .func (PySem.W.fnOf "_law_integer_of" "_law_integer_of" (defArgs s_law_integer_of) (defBody s_law_integer_of) (defScope s_law_integer_of) .none kV_law_integer_of dc_law_integer_of pm_law_integer_of an_law_integer_of cd_law_integer_of ct_law_integer_of), sl_law_integer_of⟩)
    (c_law_integer_of : PySem.W.codeIn K cd_law_integer_of "_law_integer_of" = true) (k_law_integer_of : PySem.W.keepIn K (.ref f_law_integer_of) = true)
    {f_law_domain_of : Addr} {od_law_domain_of an_law_domain_of : Option Addr} {sl_law_domain_of : Array (Option Value)} {oc_law_domain_of kV_law_domain_of dc_law_domain_of pm_law_domain_of cd_law_domain_of ct_law_domain_of : Value}
    (a_law_domain_of : PySem.W.nsIn K mainGlobals "_law_domain_of" = some (some (.ref f_law_domain_of)))
    (l_law_domain_of : K.lookup f_law_domain_of = some ⟨oc_law_domain_of, od_law_domain_of, .func (PySem.W.fnOf "_law_domain_of" "_law_domain_of" (defArgs s_law_domain_of) (defBody s_law_domain_of) (defScope s_law_domain_of) .none kV_law_domain_of dc_law_domain_of pm_law_domain_of an_law_domain_of cd_law_domain_of ct_law_domain_of), sl_law_domain_of⟩)
    (c_law_domain_of : PySem.W.codeIn K cd_law_domain_of "_law_domain_of" = true) (k_law_domain_of : PySem.W.keepIn K (.ref f_law_domain_of) = true)
    {f_law_element_of : Addr} {od_law_element_of an_law_element_of : Option Addr} {sl_law_element_of : Array (Option Value)} {oc_law_element_of kV_law_element_of dc_law_element_of pm_law_element_of cd_law_element_of ct_law_element_of : Value}
    (a_law_element_of : PySem.W.nsIn K mainGlobals "_law_element_of" = some (some (.ref f_law_element_of)))
    (l_law_element_of : K.lookup f_law_element_of = some ⟨oc_law_element_of, od_law_element_of, .func (PySem.W.fnOf "_law_element_of" "_law_element_of" (defArgs s_law_element_of) (defBody s_law_element_of) (defScope s_law_element_of) .none kV_law_element_of dc_law_element_of pm_law_element_of an_law_element_of cd_law_element_of ct_law_element_of), sl_law_element_of⟩)
    (c_law_element_of : PySem.W.codeIn K cd_law_element_of "_law_element_of" = true) (k_law_element_of : PySem.W.keepIn K (.ref f_law_element_of) = true)
    {f_law_pieces : Addr} {od_law_pieces an_law_pieces : Option Addr} {sl_law_pieces : Array (Option Value)} {oc_law_pieces kV_law_pieces dc_law_pieces pm_law_pieces cd_law_pieces ct_law_pieces : Value}
    (a_law_pieces : PySem.W.nsIn K mainGlobals "_law_pieces" = some (some (.ref f_law_pieces)))
    (l_law_pieces : K.lookup f_law_pieces = some ⟨oc_law_pieces, od_law_pieces, .func (PySem.W.fnOf "_law_pieces" "_law_pieces" (defArgs s_law_pieces) (defBody s_law_pieces) (defScope s_law_pieces) .none kV_law_pieces dc_law_pieces pm_law_pieces an_law_pieces cd_law_pieces ct_law_pieces), sl_law_pieces⟩)
    (c_law_pieces : PySem.W.codeIn K cd_law_pieces "_law_pieces" = true) (k_law_pieces : PySem.W.keepIn K (.ref f_law_pieces) = true)
    {f_law_list_of : Addr} {od_law_list_of an_law_list_of : Option Addr} {sl_law_list_of : Array (Option Value)} {oc_law_list_of kV_law_list_of dc_law_list_of pm_law_list_of cd_law_list_of ct_law_list_of : Value}
    (a_law_list_of : PySem.W.nsIn K mainGlobals "_law_list_of" = some (some (.ref f_law_list_of)))
    (l_law_list_of : K.lookup f_law_list_of = some ⟨oc_law_list_of, od_law_list_of, .func (PySem.W.fnOf "_law_list_of" "_law_list_of" (defArgs s_law_list_of) (defBody s_law_list_of) (defScope s_law_list_of) .none kV_law_list_of dc_law_list_of pm_law_list_of an_law_list_of cd_law_list_of ct_law_list_of), sl_law_list_of⟩)
    (c_law_list_of : PySem.W.codeIn K cd_law_list_of "_law_list_of" = true) (k_law_list_of : PySem.W.keepIn K (.ref f_law_list_of) = true)
    {f_law_vector_of : Addr} {od_law_vector_of an_law_vector_of : Option Addr} {sl_law_vector_of : Array (Option Value)} {oc_law_vector_of kV_law_vector_of dc_law_vector_of pm_law_vector_of cd_law_vector_of ct_law_vector_of : Value}
    (a_law_vector_of : PySem.W.nsIn K mainGlobals "_law_vector_of" = some (some (.ref f_law_vector_of)))
    (l_law_vector_of : K.lookup f_law_vector_of = some ⟨oc_law_vector_of, od_law_vector_of, .func (PySem.W.fnOf "_law_vector_of" "_law_vector_of" (defArgs s_law_vector_of) (defBody s_law_vector_of) (defScope s_law_vector_of) .none kV_law_vector_of dc_law_vector_of pm_law_vector_of an_law_vector_of cd_law_vector_of ct_law_vector_of), sl_law_vector_of⟩)
    (c_law_vector_of : PySem.W.codeIn K cd_law_vector_of "_law_vector_of" = true) (k_law_vector_of : PySem.W.keepIn K (.ref f_law_vector_of) = true)
    {f_law_matrix_of : Addr} {od_law_matrix_of an_law_matrix_of : Option Addr} {sl_law_matrix_of : Array (Option Value)} {oc_law_matrix_of kV_law_matrix_of dc_law_matrix_of pm_law_matrix_of cd_law_matrix_of ct_law_matrix_of : Value}
    (a_law_matrix_of : PySem.W.nsIn K mainGlobals "_law_matrix_of" = some (some (.ref f_law_matrix_of)))
    (l_law_matrix_of : K.lookup f_law_matrix_of = some ⟨oc_law_matrix_of, od_law_matrix_of, .func (PySem.W.fnOf "_law_matrix_of" "_law_matrix_of" (defArgs s_law_matrix_of) (defBody s_law_matrix_of) (defScope s_law_matrix_of) .none kV_law_matrix_of dc_law_matrix_of pm_law_matrix_of an_law_matrix_of cd_law_matrix_of ct_law_matrix_of), sl_law_matrix_of⟩)
    (c_law_matrix_of : PySem.W.codeIn K cd_law_matrix_of "_law_matrix_of" = true) (k_law_matrix_of : PySem.W.keepIn K (.ref f_law_matrix_of) = true)
    {f_law_due : Addr} {od_law_due an_law_due : Option Addr} {sl_law_due : Array (Option Value)} {oc_law_due kV_law_due dc_law_due pm_law_due cd_law_due ct_law_due : Value}
    (a_law_due : PySem.W.nsIn K mainGlobals "_law_due" = some (some (.ref f_law_due)))
    (l_law_due : K.lookup f_law_due = some ⟨oc_law_due, od_law_due, .func (PySem.W.fnOf "_law_due" "_law_due" (defArgs s_law_due) (defBody s_law_due) (defScope s_law_due) .none kV_law_due dc_law_due pm_law_due an_law_due cd_law_due ct_law_due), sl_law_due⟩)
    (c_law_due : PySem.W.codeIn K cd_law_due "_law_due" = true) (k_law_due : PySem.W.keepIn K (.ref f_law_due) = true)
    {f_law_made : Addr} {od_law_made an_law_made : Option Addr} {sl_law_made : Array (Option Value)} {oc_law_made kV_law_made dc_law_made pm_law_made cd_law_made ct_law_made : Value}
    (a_law_made : PySem.W.nsIn K mainGlobals "_law_made" = some (some (.ref f_law_made)))
    (l_law_made : K.lookup f_law_made = some ⟨oc_law_made, od_law_made, .func (PySem.W.fnOf "_law_made" "_law_made" (defArgs s_law_made) (defBody s_law_made) (defScope s_law_made) .none kV_law_made dc_law_made pm_law_made an_law_made cd_law_made ct_law_made), sl_law_made⟩)
    (c_law_made : PySem.W.codeIn K cd_law_made "_law_made" = true) (k_law_made : PySem.W.keepIn K (.ref f_law_made) = true)
    {f_law_read : Addr} {od_law_read an_law_read : Option Addr} {sl_law_read : Array (Option Value)} {oc_law_read kV_law_read dc_law_read pm_law_read cd_law_read ct_law_read : Value}
    (a_law_read : PySem.W.nsIn K mainGlobals "_law_read" = some (some (.ref f_law_read)))
    (l_law_read : K.lookup f_law_read = some ⟨oc_law_read, od_law_read, .func (PySem.W.fnOf "_law_read" "_law_read" (defArgs s_law_read) (defBody s_law_read) (defScope s_law_read) .none kV_law_read dc_law_read pm_law_read an_law_read cd_law_read ct_law_read), sl_law_read⟩)
    (c_law_read : PySem.W.codeIn K cd_law_read "_law_read" = true) (k_law_read : PySem.W.keepIn K (.ref f_law_read) = true)
    {f_law_changed : Addr} {od_law_changed an_law_changed : Option Addr} {sl_law_changed : Array (Option Value)} {oc_law_changed kV_law_changed dc_law_changed pm_law_changed cd_law_changed ct_law_changed : Value}
    (a_law_changed : PySem.W.nsIn K mainGlobals "_law_changed" = some (some (.ref f_law_changed)))
    (l_law_changed : K.lookup f_law_changed = some ⟨oc_law_changed, od_law_changed, .func (PySem.W.fnOf "_law_changed" "_law_changed" (defArgs s_law_changed) (defBody s_law_changed) (defScope s_law_changed) .none kV_law_changed dc_law_changed pm_law_changed an_law_changed cd_law_changed ct_law_changed), sl_law_changed⟩)
    (c_law_changed : PySem.W.codeIn K cd_law_changed "_law_changed" = true) (k_law_changed : PySem.W.keepIn K (.ref f_law_changed) = true)
    {f_law_pieced : Addr} {od_law_pieced an_law_pieced : Option Addr} {sl_law_pieced : Array (Option Value)} {oc_law_pieced kV_law_pieced dc_law_pieced pm_law_pieced cd_law_pieced ct_law_pieced : Value}
    (a_law_pieced : PySem.W.nsIn K mainGlobals "_law_pieced" = some (some (.ref f_law_pieced)))
    (l_law_pieced : K.lookup f_law_pieced = some ⟨oc_law_pieced, od_law_pieced, .func (PySem.W.fnOf "_law_pieced" "_law_pieced" (defArgs s_law_pieced) (defBody s_law_pieced) (defScope s_law_pieced) .none kV_law_pieced dc_law_pieced pm_law_pieced an_law_pieced cd_law_pieced ct_law_pieced), sl_law_pieced⟩)
    (c_law_pieced : PySem.W.codeIn K cd_law_pieced "_law_pieced" = true) (k_law_pieced : PySem.W.keepIn K (.ref f_law_pieced) = true)
    {f_law : Addr} {od_law an_law : Option Addr} {sl_law : Array (Option Value)} {oc_law kV_law dc_law pm_law cd_law ct_law : Value}
    (a_law : PySem.W.nsIn K mainGlobals "law" = some (some (.ref f_law)))
    (l_law : K.lookup f_law = some ⟨oc_law, od_law, .func (PySem.W.fnOf "law" "law" (defArgs s_law) (defBody s_law) (defScope s_law) .none kV_law dc_law pm_law an_law cd_law ct_law), sl_law⟩)
    (c_law : PySem.W.codeIn K cd_law "law" = true) (k_law : PySem.W.keepIn K (.ref f_law) = true)
    {tk_DIGITS : Tok} (g_DIGITS : PySem.W.nsIn K mainGlobals "DIGITS" = some (some (.str (Str.ofString "0123456789") tk_DIGITS)))
    {tk_MOST_DIGITS : Tok} (g_MOST_DIGITS : PySem.W.nsIn K mainGlobals "MOST_DIGITS" = some (some (.int 100000 tk_MOST_DIGITS)))
    {tk_MOST_PRIME : Tok} (g_MOST_PRIME : PySem.W.nsIn K mainGlobals "MOST_PRIME" = some (some (.int 65521 tk_MOST_PRIME)))
    {tk_MOST_SIZE : Tok} (g_MOST_SIZE : PySem.W.nsIn K mainGlobals "MOST_SIZE" = some (some (.int 1000 tk_MOST_SIZE)))
    {tk_PIECE : Tok} (g_PIECE : PySem.W.nsIn K mainGlobals "PIECE" = some (some (.int 1024 tk_PIECE)))
    (y_len : PySem.W.nsIn K mainGlobals "len" = some none)
    (y_tuple : PySem.W.nsIn K mainGlobals "tuple" = some none)
    (y_int : PySem.W.nsIn K mainGlobals "int" = some none)
    (y_range : PySem.W.nsIn K mainGlobals "range" = some none)
    (y_isinstance : PySem.W.nsIn K mainGlobals "isinstance" = some none)
    (y_str : PySem.W.nsIn K mainGlobals "str" = some none)
    (y_abs : PySem.W.nsIn K mainGlobals "abs" = some none)
    (y_min : PySem.W.nsIn K mainGlobals "min" = some none)
    (y_max : PySem.W.nsIn K mainGlobals "max" = some none)
    (y_bool : PySem.W.nsIn K mainGlobals "bool" = some none)
    {C fI N_C : Addr} {nm_C q_C : Str} {bs_C bm_C : List Value} {sn_C : List Str} {sub_C : List Value} {ab_C : Bool} {col_C : Option Bool} {dd_C : Option Addr} {m0 m1 m2 m3 m5 : Option Value}
    {oI : Value} {odI anI cddI cldI : Option Addr} {docI pmI ctI ccl_I cl_I : Value} {cda_I cc_I : Addr} {osl_I ccs_I csl_I : Array (Option Value)} {vs_I : Array Value} {file_I : Str} {tf_I : Tok}
    (aC : PySem.W.nsIn K mainGlobals "TextError" = some (some (.ref C)))
    (xC : K.lookup C = some (excClassObj nm_C q_C C N_C bs_C bm_C true sn_C sub_C ab_C col_C dd_C m0 m1 m2 m3 m5 "ValueError.__new__")) (rC : PySem.HandSPX.refsVE bm_C = true)
    (sa : PySem.W.findIn K (.ref C) "__setattr__" = some (some (.builtin "object.__setattr__"))) (ga : PySem.W.findIn K (.ref C) "__getattribute__" = some (some (.builtin "BaseException.__getattribute__"))) (gg : PySem.W.findIn K (.ref C) "__getattr__" = some none) (nb : PySem.W.findIn K (.ref C) "line" = some none)
    (aI : PySem.W.findIn K (.ref C) "__init__" = some (some (.ref fI))) (tI : PySem.W.typeIn K (.ref fI) = some (.type "function"))
    (kC : PySem.W.keepIn K (.ref C) = true) (eC : PySem.W.subIn K (.ref C) (.type "BaseException") = some true) (vC : PySem.W.subIn K (.ref C) (.type "ValueError") = some true) (tC : PySem.W.typeIn K (.ref C) = some (.type "type")) (hC : PySem.W.hasDictIn K C = true)
    (iC : PySem.W.exmOne K (.ref C) (.ref C) = some true) (uC : PySem.W.ks_superIn K C C "__init__" = some (some (.builtin "ValueError.__init__"))) (tp : PySem.W.nsIn K PySem.cStatics "thirdparty.any" = some none) (sC : PySem.W.nsIn K mainGlobals "super" = some none)
    (top : (P.main.scope.names.lookup ("super" : Str)).isSome = false)
    (lI : K.lookup fI = some ⟨oI, odI, .func (PySem.TeX.teFn docI pmI anI cda_I ctI cc_I), osl_I⟩) (cI : PySem.W.codeIn K (.ref cda_I) "TextError.__init__" = true)
    (cellI : K.lookup cc_I = some ⟨cl_I, cldI, .cell (some (.ref C)), csl_I⟩) (codI : K.lookup cda_I = some ⟨ccl_I, cddI, .fields vs_I, ccs_I⟩) (vsI : vs_I[2]? = some (.str file_I tf_I)) (flI : ((P.main.file : Str) == file_I) = true)
    {C0 C1 C2 C3 : Addr} (b0 : PySem.W.nsIn K mainGlobals "FacetloreError" = some (some (.ref C0))) (b1 : PySem.W.nsIn K mainGlobals "DomainError" = some (some (.ref C1))) (b2 : PySem.W.nsIn K mainGlobals "ShapeError" = some (some (.ref C2))) (b3 : PySem.W.nsIn K mainGlobals "SingularError" = some (some (.ref C3)))
    (b4 : PySem.W.exmOne K (.ref C) (.ref C0) = some true) (b5 : PySem.W.kitOne K (.ref C) (.ref C) = some true) (b6 : PySem.W.kitOne K (.ref C) (.ref C1) = some false) (b7 : PySem.W.kitOne K (.ref C) (.ref C2) = some false) (b8 : PySem.W.kitOne K (.ref C) (.ref C3) = some false)
    (i1 : (PySem.W.clsIn K C).isSome = true) (i5 : PySem.W.findIn K (.ref C) "__class__" = some (some (.builtin "object.__class__"))) (i6 : PySem.W.specialIn K (.builtin "object.__class__") "__get__" = some (some (.builtin "getset_descriptor.__get__"))) (i7 : PySem.W.takesIn K (.builtin "object.__class__") = some true) (i8 : PySem.W.mroIn K C (.type "object") = some true)
    : ∃ fd : FuncData, (∀ (s : Shared) (u : Value), BindsTo s fd ⟨[u], []⟩ [("script", u)]) ∧ ∀ base : Heap, K.In base → base.Ns mainGlobals mg → FnOk P w K mg base (L2.CX P w) 17 fa fd ["script"] (spLawM K) := by
  obtain rfl : f_law = fa := by
    have e := (PySem.W.mg_of X G a_law).symm.trans hfa
    injection e with e
    injection e
  have F_divisor := fun_mk (st := s_divisor) l_divisor c_divisor k_divisor
  have D_divisor : DefAt K mg "divisor" s_divisor ["a", "b"] f_divisor _ := ⟨F_divisor, PySem.W.mg_of X G a_divisor, F_divisor.binds (ps := ["a", "b"]) fun _ _ _ _ _ _ us hl => match us, hl with | [_, _], _ => rfl⟩
  have F_is_prime := fun_mk (st := s_is_prime) l_is_prime c_is_prime k_is_prime
  have D_is_prime : DefAt K mg "is_prime" s_is_prime ["n"] f_is_prime _ := ⟨F_is_prime, PySem.W.mg_of X G a_is_prime, F_is_prime.binds (ps := ["n"]) fun _ _ _ _ _ _ us hl => match us, hl with | [_], _ => rfl⟩
  have F_is_integer := fun_mk (st := s_is_integer) l_is_integer c_is_integer k_is_integer
  have D_is_integer : DefAt K mg "is_integer" s_is_integer ["x"] f_is_integer _ := ⟨F_is_integer, PySem.W.mg_of X G a_is_integer, F_is_integer.binds (ps := ["x"]) fun _ _ _ _ _ _ us hl => match us, hl with | [_], _ => rfl⟩
  have F_is_field := fun_mk (st := s_is_field) l_is_field c_is_field k_is_field
  have D_is_field : DefAt K mg "is_field" s_is_field ["d"] f_is_field _ := ⟨F_is_field, PySem.W.mg_of X G a_is_field, F_is_field.binds (ps := ["d"]) fun _ _ _ _ _ _ us hl => match us, hl with | [_], _ => rfl⟩
  have F_is_domain := fun_mk (st := s_is_domain) l_is_domain c_is_domain k_is_domain
  have D_is_domain : DefAt K mg "is_domain" s_is_domain ["d"] f_is_domain _ := ⟨F_is_domain, PySem.W.mg_of X G a_is_domain, F_is_domain.binds (ps := ["d"]) fun _ _ _ _ _ _ us hl => match us, hl with | [_], _ => rfl⟩
  have F_need_domain := fun_mk (st := s_need_domain) l_need_domain c_need_domain k_need_domain
  have D_need_domain : DefAt K mg "need_domain" s_need_domain ["d"] f_need_domain _ := ⟨F_need_domain, PySem.W.mg_of X G a_need_domain, F_need_domain.binds (ps := ["d"]) fun _ _ _ _ _ _ us hl => match us, hl with | [_], _ => rfl⟩
  have F_zero := fun_mk (st := s_zero) l_zero c_zero k_zero
  have D_zero : DefAt K mg "zero" s_zero ["d"] f_zero _ := ⟨F_zero, PySem.W.mg_of X G a_zero, F_zero.binds (ps := ["d"]) fun _ _ _ _ _ _ us hl => match us, hl with | [_], _ => rfl⟩
  have F_belongs := fun_mk (st := s_belongs) l_belongs c_belongs k_belongs
  have D_belongs : DefAt K mg "belongs" s_belongs ["d", "x"] f_belongs _ := ⟨F_belongs, PySem.W.mg_of X G a_belongs, F_belongs.binds (ps := ["d", "x"]) fun _ _ _ _ _ _ us hl => match us, hl with | [_, _], _ => rfl⟩
  have F_is_element := fun_mk (st := s_is_element) l_is_element c_is_element k_is_element
  have D_is_element : DefAt K mg "is_element" s_is_element ["d", "x"] f_is_element _ := ⟨F_is_element, PySem.W.mg_of X G a_is_element, F_is_element.binds (ps := ["d", "x"]) fun _ _ _ _ _ _ us hl => match us, hl with | [_, _], _ => rfl⟩
  have F_is_matrix := fun_mk (st := s_is_matrix) l_is_matrix c_is_matrix k_is_matrix
  have D_is_matrix : DefAt K mg "is_matrix" s_is_matrix ["d", "a"] f_is_matrix _ := ⟨F_is_matrix, PySem.W.mg_of X G a_is_matrix, F_is_matrix.binds (ps := ["d", "a"]) fun _ _ _ _ _ _ us hl => match us, hl with | [_, _], _ => rfl⟩
  have F_piece_base := fun_mk (st := s_piece_base) l_piece_base c_piece_base k_piece_base
  have D_piece_base : DefAt K mg "piece_base" s_piece_base [] f_piece_base _ := ⟨F_piece_base, PySem.W.mg_of X G a_piece_base, F_piece_base.binds (ps := []) fun _ _ _ _ _ _ us hl => match us, hl with | [], _ => rfl⟩
  have F_fail := fun_mk (st := s_fail) l_fail c_fail k_fail
  have D_fail : DefAt K mg "fail" s_fail [] f_fail _ := ⟨F_fail, PySem.W.mg_of X G a_fail, F_fail.binds (ps := []) fun _ _ _ _ _ _ us hl => match us, hl with | [], _ => rfl⟩
  have F_read_natural := fun_mk (st := s_read_natural) l_read_natural c_read_natural k_read_natural
  have D_read_natural : DefAt K mg "read_natural" s_read_natural ["text"] f_read_natural _ := ⟨F_read_natural, PySem.W.mg_of X G a_read_natural, F_read_natural.binds (ps := ["text"]) fun _ _ _ _ _ _ us hl => match us, hl with | [_], _ => rfl⟩
  have F_read_integer := fun_mk (st := s_read_integer) l_read_integer c_read_integer k_read_integer
  have D_read_integer : DefAt K mg "read_integer" s_read_integer ["text"] f_read_integer _ := ⟨F_read_integer, PySem.W.mg_of X G a_read_integer, F_read_integer.binds (ps := ["text"]) fun _ _ _ _ _ _ us hl => match us, hl with | [_], _ => rfl⟩
  have F_read_domain := fun_mk (st := s_read_domain) l_read_domain c_read_domain k_read_domain
  have D_read_domain : DefAt K mg "read_domain" s_read_domain ["text"] f_read_domain _ := ⟨F_read_domain, PySem.W.mg_of X G a_read_domain, F_read_domain.binds (ps := ["text"]) fun _ _ _ _ _ _ us hl => match us, hl with | [_], _ => rfl⟩
  have F_pieces := fun_mk (st := s_pieces) l_pieces c_pieces k_pieces
  have D_pieces : DefAt K mg "pieces" s_pieces ["text"] f_pieces _ := ⟨F_pieces, PySem.W.mg_of X G a_pieces, F_pieces.binds (ps := ["text"]) fun _ _ _ _ _ _ us hl => match us, hl with | [_], _ => rfl⟩
  have F_read_element := fun_mk (st := s_read_element) l_read_element c_read_element k_read_element
  have D_read_element : DefAt K mg "read_element" s_read_element ["d", "text"] f_read_element _ := ⟨F_read_element, PySem.W.mg_of X G a_read_element, F_read_element.binds (ps := ["d", "text"]) fun _ _ _ _ _ _ us hl => match us, hl with | [_, _], _ => rfl⟩
  have F_read_list := fun_mk (st := s_read_list) l_read_list c_read_list k_read_list
  have D_read_list : DefAt K mg "read_list" s_read_list ["d", "text", "opening", "closing"] f_read_list _ := ⟨F_read_list, PySem.W.mg_of X G a_read_list, F_read_list.binds (ps := ["d", "text", "opening", "closing"]) fun _ _ _ _ _ _ us hl => match us, hl with | [_, _, _, _], _ => rfl⟩
  have F_read_vector := fun_mk (st := s_read_vector) l_read_vector c_read_vector k_read_vector
  have D_read_vector : DefAt K mg "read_vector" s_read_vector ["d", "text"] f_read_vector _ := ⟨F_read_vector, PySem.W.mg_of X G a_read_vector, F_read_vector.binds (ps := ["d", "text"]) fun _ _ _ _ _ _ us hl => match us, hl with | [_, _], _ => rfl⟩
  have F_read_sizes := fun_mk (st := s_read_sizes) l_read_sizes c_read_sizes k_read_sizes
  have D_read_sizes : DefAt K mg "read_sizes" s_read_sizes ["text"] f_read_sizes _ := ⟨F_read_sizes, PySem.W.mg_of X G a_read_sizes, F_read_sizes.binds (ps := ["text"]) fun _ _ _ _ _ _ us hl => match us, hl with | [_], _ => rfl⟩
  have F_read_matrix := fun_mk (st := s_read_matrix) l_read_matrix c_read_matrix k_read_matrix
  have D_read_matrix : DefAt K mg "read_matrix" s_read_matrix ["d", "text"] f_read_matrix _ := ⟨F_read_matrix, PySem.W.mg_of X G a_read_matrix, F_read_matrix.binds (ps := ["d", "text"]) fun _ _ _ _ _ _ us hl => match us, hl with | [_, _], _ => rfl⟩
  have F_law_start := fun_mk (st := s_law_start) l_law_start c_law_start k_law_start
  have D_law_start : DefAt K mg "_law_start" s_law_start ["script"] f_law_start _ := ⟨F_law_start, PySem.W.mg_of X G a_law_start, F_law_start.binds (ps := ["script"]) fun _ _ _ _ _ _ us hl => match us, hl with | [_], _ => rfl⟩
  have F_law_fill := fun_mk (st := s_law_fill) l_law_fill c_law_fill k_law_fill
  have D_law_fill : DefAt K mg "_law_fill" s_law_fill ["c"] f_law_fill _ := ⟨F_law_fill, PySem.W.mg_of X G a_law_fill, F_law_fill.binds (ps := ["c"]) fun _ _ _ _ _ _ us hl => match us, hl with | [_], _ => rfl⟩
  have F_law_take := fun_mk (st := s_law_take) l_law_take c_law_take k_law_take
  have D_law_take : DefAt K mg "_law_take" s_law_take ["c", "many"] f_law_take _ := ⟨F_law_take, PySem.W.mg_of X G a_law_take, F_law_take.binds (ps := ["c", "many"]) fun _ _ _ _ _ _ us hl => match us, hl with | [_, _], _ => rfl⟩
  have F_law_zero := fun_mk (st := s_law_zero) l_law_zero c_law_zero k_law_zero
  have D_law_zero : DefAt K mg "_law_zero" s_law_zero ["d"] f_law_zero _ := ⟨F_law_zero, PySem.W.mg_of X G a_law_zero, F_law_zero.binds (ps := ["d"]) fun _ _ _ _ _ _ us hl => match us, hl with | [_], _ => rfl⟩
  have F_law_common := fun_mk (st := s_law_common) l_law_common c_law_common k_law_common
  have D_law_common : DefAt K mg "_law_common" s_law_common ["a", "b"] f_law_common _ := ⟨F_law_common, PySem.W.mg_of X G a_law_common, F_law_common.binds (ps := ["a", "b"]) fun _ _ _ _ _ _ us hl => match us, hl with | [_, _], _ => rfl⟩
  have F_law_domain := fun_mk (st := s_law_domain) l_law_domain c_law_domain k_law_domain
  have D_law_domain : DefAt K mg "_law_domain" s_law_domain ["c"] f_law_domain _ := ⟨F_law_domain, PySem.W.mg_of X G a_law_domain, F_law_domain.binds (ps := ["c"]) fun _ _ _ _ _ _ us hl => match us, hl with | [_], _ => rfl⟩
  have F_law_small := fun_mk (st := s_law_small) l_law_small c_law_small k_law_small
  have D_law_small : DefAt K mg "_law_small" s_law_small ["c", "d"] f_law_small _ := ⟨F_law_small, PySem.W.mg_of X G a_law_small, F_law_small.binds (ps := ["c", "d"]) fun _ _ _ _ _ _ us hl => match us, hl with | [_, _], _ => rfl⟩
  have F_law_matrix := fun_mk (st := s_law_matrix) l_law_matrix c_law_matrix k_law_matrix
  have D_law_matrix : DefAt K mg "_law_matrix" s_law_matrix ["c", "d", "m", "n"] f_law_matrix _ := ⟨F_law_matrix, PySem.W.mg_of X G a_law_matrix, F_law_matrix.binds (ps := ["c", "d", "m", "n"]) fun _ _ _ _ _ _ us hl => match us, hl with | [_, _, _, _], _ => rfl⟩
  have F_law_domain_text := fun_mk (st := s_law_domain_text) l_law_domain_text c_law_domain_text k_law_domain_text
  have D_law_domain_text : DefAt K mg "_law_domain_text" s_law_domain_text ["d"] f_law_domain_text _ := ⟨F_law_domain_text, PySem.W.mg_of X G a_law_domain_text, F_law_domain_text.binds (ps := ["d"]) fun _ _ _ _ _ _ us hl => match us, hl with | [_], _ => rfl⟩
  have F_law_text := fun_mk (st := s_law_text) l_law_text c_law_text k_law_text
  have D_law_text : DefAt K mg "_law_text" s_law_text ["d", "x"] f_law_text _ := ⟨F_law_text, PySem.W.mg_of X G a_law_text, F_law_text.binds (ps := ["d", "x"]) fun _ _ _ _ _ _ us hl => match us, hl with | [_, _], _ => rfl⟩
  have F_law_vector_text := fun_mk (st := s_law_vector_text) l_law_vector_text c_law_vector_text k_law_vector_text
  have D_law_vector_text : DefAt K mg "_law_vector_text" s_law_vector_text ["d", "v"] f_law_vector_text _ := ⟨F_law_vector_text, PySem.W.mg_of X G a_law_vector_text, F_law_vector_text.binds (ps := ["d", "v"]) fun _ _ _ _ _ _ us hl => match us, hl with | [_, _], _ => rfl⟩
  have F_law_matrix_text := fun_mk (st := s_law_matrix_text) l_law_matrix_text c_law_matrix_text k_law_matrix_text
  have D_law_matrix_text : DefAt K mg "_law_matrix_text" s_law_matrix_text ["d", "a"] f_law_matrix_text _ := ⟨F_law_matrix_text, PySem.W.mg_of X G a_law_matrix_text, F_law_matrix_text.binds (ps := ["d", "a"]) fun _ _ _ _ _ _ us hl => match us, hl with | [_, _], _ => rfl⟩
  have F_law_natural_of := fun_mk (st := s_law_natural_of) l_law_natural_of c_law_natural_of k_law_natural_of
  have D_law_natural_of : DefAt K mg "_law_natural_of" s_law_natural_of ["text"] f_law_natural_of _ := ⟨F_law_natural_of, PySem.W.mg_of X G a_law_natural_of, F_law_natural_of.binds (ps := ["text"]) fun _ _ _ _ _ _ us hl => match us, hl with | [_], _ => rfl⟩
  have F_law_integer_of := fun_mk (st := s_law_integer_of) l_law_integer_of c_law_integer_of k_law_integer_of
  have D_law_integer_of : DefAt K mg "_law_integer_of" s_law_integer_of ["text"] f_law_integer_of _ := ⟨F_law_integer_of, PySem.W.mg_of X G a_law_integer_of, F_law_integer_of.binds (ps := ["text"]) fun _ _ _ _ _ _ us hl => match us, hl with | [_], _ => rfl⟩
  have F_law_domain_of := fun_mk (st := s_law_domain_of) l_law_domain_of c_law_domain_of k_law_domain_of
  have D_law_domain_of : DefAt K mg "_law_domain_of" s_law_domain_of ["text"] f_law_domain_of _ := ⟨F_law_domain_of, PySem.W.mg_of X G a_law_domain_of, F_law_domain_of.binds (ps := ["text"]) fun _ _ _ _ _ _ us hl => match us, hl with | [_], _ => rfl⟩
  have F_law_element_of := fun_mk (st := s_law_element_of) l_law_element_of c_law_element_of k_law_element_of
  have D_law_element_of : DefAt K mg "_law_element_of" s_law_element_of ["d", "text"] f_law_element_of _ := ⟨F_law_element_of, PySem.W.mg_of X G a_law_element_of, F_law_element_of.binds (ps := ["d", "text"]) fun _ _ _ _ _ _ us hl => match us, hl with | [_, _], _ => rfl⟩
  have F_law_pieces := fun_mk (st := s_law_pieces) l_law_pieces c_law_pieces k_law_pieces
  have D_law_pieces : DefAt K mg "_law_pieces" s_law_pieces ["text"] f_law_pieces _ := ⟨F_law_pieces, PySem.W.mg_of X G a_law_pieces, F_law_pieces.binds (ps := ["text"]) fun _ _ _ _ _ _ us hl => match us, hl with | [_], _ => rfl⟩
  have F_law_list_of := fun_mk (st := s_law_list_of) l_law_list_of c_law_list_of k_law_list_of
  have D_law_list_of : DefAt K mg "_law_list_of" s_law_list_of ["d", "text"] f_law_list_of _ := ⟨F_law_list_of, PySem.W.mg_of X G a_law_list_of, F_law_list_of.binds (ps := ["d", "text"]) fun _ _ _ _ _ _ us hl => match us, hl with | [_, _], _ => rfl⟩
  have F_law_vector_of := fun_mk (st := s_law_vector_of) l_law_vector_of c_law_vector_of k_law_vector_of
  have D_law_vector_of : DefAt K mg "_law_vector_of" s_law_vector_of ["d", "text"] f_law_vector_of _ := ⟨F_law_vector_of, PySem.W.mg_of X G a_law_vector_of, F_law_vector_of.binds (ps := ["d", "text"]) fun _ _ _ _ _ _ us hl => match us, hl with | [_, _], _ => rfl⟩
  have F_law_matrix_of := fun_mk (st := s_law_matrix_of) l_law_matrix_of c_law_matrix_of k_law_matrix_of
  have D_law_matrix_of : DefAt K mg "_law_matrix_of" s_law_matrix_of ["d", "text"] f_law_matrix_of _ := ⟨F_law_matrix_of, PySem.W.mg_of X G a_law_matrix_of, F_law_matrix_of.binds (ps := ["d", "text"]) fun _ _ _ _ _ _ us hl => match us, hl with | [_, _], _ => rfl⟩
  have F_law_due := fun_mk (st := s_law_due) l_law_due c_law_due k_law_due
  have D_law_due : DefAt K mg "_law_due" s_law_due ["kind", "d", "text"] f_law_due _ := ⟨F_law_due, PySem.W.mg_of X G a_law_due, F_law_due.binds (ps := ["kind", "d", "text"]) fun _ _ _ _ _ _ us hl => match us, hl with | [_, _, _], _ => rfl⟩
  have F_law_made := fun_mk (st := s_law_made) l_law_made c_law_made k_law_made
  have D_law_made : DefAt K mg "_law_made" s_law_made ["kind", "d", "x"] f_law_made _ := ⟨F_law_made, PySem.W.mg_of X G a_law_made, F_law_made.binds (ps := ["kind", "d", "x"]) fun _ _ _ _ _ _ us hl => match us, hl with | [_, _, _], _ => rfl⟩
  have F_law_read := fun_mk (st := s_law_read) l_law_read c_law_read k_law_read
  have D_law_read : DefAt K mg "_law_read" s_law_read ["kind", "d", "text"] f_law_read _ := ⟨F_law_read, PySem.W.mg_of X G a_law_read, F_law_read.binds (ps := ["kind", "d", "text"]) fun _ _ _ _ _ _ us hl => match us, hl with | [_, _, _], _ => rfl⟩
  have F_law_changed := fun_mk (st := s_law_changed) l_law_changed c_law_changed k_law_changed
  have D_law_changed : DefAt K mg "_law_changed" s_law_changed ["c", "text"] f_law_changed _ := ⟨F_law_changed, PySem.W.mg_of X G a_law_changed, F_law_changed.binds (ps := ["c", "text"]) fun _ _ _ _ _ _ us hl => match us, hl with | [_, _], _ => rfl⟩
  have F_law_pieced := fun_mk (st := s_law_pieced) l_law_pieced c_law_pieced k_law_pieced
  have D_law_pieced : DefAt K mg "_law_pieced" s_law_pieced ["c"] f_law_pieced _ := ⟨F_law_pieced, PySem.W.mg_of X G a_law_pieced, F_law_pieced.binds (ps := ["c"]) fun _ _ _ _ _ _ us hl => match us, hl with | [_], _ => rfl⟩
  have F_law := fun_mk (st := s_law) l_law c_law k_law
  have D_law : DefAt K mg "law" s_law ["script"] f_law _ := ⟨F_law, PySem.W.mg_of X G a_law, F_law.binds (ps := ["script"]) fun _ _ _ _ _ _ us hl => match us, hl with | [_], _ => rfl⟩
  have c_DIGITS := PySem.W.mg_of X G g_DIGITS
  have c_MOST_DIGITS := PySem.W.mg_of X G g_MOST_DIGITS
  have c_MOST_PRIME := PySem.W.mg_of X G g_MOST_PRIME
  have c_MOST_SIZE := PySem.W.mg_of X G g_MOST_SIZE
  have c_PIECE := PySem.W.mg_of X G g_PIECE
  have z_len := PySem.W.mg_none_of X G y_len
  have z_tuple := PySem.W.mg_none_of X G y_tuple
  have z_int := PySem.W.mg_none_of X G y_int
  have z_range := PySem.W.mg_none_of X G y_range
  have z_isinstance := PySem.W.mg_none_of X G y_isinstance
  have z_str := PySem.W.mg_none_of X G y_str
  have z_abs := PySem.W.mg_none_of X G y_abs
  have z_min := PySem.W.mg_none_of X G y_min
  have z_max := PySem.W.mg_none_of X G y_max
  have z_bool := PySem.W.mg_none_of X G y_bool
  have TX : PySem.TeX.TeTxt P K mg C fI := { gC := PySem.W.mg_of X G aC, cls := ⟨nm_C, q_C, N_C, bs_C, bm_C, sn_C, sub_C, ab_C, col_C, dd_C, m0, m1, m2, m3, m5, xC, rC⟩, sa := sa, ga := ga, gg := gg, noN := nb, iC := aI, tC := tI, kC := kC, exC := eC, veC := vC, tyC := tC, hdC := hC, te := iC, sup := uC, tp := tp, noS := sC, top := top, fn := ⟨_, _, _, _, _, _, _, _, _, _, _, _, _, _, _, _, _, _, lI, cI, cellI, codI, vsI, flI⟩ }
  have EX : ErrC K mg C C0 C1 C2 C3 := ⟨PySem.W.mg_of X G b0, PySem.W.mg_of X G b1, PySem.W.mg_of X G b2, PySem.W.mg_of X G b3, b4, b5, b6, b7, b8, ⟨i1, ga, gg, eC, i5, i6, i7, i8⟩⟩
  refine ⟨PySem.W.fnOf "law" "law" (defArgs s_law) (defBody s_law) (defScope s_law) .none kV_law dc_law pm_law an_law cd_law ct_law, fun s u => .of_eq rfl, fun base _ _ => law_spM (C := C) (g := ME.f_law) (fun a ns => ?_) (fun ns s h => law_wm h)⟩
  have hC : ∀ k, (cfgL K C a ns).cls k = C := fun _ => rfl
  have G_fail := ok_fail' (c := cfgL K C a ns) (P := P) (w := w) (base := base) rfl D_fail TX rfl
  have G_divisor := ok_divisor (c := cfgL K C a ns) (P := P) (w := w) (base := base) D_divisor z_abs
  have G_is_prime := ok_is_prime (c := cfgL K C a ns) (P := P) (w := w) (base := base) D_is_prime
  have G_is_integer := ok_is_integer (c := cfgL K C a ns) (P := P) (w := w) (base := base) D_is_integer z_isinstance z_bool z_int
  have G_is_field := ok_is_field (c := cfgL K C a ns) (P := P) (w := w) (base := base) D_is_field D_is_prime D_is_integer z_len z_isinstance z_str z_tuple c_MOST_PRIME G_is_prime G_is_integer
  have G_is_domain := ok_is_domain (c := cfgL K C a ns) (P := P) (w := w) (base := base) D_is_domain D_is_field z_len z_isinstance z_str z_tuple G_is_field
  have G_need_domain := ok_need_domain (c := cfgL K C a ns) (P := P) (w := w) (base := base) D_need_domain D_is_domain G_is_domain
  have G_zero := ok_zero (c := cfgL K C a ns) (P := P) (w := w) (base := base) D_zero
  have G_belongs := oks_belongs (c := cfgL K C a ns) (P := P) (w := w) (base := base) D_belongs D_zero D_divisor D_is_integer z_len z_isinstance z_tuple G_zero G_divisor G_is_integer 6
  have G_is_element := ok_is_element (c := cfgL K C a ns) (P := P) (w := w) (base := base) D_is_element D_belongs D_need_domain G_belongs G_need_domain
  have G_is_matrix := ok_is_matrix (c := cfgL K C a ns) (P := P) (w := w) (base := base) D_is_matrix D_belongs D_is_integer D_need_domain z_len z_isinstance z_tuple G_belongs G_is_integer G_need_domain
  have G_piece_base := ok_piece_base (c := cfgL K C a ns) (P := P) (w := w) (base := base) D_piece_base z_range
  have G_read_natural := ok_read_natural (c := cfgL K C a ns) (P := P) (w := w) (base := base) D_read_natural D_piece_base D_fail z_len z_int c_PIECE c_DIGITS c_MOST_DIGITS G_piece_base G_fail
  have G_read_integer := ok_read_integer (c := cfgL K C a ns) (P := P) (w := w) (base := base) D_read_integer D_read_natural D_fail G_read_natural G_fail
  have G_read_domain := oks_read_domain (c := cfgL K C a ns) (P := P) (w := w) (base := base) D_read_domain D_is_domain D_fail D_read_natural z_len G_is_domain G_fail G_read_natural 4
  have G_pieces := ok_pieces (c := cfgL K C a ns) (P := P) (w := w) (base := base) D_pieces
  obtain ⟨G_read_element, G_read_list⟩ := oks_read_element (c := cfgL K C a ns) (P := P) (w := w) (base := base) D_read_element D_read_list D_is_element D_fail D_read_natural D_read_integer D_pieces z_len z_tuple G_is_element G_fail G_read_natural G_read_integer G_pieces 6
  have G_read_vector := ok_read_vector (c := cfgL K C a ns) (P := P) (w := w) (base := base) D_read_vector D_read_list G_read_list
  have G_read_sizes := ok_read_sizes (c := cfgL K C a ns) (P := P) (w := w) (base := base) D_read_sizes D_fail D_read_natural z_tuple z_range z_len c_MOST_SIZE G_fail G_read_natural
  have G_read_matrix := ok_read_matrix (c := cfgL K C a ns) (P := P) (w := w) (base := base) D_read_matrix D_is_matrix D_fail D_pieces D_read_element D_read_sizes z_tuple z_len G_is_matrix G_fail G_pieces G_read_element G_read_sizes
  have G_law_start := ok_law_start (c := cfgL K C a ns) (P := P) (w := w) (base := base) D_law_start z_int
  have G_law_fill := ok_law_fill (c := cfgL K C a ns) (P := P) (w := w) (base := base) D_law_fill z_int z_len
  have G_law_take := ok_law_take (c := cfgL K C a ns) (P := P) (w := w) (base := base) D_law_take D_law_fill z_int G_law_fill
  have G_law_zero := ok_law_zero (c := cfgL K C a ns) (P := P) (w := w) (base := base) D_law_zero
  have G_law_common := ok_law_common (c := cfgL K C a ns) (P := P) (w := w) (base := base) D_law_common z_int z_abs
  have G_law_domain := ok_law_domain (c := cfgL K C a ns) (P := P) (w := w) (base := base) D_law_domain D_law_take G_law_take
  have G_law_small := oks_law_small (c := cfgL K C a ns) (P := P) (w := w) (base := base) D_law_small D_law_zero D_law_take D_law_common z_tuple z_range z_int G_law_zero G_law_take G_law_common 4
  have G_law_matrix := ok_law_matrix (c := cfgL K C a ns) (P := P) (w := w) (base := base) D_law_matrix D_law_small z_tuple z_range G_law_small
  have G_law_domain_text := oks_law_domain_text (c := cfgL K C a ns) (P := P) (w := w) (base := base) D_law_domain_text z_str 4
  have G_law_text := oks_law_text (c := cfgL K C a ns) (P := P) (w := w) (base := base) D_law_text z_str z_int 4
  have G_law_vector_text := ok_law_vector_text (c := cfgL K C a ns) (P := P) (w := w) (base := base) D_law_vector_text D_law_text G_law_text
  have G_law_matrix_text := ok_law_matrix_text (c := cfgL K C a ns) (P := P) (w := w) (base := base) D_law_matrix_text D_law_text z_str G_law_text
  have G_law_natural_of := ok_law_natural_of (c := cfgL K C a ns) (P := P) (w := w) (base := base) D_law_natural_of z_int z_len
  have G_law_integer_of := ok_law_integer_of (c := cfgL K C a ns) (P := P) (w := w) (base := base) D_law_integer_of D_law_natural_of G_law_natural_of
  have G_law_domain_of := oks_law_domain_of (c := cfgL K C a ns) (P := P) (w := w) (base := base) D_law_domain_of D_law_natural_of z_range z_int G_law_natural_of 4
  have G_law_element_of := oks_law_element_of (c := cfgL K C a ns) (P := P) (w := w) (base := base) D_law_element_of D_law_integer_of D_law_common D_law_natural_of D_law_zero z_len z_tuple G_law_integer_of G_law_common G_law_natural_of G_law_zero 4
  have G_law_pieces := ok_law_pieces (c := cfgL K C a ns) (P := P) (w := w) (base := base) D_law_pieces z_int
  have G_law_list_of := ok_law_list_of (c := cfgL K C a ns) (P := P) (w := w) (base := base) D_law_list_of D_law_pieces D_law_element_of z_tuple G_law_pieces G_law_element_of
  have G_law_vector_of := ok_law_vector_of (c := cfgL K C a ns) (P := P) (w := w) (base := base) D_law_vector_of D_law_list_of z_len G_law_list_of
  have G_law_matrix_of := ok_law_matrix_of (c := cfgL K C a ns) (P := P) (w := w) (base := base) D_law_matrix_of D_law_list_of D_law_natural_of z_tuple z_len z_min z_max G_law_list_of G_law_natural_of
  have G_law_due := ok_law_due (c := cfgL K C a ns) (P := P) (w := w) (base := base) D_law_due D_law_matrix_of D_law_vector_of D_law_element_of D_law_domain_of G_law_matrix_of G_law_vector_of G_law_element_of G_law_domain_of
  have G_law_made := ok_law_made (c := cfgL K C a ns) (P := P) (w := w) (base := base) D_law_made D_law_matrix_text D_law_vector_text D_law_text D_law_domain_text G_law_matrix_text G_law_vector_text G_law_text G_law_domain_text
  have G_law_read := ok_law_read (c := cfgL K C a ns) (P := P) (w := w) (base := base) D_law_read D_read_matrix D_read_vector D_read_element D_read_domain G_read_matrix G_read_vector G_read_element G_read_domain z_isinstance z_int TX EX hC
  have G_law_changed := ok_law_changed (c := cfgL K C a ns) (P := P) (w := w) (base := base) D_law_changed D_law_take z_int z_range z_len G_law_take
  have G_law_pieced := ok_law_pieced (c := cfgL K C a ns) (P := P) (w := w) (base := base) D_law_pieced D_law_take z_range G_law_take
  have G_law := ok_law (c := cfgL K C a ns) (P := P) (w := w) (base := base) D_law D_law_read D_law_due D_law_take D_law_pieces D_law_text D_law_small D_law_pieced D_law_changed D_law_made D_law_matrix D_law_domain D_law_start z_tuple z_range G_law_read G_law_due G_law_take G_law_pieces G_law_text G_law_small G_law_pieced G_law_changed G_law_made G_law_matrix G_law_domain G_law_start
  exact G_law
end ME
open PySem PySem.W PyProof.Rows
set_option maxHeartbeats 0 in
theorem PySem.Challenge.cw_facetlore_k82_values_told_from_wrong_tex_holds : PySem.Challenge.rw_facetlore_k82_values_told_from_wrong_tex.Holds := by
  w_on; o_law; k_head; (case hw => w_witness2)
  k_fill
  refine L2.walk_of (l := PySem.Challenge.rw_facetlore_k82_values_told_from_wrong_tex) (n := 63) (k := 17) (x := "script") (CX := fun w => L2.CX PySem.Challenge.rw_facetlore_k82_values_told_from_wrong_tex.prog w) (sp := fun w => ME.spLawM _) rfl (by decide) rfl ⟨rfl, by decide, by decide⟩ (fun w h Y => PySem.W.kIn_of Y) ?F (fun _ _ a ns hl hO hS => ⟨a, ns, rfl, hO, hS, hl, fun _ => rfl⟩) (fun _ _ _ _ _ h => ME.cx_no h)
  case F =>
    intro w mg fa h KX G hmg
    refine' ME.all_mk KX G hmg ?a_divisor ?l_divisor ?c_divisor ?k_divisor ?a_is_prime ?l_is_prime ?c_is_prime ?k_is_prime ?a_is_integer ?l_is_integer ?c_is_integer ?k_is_integer ?a_is_field ?l_is_field ?c_is_field ?k_is_field ?a_is_domain ?l_is_domain ?c_is_domain ?k_is_domain ?a_need_domain ?l_need_domain ?c_need_domain ?k_need_domain ?a_zero ?l_zero ?c_zero ?k_zero ?a_belongs ?l_belongs ?c_belongs ?k_belongs ?a_is_element ?l_is_element ?c_is_element ?k_is_element ?a_is_matrix ?l_is_matrix ?c_is_matrix ?k_is_matrix ?a_piece_base ?l_piece_base ?c_piece_base ?k_piece_base ?a_fail ?l_fail ?c_fail ?k_fail ?a_read_natural ?l_read_natural ?c_read_natural ?k_read_natural ?a_read_integer ?l_read_integer ?c_read_integer ?k_read_integer ?a_read_domain ?l_read_domain ?c_read_domain ?k_read_domain ?a_pieces ?l_pieces ?c_pieces ?k_pieces ?a_read_element ?l_read_element ?c_read_element ?k_read_element ?a_read_list ?l_read_list ?c_read_list ?k_read_list ?a_read_vector ?l_read_vector ?c_read_vector ?k_read_vector ?a_read_sizes ?l_read_sizes ?c_read_sizes ?k_read_sizes ?a_read_matrix ?l_read_matrix ?c_read_matrix ?k_read_matrix ?a_law_start ?l_law_start ?c_law_start ?k_law_start ?a_law_fill ?l_law_fill ?c_law_fill ?k_law_fill ?a_law_take ?l_law_take ?c_law_take ?k_law_take ?a_law_zero ?l_law_zero ?c_law_zero ?k_law_zero ?a_law_common ?l_law_common ?c_law_common ?k_law_common ?a_law_domain ?l_law_domain ?c_law_domain ?k_law_domain ?a_law_small ?l_law_small ?c_law_small ?k_law_small ?a_law_matrix ?l_law_matrix ?c_law_matrix ?k_law_matrix ?a_law_domain_text ?l_law_domain_text ?c_law_domain_text ?k_law_domain_text ?a_law_text ?l_law_text ?c_law_text ?k_law_text ?a_law_vector_text ?l_law_vector_text ?c_law_vector_text ?k_law_vector_text ?a_law_matrix_text ?l_law_matrix_text ?c_law_matrix_text ?k_law_matrix_text ?a_law_natural_of ?l_law_natural_of ?c_law_natural_of ?k_law_natural_of ?a_law_integer_of ?l_law_integer_of ?c_law_integer_of ?k_law_integer_of ?a_law_domain_of ?l_law_domain_of ?c_law_domain_of ?k_law_domain_of ?a_law_element_of ?l_law_element_of ?c_law_element_of ?k_law_element_of ?a_law_pieces ?l_law_pieces ?c_law_pieces ?k_law_pieces ?a_law_list_of ?l_law_list_of ?c_law_list_of ?k_law_list_of ?a_law_vector_of ?l_law_vector_of ?c_law_vector_of ?k_law_vector_of ?a_law_matrix_of ?l_law_matrix_of ?c_law_matrix_of ?k_law_matrix_of ?a_law_due ?l_law_due ?c_law_due ?k_law_due ?a_law_made ?l_law_made ?c_law_made ?k_law_made ?a_law_read ?l_law_read ?c_law_read ?k_law_read ?a_law_changed ?l_law_changed ?c_law_changed ?k_law_changed ?a_law_pieced ?l_law_pieced ?c_law_pieced ?k_law_pieced ?a_law ?l_law ?c_law ?k_law ?g_DIGITS ?g_MOST_DIGITS ?g_MOST_PRIME ?g_MOST_SIZE ?g_PIECE ?y_len ?y_tuple ?y_int ?y_range ?y_isinstance ?y_str ?y_abs ?y_min ?y_max ?y_bool ?aC ?xC ?rC ?sa ?ga ?gg ?nb ?aI ?tI ?kC ?eC ?vC ?tC ?hC ?iC ?uC ?tp ?sC ?top ?lI ?cI ?cellI ?codI ?vsI ?flI ?b0 ?b1 ?b2 ?b3 ?b4 ?b5 ?b6 ?b7 ?b8 ?i1 ?i5 ?i6 ?i7 ?i8
    (case a_divisor => k_is)
    (case l_divisor => k_is)
    (case c_divisor => k_is)
    (case k_divisor => k_is)
    (case a_is_prime => k_is)
    (case l_is_prime => k_is)
    (case c_is_prime => k_is)
    (case k_is_prime => k_is)
    (case a_is_integer => k_is)
    (case l_is_integer => k_is)
    (case c_is_integer => k_is)
    (case k_is_integer => k_is)
    (case a_is_field => k_is)
    (case l_is_field => k_is)
    (case c_is_field => k_is)
    (case k_is_field => k_is)
    (case a_is_domain => k_is)
    (case l_is_domain => k_is)
    (case c_is_domain => k_is)
    (case k_is_domain => k_is)
    (case a_need_domain => k_is)
    (case l_need_domain => k_is)
    (case c_need_domain => k_is)
    (case k_need_domain => k_is)
    (case a_zero => k_is)
    (case l_zero => k_is)
    (case c_zero => k_is)
    (case k_zero => k_is)
    (case a_belongs => k_is)
    (case l_belongs => k_is)
    (case c_belongs => k_is)
    (case k_belongs => k_is)
    (case a_is_element => k_is)
    (case l_is_element => k_is)
    (case c_is_element => k_is)
    (case k_is_element => k_is)
    (case a_is_matrix => k_is)
    (case l_is_matrix => k_is)
    (case c_is_matrix => k_is)
    (case k_is_matrix => k_is)
    (case a_piece_base => k_is)
    (case l_piece_base => k_is)
    (case c_piece_base => k_is)
    (case k_piece_base => k_is)
    (case a_fail => k_is)
    (case l_fail => k_is)
    (case c_fail => k_is)
    (case k_fail => k_is)
    (case a_read_natural => k_is)
    (case l_read_natural => k_is)
    (case c_read_natural => k_is)
    (case k_read_natural => k_is)
    (case a_read_integer => k_is)
    (case l_read_integer => k_is)
    (case c_read_integer => k_is)
    (case k_read_integer => k_is)
    (case a_read_domain => k_is)
    (case l_read_domain => k_is)
    (case c_read_domain => k_is)
    (case k_read_domain => k_is)
    (case a_pieces => k_is)
    (case l_pieces => k_is)
    (case c_pieces => k_is)
    (case k_pieces => k_is)
    (case a_read_element => k_is)
    (case l_read_element => k_is)
    (case c_read_element => k_is)
    (case k_read_element => k_is)
    (case a_read_list => k_is)
    (case l_read_list => k_is)
    (case c_read_list => k_is)
    (case k_read_list => k_is)
    (case a_read_vector => k_is)
    (case l_read_vector => k_is)
    (case c_read_vector => k_is)
    (case k_read_vector => k_is)
    (case a_read_sizes => k_is)
    (case l_read_sizes => k_is)
    (case c_read_sizes => k_is)
    (case k_read_sizes => k_is)
    (case a_read_matrix => k_is)
    (case l_read_matrix => k_is)
    (case c_read_matrix => k_is)
    (case k_read_matrix => k_is)
    (case a_law_start => k_is)
    (case l_law_start => k_is)
    (case c_law_start => k_is)
    (case k_law_start => k_is)
    (case a_law_fill => k_is)
    (case l_law_fill => k_is)
    (case c_law_fill => k_is)
    (case k_law_fill => k_is)
    (case a_law_take => k_is)
    (case l_law_take => k_is)
    (case c_law_take => k_is)
    (case k_law_take => k_is)
    (case a_law_zero => k_is)
    (case l_law_zero => k_is)
    (case c_law_zero => k_is)
    (case k_law_zero => k_is)
    (case a_law_common => k_is)
    (case l_law_common => k_is)
    (case c_law_common => k_is)
    (case k_law_common => k_is)
    (case a_law_domain => k_is)
    (case l_law_domain => k_is)
    (case c_law_domain => k_is)
    (case k_law_domain => k_is)
    (case a_law_small => k_is)
    (case l_law_small => k_is)
    (case c_law_small => k_is)
    (case k_law_small => k_is)
    (case a_law_matrix => k_is)
    (case l_law_matrix => k_is)
    (case c_law_matrix => k_is)
    (case k_law_matrix => k_is)
    (case a_law_domain_text => k_is)
    (case l_law_domain_text => k_is)
    (case c_law_domain_text => k_is)
    (case k_law_domain_text => k_is)
    (case a_law_text => k_is)
    (case l_law_text => k_is)
    (case c_law_text => k_is)
    (case k_law_text => k_is)
    (case a_law_vector_text => k_is)
    (case l_law_vector_text => k_is)
    (case c_law_vector_text => k_is)
    (case k_law_vector_text => k_is)
    (case a_law_matrix_text => k_is)
    (case l_law_matrix_text => k_is)
    (case c_law_matrix_text => k_is)
    (case k_law_matrix_text => k_is)
    (case a_law_natural_of => k_is)
    (case l_law_natural_of => k_is)
    (case c_law_natural_of => k_is)
    (case k_law_natural_of => k_is)
    (case a_law_integer_of => k_is)
    (case l_law_integer_of => k_is)
    (case c_law_integer_of => k_is)
    (case k_law_integer_of => k_is)
    (case a_law_domain_of => k_is)
    (case l_law_domain_of => k_is)
    (case c_law_domain_of => k_is)
    (case k_law_domain_of => k_is)
    (case a_law_element_of => k_is)
    (case l_law_element_of => k_is)
    (case c_law_element_of => k_is)
    (case k_law_element_of => k_is)
    (case a_law_pieces => k_is)
    (case l_law_pieces => k_is)
    (case c_law_pieces => k_is)
    (case k_law_pieces => k_is)
    (case a_law_list_of => k_is)
    (case l_law_list_of => k_is)
    (case c_law_list_of => k_is)
    (case k_law_list_of => k_is)
    (case a_law_vector_of => k_is)
    (case l_law_vector_of => k_is)
    (case c_law_vector_of => k_is)
    (case k_law_vector_of => k_is)
    (case a_law_matrix_of => k_is)
    (case l_law_matrix_of => k_is)
    (case c_law_matrix_of => k_is)
    (case k_law_matrix_of => k_is)
    (case a_law_due => k_is)
    (case l_law_due => k_is)
    (case c_law_due => k_is)
    (case k_law_due => k_is)
    (case a_law_made => k_is)
    (case l_law_made => k_is)
    (case c_law_made => k_is)
    (case k_law_made => k_is)
    (case a_law_read => k_is)
    (case l_law_read => k_is)
    (case c_law_read => k_is)
    (case k_law_read => k_is)
    (case a_law_changed => k_is)
    (case l_law_changed => k_is)
    (case c_law_changed => k_is)
    (case k_law_changed => k_is)
    (case a_law_pieced => k_is)
    (case l_law_pieced => k_is)
    (case c_law_pieced => k_is)
    (case k_law_pieced => k_is)
    (case a_law => k_is)
    (case l_law => k_is)
    (case c_law => k_is)
    (case k_law => k_is)
    (case g_DIGITS => k_is)
    (case g_MOST_DIGITS => k_is)
    (case g_MOST_PRIME => k_is)
    (case g_MOST_SIZE => k_is)
    (case g_PIECE => k_is)
    (case y_len => k_is)
    (case y_tuple => k_is)
    (case y_int => k_is)
    (case y_range => k_is)
    (case y_isinstance => k_is)
    (case y_str => k_is)
    (case y_abs => k_is)
    (case y_min => k_is)
    (case y_max => k_is)
    (case y_bool => k_is)
    (case aC => k_is)
    (case xC => k_is)
    (case rC => first | rfl | decide +kernel | k_is)
    (case sa => k_is)
    (case ga => k_is)
    (case gg => k_is)
    (case nb => k_is)
    (case aI => k_is)
    (case tI => k_is)
    (case kC => k_is)
    (case eC => k_is)
    (case vC => k_is)
    (case tC => k_is)
    (case hC => k_is)
    (case iC => first | rfl | k_is)
    (case uC => ks_is)
    (case tp => k_is)
    (case sC => k_is)
    (case top => first | rfl | decide +kernel)
    (case lI => k_is)
    (case cI => k_is)
    (case cellI => k_is)
    (case codI => k_is)
    (case vsI => rfl)
    (case flI => first | rfl | decide +kernel)
    (case b0 => k_is)
    (case b1 => k_is)
    (case b2 => k_is)
    (case b3 => k_is)
    (case b4 => first | k_is | rfl | decide +kernel)
    (case b5 => first | k_is | rfl | decide +kernel)
    (case b6 => first | k_is | rfl | decide +kernel)
    (case b7 => first | k_is | rfl | decide +kernel)
    (case b8 => first | k_is | rfl | decide +kernel)
    (case i1 => first | k_is | rfl | decide +kernel)
    (case i5 => k_is)
    (case i6 => k_is)
    (case i7 => k_is)
    (case i8 => k_is)

