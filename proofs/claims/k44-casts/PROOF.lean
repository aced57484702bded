import PyProof.Rows.All
import HandS.ForMost
import HandS.ForExc
import HandS.ExcField
import KE.GoesRaise
import HandS.IsInst
import HandS.TupAny
import HandS.Style
import HandS.DictComp
import HandS.RaiseMore
import HandS.Deep
import HandS.Records
import HandS.Iter
import KE.GoesEnum
import HandS.NoneIn
import KE.KExcSuper
import HandS.ExcInit
import PySem.Challenge.RW_effecthouse_k44_whole_casts_there_and_ba
set_option Elab.async false
set_option linter.all false
set_option maxRecDepth 100000
namespace Z
open PySem L2
/-- an exception over the frame f: it flies, or f has noted it -/
def XF (X : Cx) (W : WX) (u : Value) (s' : Shared) : Prop :=
  ∃ (f a : Addr) (B : Heap) (sI : Shared) (pins : List (Addr × Obj)) (σ : St) (H : Hp) (cls : Value) (d : Option Addr),
    X.env.frame = some f ∧ u = .ref a ∧ Inv X pins σ H sI ∧ (∀ b o, sI.heap.get? b = some o → b ∉ frs X.stack → B.get? b = some o) ∧ sI.heap.UpToSlots s'.heap ∧
      (HandSPX.FlyingZ B X.stack a (Zc cls d) s'.heap ∨ HandSPX.HeldZ B X.stack a (Zc cls d) f s'.heap) ∧ H a = none ∧ s'.os = sI.os ∧ PyProof.Rows.AllBare s'.gens ∧ W cls d σ H
structure TakesF (X : Cx) (W : WX) : Prop where
  fr : ∃ e0 o f, X.stack = e0 :: o ∧ e0.frame = some f ∧ X.env.frame = some f
  tk : ∀ u s', XF X W u s' → X.xe u s'
theorem TakesF.of {X : Cx} {W : WX} (hs : X.stack = X.env :: X.outer) (hf : X.env.frame = some X.env.locals) (t : Takes X W) : TakesF X W where
  fr := ⟨_, _, _, hs, hf, hf⟩
  tk := fun u s' ⟨f, a, B, sI, pins, σ, H, cls, d, e1, e2, I, nb, up, fl, na, os, ag, w⟩ => by
    rw [hf] at e1
    cases e1
    exact t u s' ⟨a, B, sI, pins, σ, H, cls, d, e2, I, nb, up, fl.elim (fun z => .inr (.inl z)) (fun z => .inr (.inr z)), na, os, ag, w⟩
/-- what a callee lets out is taken -/
theorem TakesF.pass {X : Cx} {W : WX} (t : TakesF X W) (σ : St) : PassesAt (L2.CX X.prog X.w) X σ (WE W σ) := fun pins H s e s' I c => by
  obtain ⟨e0, o, f, h1, h2, h3⟩ := t.fr
  have c0 := c
  obtain ⟨a0, B0, H0, cls0, d0, e0', fl0, _⟩ := c0
  obtain ⟨a, B, sI, pins', σ', H', cls, d, e2, I', nb, up, sky, na, os, ag, w⟩ := XE.of_call (W := W) I (fun _ _ _ h => h) c
  rw [e2] at e0' ⊢
  cases e0'
  refine t.tk _ _ ⟨f, _, B, sI, pins', σ', H', cls, d, h3, rfl, I', nb, up, ?_, na, os, ag, w⟩
  rcases sky with ⟨_, _, _, oe, vs, g1, _, g2, g3⟩ | fl | hd
  · obtain ⟨_, _, _, oe', vs', T, oT, ts, q1, _, q2, q3, _⟩ := fl0
    rw [g1] at q1
    cases q1
    rw [g2] at q2
    cases q2
    rw [g3] at q3
    cases q3
  · exact .inl fl
  · obtain ⟨_, _, _, oe, vs, T, oT, ts, g1, _, g2, g3, _, _, g4, g5, g6⟩ := hd
    obtain ⟨_, _, _, oe', vs', T', oT', ts', q1, _, q2, q3, _, _, q4, q5, q6⟩ := fl0
    rw [g1] at q1
    cases q1
    rw [g2] at q2
    cases q2
    rw [g3] at q3
    cases q3
    rw [g4] at q4
    cases q4
    rw [g5] at q5
    cases q5
    rw [g6] at q6
    cases q6
theorem note_eq {e : Value} {env env' : Env} (h : env.frame = env'.frame) : noteFrame e env = noteFrame e env' := by
  unfold noteFrame frameOf
  rw [h]
/-- noted by the frame -/
theorem noted {f a : Addr} {e0 : Env} {o : List Env} {env : Env} {B : Heap} {Zp : Obj → Prop} {s : Shared} {M : Model} {A : Around} {E : Value → Shared → Prop} {Q : Unit → Shared → Prop} (hZ : HandSPX.Steady Zp) (hfr : A.frames = some (e0 :: o)) (h0 : e0.frame = some f) (h1 : env.frame = some f)
    (x : HandSPX.FlyingZ B (e0 :: o) a Zp s.heap ∨ HandSPX.HeldZ B (e0 :: o) a Zp f s.heap) (hQ : ∀ h', HandSPX.HeldZ B (e0 :: o) a Zp f h' → s.heap.UpToSlots h' → Q () { s with heap := h' }) : wpAny M A (noteFrame (.ref a) env) Q E s := by
  rw [note_eq (h1.trans h0.symm)]
  rcases x with x | x
  · exact HandSPX.looks_onZ hZ hfr h0 x hQ
  · exact HandSPX.againZ h0 x.2.2.2 (hQ s.heap x (Heap.UpToSlots.refl _))
theorem traced_but {h h' B G : Heap} {C a : Addr} {Zp : Obj → Prop} {fl : Value} {m : Str → Option Value} (hn : h.Ns C m) (sb : Heap.SameBut C h h') (g : ∀ b, B.get? b = none → G.get? b = none) (t : HandSPX.TracedZ h B a Zp fl) : HandSPX.TracedZ h' G a Zp fl := by
  obtain ⟨oe, vs, T, oT, ts, e1, e2, e3, e4, e5, e6, e7, e8, e9⟩ := t
  obtain ⟨oC, es, ep, c1, c2, _⟩ := hn
  have na : a ≠ C := fun z => by
    rw [z, c1] at e1
    cases e1
    rw [c2] at e3
    cases e3
  have nT : T ≠ C := fun z => by
    rw [z, c1] at e7
    cases e7
    rw [c2] at e8
    cases e8
  exact ⟨oe, vs, T, oT, ts, (sb.2 a na).trans e1, e2, e3, e4, g T e5, e6, (sb.2 T nT).trans e7, e8, e9⟩
/-- out of a block: its names go, the exception goes on in the frame -/
theorem comp_air {X : Cx} {W : WX} {pins : List (Addr × Obj)} {σ0 : L2.St} {H3 : Hp} {s3 : Shared} {scope : Scope} {ce : Env} {fp : List Addr} {xe' : Value → Shared → Prop} (t : TakesF X W) (I3 : Inv X pins σ0 H3 s3) (hce : ce.frame = X.env.frame) (hC : ce.locals = s3.heap.objs.size)
    (hfp : ∀ b ∈ fp, FpOk X pins H3 b) {u : Value} {s' : Shared} (x : XF { X.blk s3 H3 scope ce fp with xe := xe' } (fun c d _ H => W c d σ0 H) u s') : notedBy (model X.prog X.w) X.A ce (CompFails (model X.prog X.w) X.A X.xe ce) u s' := by
  obtain ⟨f, a, B, sI, pinsb, σb, H, cls, d, hf, rfl, I, nb, up, fl, na, os, ag, w⟩ := x
  obtain ⟨e0, o, f0, hs, h0, hxf⟩ := t.fr
  have hf : ce.frame = some f := hf
  obtain rfl : f0 = f := by rw [hce, hxf] at hf; cases hf; rfl
  have fl : HandSPX.FlyingZ B X.stack a (Zc cls d) s'.heap ∨ HandSPX.HeldZ B X.stack a (Zc cls d) f0 s'.heap := fl
  have hfr : X.A.frames = some (e0 :: o) := by rw [I3.ok.frames, hs]
  rw [hs] at fl
  show wpAny _ _ (noteFrame (.ref a) ce) (fun _ s'' => CompFails _ _ _ ce (.ref a) s'') _ s'
  refine noted Zc.steady hfr h0 hf fl fun h1 hd up1 => ?_
  obtain ⟨m, hn, _⟩ := I.loc
  have hn : sI.heap.Ns ce.locals m := hn
  have hn1 : h1.Ns ce.locals m := up1.ns (up.ns hn)
  refine ⟨m, hn1, fun h2 m2 hn2 sb => ?_⟩
  -- the block's names forgotten
  have hHC : H ce.locals = none := I.free
  obtain ⟨f1, f2, f3, f4, f5, f6⟩ := I3.fpOk (H' := H) (b := ce.locals) (by rw [hC]; exact Nat.le_refl _) hHC
  have nst : ce.locals ∉ frs X.stack := fun z => by
    rcases List.mem_cons.mp (I3.stkSub _ z) with q | q
    · exact f2 q
    · exact f3 q
  obtain ⟨G, g1, g2⟩ := restrict sI.heap fun b => decide (b ≠ ce.locals)
  obtain ⟨B', b1, b2⟩ := restrict B fun b => decide (b ≠ ce.locals)
  have gG : ∀ b z, G.get? b = some z → b ≠ ce.locals ∧ sI.heap.get? b = some z := fun b z e => by
    by_cases q : b = ce.locals
    · rw [g2 b (by simp [q])] at e; cases e
    · rw [g1 b (by simp [q])] at e
      exact ⟨q, e⟩
  have gB : ∀ b z, B'.get? b = some z → b ≠ ce.locals ∧ B.get? b = some z := fun b z e => by
    by_cases q : b = ce.locals
    · rw [b2 b (by simp [q])] at e; cases e
    · rw [b1 b (by simp [q])] at e
      exact ⟨q, e⟩
  have nB : ∀ b, B.get? b = none → B'.get? b = none := fun b e => by
    cases q : B'.get? b with
    | none => rfl
    | some z => rw [(gB b z q).2] at e; cases e
  have I7 : Inv X pins σ0 H sI := I3.call' (ch := fp) I.os I.base I.hok I.bare fun b hb => ⟨(hfp b hb).2.2.2.1, (hfp b hb).2.1, (hfp b hb).2.2.2.2.1, (hfp b hb).2.2.2.2.2⟩
  have I8 : Inv X pins σ0 H { sI with heap := G, toks := sI.toks } := I7.turned (it := ce.locals) (fun b z q e => by rw [g1 b (by simp [q])]; exact e) f1 f2 f4 f5 f6
  obtain ⟨d1, d2, d3, d4⟩ := hd
  have hd' : HandSPX.HeldZ B' (e0 :: o) a (Zc cls d) f0 h2 := by
    refine ⟨fun b z e => ?_, nB a d2, ?_, traced_but hn1 sb nB d4⟩
    · obtain ⟨q, e⟩ := gB b z e
      exact (sb.2 b q).trans (d1 b z e)
    · refine funFrames_none (Heap.FunFrames.sameBut sb hn2 d3) fun b hb => ?_
      exact nB b (by
        have := d3.mem hb
        obtain ⟨q, _⟩ := this
        exact q)
  obtain ⟨k1, k2, k3, k4⟩ := hd'
  obtain ⟨oe, vs, T, oT, ts, q1, q2, q3, q4, q5⟩ := k4
  unfold passOn
  refine wpAny_bind (wpAny_field q1 q3 q4 ?_)
  rw [if_neg (show ¬((Value.ref T == Value.none) = true) from by simp), hf]
  refine wpAny_bind (HandSPX.setFlight_onZ (s := { { s' with heap := h1 } with heap := h2 }) ⟨k1, k2, k3, oe, vs, T, oT, ts, q1, q2, q3, q4, q5⟩ fun h3 hd3 up3 => ?_)
  refine wpAny_throw (t.tk _ _ ⟨f0, a, B', { sI with heap := G, toks := sI.toks }, pins, σ0, H, cls, d, hxf, rfl, I8, fun b z e hb => ?_, fun b z e hz => ?_, .inr (by rw [hs]; exact hd3), na, os, ag, w⟩)
  · obtain ⟨q, e⟩ := gG b z e
    rw [b1 b (by simp [q])]
    exact nb b z e hb
  · obtain ⟨q, e⟩ := gG b z e
    obtain ⟨sl1, z1⟩ := up b z e hz
    obtain ⟨sl2, z2⟩ := up1 b _ z1 hz
    obtain ⟨sl3, z3⟩ := up3 b _ ((sb.2 b q).trans z2) hz
    exact ⟨sl3, z3⟩
end Z

namespace Z
open PySem L2
/-- the block's context, its exceptions going to xe -/
abbrev blkX (X : Cx) (s : Shared) (H : Hp) (scope : Scope) (ce : Env) (fp : List Addr) (xe : Value → Shared → Prop) : Cx := { X.blk s H scope ce fp with xe := xe }
/-- what is wanted of an exception of a block that began with the slots sigma -/
abbrev Wat (W : WX) (σ : L2.St) : WX := fun c d _ H => W c d σ H
structure LcParts (X : Cx) (W : WX) (scope : Scope) (σ : L2.St) (g : TG) (tt : TT) (te : TE) (tg elt : Expr) (ifs : List Expr) : Prop where
  p : ∀ (s : Shared) (H : Hp) (C : Addr) (cl : List (Str × Addr)) (fp : List Addr) (xe : Value → Shared → Prop), TakesF (blkX X s H scope (compEnvC scope cl C X.env) fp xe) (Wat W σ) →
    PG (blkX X s H scope (compEnvC scope cl C X.env) fp xe) tg g ∧ PTs (blkX X s H scope (compEnvC scope cl C X.env) fp xe) ifs tt ∧ PE (blkX X s H scope (compEnvC scope cl C X.env) fp xe) elt te
theorem lcx_core {X : Cx} {W : WX} {pins : List (Addr × Obj)} {s : Shared} {σ : L2.St} {H : Hp} {Q : VK} {elt tg iter : Expr} {ifs : List Expr} {scope : Scope} {own : List (Str × Nat)} {pos pos' : Pos} {wi : TI} {g : TG} {tt : TT} {te : TE} {use : Option (Value → Sem Unit)} {Qf : Value → Shared → Prop}
    (hc : X.calm = true) (hN : X.N.Nodup) (tf : TakesF X W) (I : Inv X pins σ H s) (hi : PI X tg iter wi) (ok : BlkOk X.N X.env.scope scope own) (hp : LcParts X W scope σ g tt te tg elt ifs) (hs : ∀ x, foldedSetIterable iter X.env x = pure x)
    (h : tLc wi g tt te (own.map (·.2)) σ H Q)
    (hend : ∀ (D : Addr) (ce : Env) (s' : Shared) (m : Str → Option Value) (H' : Hp), Inv X pins σ H' s' → Q (.ref D) H' → s'.heap.Ns ce.locals m → FpOk X pins H' ce.locals → compEnds (model X.prog X.w) X.A X.xe use Qf (.ref D) ce (.ok .next) s') :
    wpAny (model X.prog X.w) X.A (comprehension (.ListComp elt [⟨tg, iter, ifs, 0⟩] scope pos) scope X.env pos' (newList []) false (eval iter X.env) use) Qf X.xe s := by
  have fre : ∀ y ∈ scope.names, y.2 = .free → ∃ c, X.env.cells.lookup y.1 = some c := fun y hy e => I.ok.has _ (ok.free y hy e)
  refine comprehension_at (use := use) rfl hs (closure_ok fre) ok.kind (fun y hy e => by rw [ok.uniq y hy, e]) ?_
  refine thn (hi.run pins s σ H _ I h) fun xv s1 hx => thn hx fun itv s2 h2 => ?_
  obtain ⟨it, fp, tn, J, H2, rfl, I2, T, st2, f2, q⟩ := h2
  refine wpAny_newObj_type (newEnv_comp ?_) (Nat.zero_le _)
  obtain ⟨D, hD⟩ : ∃ D, D = s2.heap.objs.size := ⟨_, rfl⟩
  rw [← hD]
  have hDn : H2 D = none := I2.hok.fresh (Nat.le_of_eq hD.symm)
  obtain ⟨V, ⟨m0, w0⟩, turn⟩ := q D hDn
  obtain ⟨hp3, hhp3⟩ : ∃ hp3, hp3 = s2.heap.push { cls := .type "list", data := .seq ([] : List Value).toArray } := ⟨_, rfl⟩
  rw [← hhp3]
  obtain ⟨s3, hs3⟩ : ∃ s3 : Shared, s3 = { s2 with heap := hp3 } := ⟨_, rfl⟩
  have h3 : s3.heap = hp3 := by rw [hs3]
  have I3 : Inv X pins σ (upd H2 D (.lst [])) s3 := by
    rw [hs3, hhp3]
    refine I2.laid (t' := s2.toks) (fun b o e => Heap.get?_push_of_some _ e) (Nat.le_of_eq hD.symm) ⟨Nat.zero_le _, [], 0, .nil, ?_⟩
    rw [hD]
    exact Heap.get?_push_size _ rfl
  have sz : ∀ b ∈ fp, b < s2.heap.objs.size := fun b hb => by
    obtain ⟨o, e, _⟩ := T.obj _ _ st2 b hb
    exact Heap.lt_size e
  have f3 : ∀ b ∈ fp, FpOk X pins (upd H2 D (.lst [])) b ∧ b < s3.heap.objs.size := fun b hb => by
    have lt := sz b hb
    refine ⟨⟨?_, (f2 b hb).2⟩, ?_⟩
    · rw [upd_ne (by rw [hD]; exact Nat.ne_of_lt lt)]
      exact (f2 b hb).1
    · rw [h3, hhp3, Heap.size_push]
      exact Nat.lt_succ_of_lt lt
  have st3 : tn 0 s3.heap := T.keep _ _ _ st2 fun b _ o e => by rw [h3, hhp3]; exact Heap.get?_push_of_some _ e
  have I4 := block_start I3 ok hN f3
  obtain ⟨cl, hcl⟩ : ∃ cl, cl = cellsFrom (s3.heap.objs.size + 1) scope.names (cloFrom X.env.cells scope.names []) := ⟨_, rfl⟩
  rw [← hcl] at I4
  obtain ⟨ce, hce⟩ : ∃ ce, ce = compEnvC scope cl s3.heap.objs.size X.env := ⟨_, rfl⟩
  obtain ⟨H3, hH3⟩ : ∃ H3, H3 = upd H2 D (.lst []) := ⟨_, rfl⟩
  rw [← hH3] at I3 I4 w0 f3
  have cL : ce.locals = s3.heap.objs.size := by rw [hce]; rfl
  have cF : ce.frame = X.env.frame := by rw [hce]; rfl
  -- the wish of the block's exceptions
  obtain ⟨R, hR⟩ : ∃ R : Result → Shared → Prop, R = compEnds (model X.prog X.w) X.A X.xe use Qf (.ref D) ce := ⟨_, rfl⟩
  obtain ⟨xe, hxe⟩ : ∃ xe : Value → Shared → Prop, xe = notedBy (model X.prog X.w) X.A ce fun e s' => R (.error e) s' := ⟨_, rfl⟩
  have hRe : ∀ e s', CompFails (model X.prog X.w) X.A X.xe ce e s' → R (.error e) s' := fun e s' z => by
    rw [hR]
    cases use <;> exact z
  have tb : TakesF (blkX X s3 H3 scope ce fp xe) (Wat W σ) := by
    obtain ⟨e0, o, f, a1, a2, a3⟩ := tf.fr
    refine ⟨⟨e0, o, f, a1, a2, cF.trans a3⟩, fun u s' x => ?_⟩
    show xe u s'
    rw [hxe]
    exact wpAny_mono (comp_air (xe' := xe) tf I3 cF cL (fun b hb => (f3 b hb).1) x) (fun _ s2 z => hRe _ _ z) fun e s2 z => hRe _ _ z
  obtain ⟨pg, pt, pe⟩ := hp.p s3 H3 s3.heap.objs.size cl fp xe (by rw [← hce]; exact tb)
  rw [← hce] at I4 pg pt pe
  have I4 : Inv (blkX X s3 H3 scope ce fp xe) [] (L2.wipe σ (own.map (·.2))) H3 { s3 with heap := pushCells (s3.heap.push { cls := .type "dict", data := .dict #[] }) scope.names } := ⟨⟨I4.ok.mod, I4.ok.kind, I4.ok.glob, I4.ok.blt, I4.ok.above, I4.ok.inj, I4.ok.has, I4.ok.cab, I4.ok.hd, I4.ok.frames, I4.ok.stk, I4.ok.exf, I4.ok.bs, I4.ok.bsz, I4.ok.noex, I4.ok.exfs, I4.ok.funs, I4.ok.frf⟩,
    I4.os, I4.bare, I4.base, I4.loc, I4.cell, I4.free, I4.freeC, I4.pin, I4.hok, I4.len⟩
  show codeAny _ _ (.compStart (.ListComp elt [⟨tg, iter, ifs, 0⟩] scope pos) 0 (.ref it) (.ref D) (compEnvC scope (cellsFrom (hp3.objs.size + 1) scope.names (cloFrom X.env.cells scope.names [])) hp3.objs.size X.env))
    (compEnds (model X.prog X.w) X.A X.xe use Qf (.ref D) (compEnvC scope (cellsFrom (hp3.objs.size + 1) scope.names (cloFrom X.env.cells scope.names [])) hp3.objs.size X.env)) { s2 with heap := pushCells (hp3.push { cls := .type "dict", data := .dict #[] }) scope.names }
  rw [← h3, ← hcl, ← hce, ← hR]
  obtain ⟨s4, hs4⟩ : ∃ s4 : Shared, s4 = { s3 with heap := pushCells (s3.heap.push { cls := .type "dict", data := .dict #[] }) scope.names } := ⟨_, rfl⟩
  rw [← hs4] at I4
  have e4 : ({ s2 with heap := pushCells (s3.heap.push { cls := .type "dict", data := .dict #[] }) scope.names } : Shared) = s4 := by rw [hs4, hs3]
  rw [e4]
  have nfp : ∀ b ∈ fp, H3 b = none := fun b hb => (f3 b hb).1.1
  have st4 : tn 0 s4.heap := T.keep _ _ _ st3 fun b _ o e => by rw [hs4]; exact pushCells_keeps _ _ _ _ (Heap.get?_push_of_some _ e)
  have stat : ∀ {σ' : L2.St} {H' : Hp} {s' : Shared}, Inv (blkX X s3 H3 scope ce fp xe) [] σ' H' s' → (∀ b ∈ fp, H' b = none) → ∀ b ∈ fp, FpOk (blkX X s3 H3 scope ce fp xe) [] H' b := fun {σ' H' s'} I' hn b hb =>
    ⟨hn b hb, (I'.ok.exf b hb).1, I'.ok.exfs b hb, .inl hb, fun x c e => (I'.ok.exf b hb).2 x c e, fun p hp' => absurd (show p ∈ ([] : List (Addr × Obj)) ++ [] from hp') (by simp)⟩
  have loop : codeAny (model X.prog X.w) X.A (.compLoop (.ListComp elt [⟨tg, iter, ifs, 0⟩] scope pos) 0 (.ref it) (.ref D) ce) R s4 := by
    refine compLoop_any (fun n s' => ∃ i H', Inv (blkX X s3 H3 scope ce fp xe) [] (L2.wipe σ (own.map (·.2))) H' s' ∧ tn i s'.heap ∧ (∀ b ∈ fp, H' b = none) ∧ V i n H') ?_ m0 ⟨0, H3, I4, st4, nfp, w0⟩
    rintro n s5 ⟨i, H5, I5, st5, n5, w5⟩
    rw [← hxe]
    rcases turn i n H5 w5 with ⟨stop, qq⟩ | ⟨go, Nx, hNx, step⟩
    · refine thnF (T.done (blkX X s3 H3 scope ce fp xe) rfl rfl rfl hc i [] s5 _ H5 (fun _ _ => False) I5 (stat I5 n5) st5 stop) fun r s6 ⟨hr, I6⟩ => ?_
      subst hr
      have I7 : Inv X pins σ H5 s6 := I3.call' (ch := fp) I6.os I6.base I6.hok I6.bare fun b hb => ⟨(f3 b hb).1.2.2.2.1, (f3 b hb).1.2.1, (f3 b hb).1.2.2.2.2.1, (f3 b hb).1.2.2.2.2.2⟩
      have nC : H5 ce.locals = none := I6.free
      obtain ⟨m, hn, _⟩ := I6.loc
      have hn : s6.heap.Ns ce.locals m := hn
      show R (.ok .next) s6
      rw [hR]
      exact hend D ce s6 m H5 I7 qq hn (I3.fpOk (by rw [cL]; exact Nat.le_refl _) nC)
    · refine thnF (T.item (blkX X s3 H3 scope ce fp xe) rfl rfl rfl hc i [] s5 _ H5 (fun _ _ => False) I5 (stat I5 n5) st5 go) fun r s6 ⟨u, hr, h6⟩ => ?_
      subst hr
      refine thnF h6 fun _ s7 ⟨x, H7, I7, r7, y7, st7, n7⟩ => ?_
      have I7' := I7.pinned (stat I7 n7) (T.obj _ _ st7)
      refine thn (pg.run _ s7 _ H7 x u _ I7' r7 (step x H7 y7)) fun _ s8 ⟨σ8, H8, I8, hw8, q8⟩ => ?_
      refine thn (pt.run _ s8 σ8 H8 _ I8 q8) fun b s9 ⟨H9, I9, q9⟩ => ?_
      have fin : ∀ {s' : Shared} {H' : Hp}, Inv (blkX X s3 H3 scope ce fp xe) ([] ++ pinsAt fp s7.heap) σ8 H' s' → Nx H' → ∃ m, m < n ∧ ∃ i H', Inv (blkX X s3 H3 scope ce fp xe) [] (L2.wipe σ (own.map (·.2))) H' s' ∧ tn i s'.heap ∧ (∀ b ∈ fp, H' b = none) ∧ V i m H' := by
        intro s' H' I' nx
        obtain ⟨m', hm, w'⟩ := hNx H' nx
        have pin' : ∀ b ∈ fp, ∀ o, s7.heap.get? b = some o → s'.heap.get? b = some o ∧ H' b = none := fun b hb o e => by
          have z := I'.pin (b, o) (List.mem_append_right _ (List.mem_append_right _ (mem_pinsAt hb e)))
          exact ⟨z.1, z.2.1⟩
        have hl : (L2.wipe σ (own.map (·.2))).length = σ8.length := by rw [← hw8, wipe_length]
        refine ⟨m', hm, i + 1, H', (I'.unpinned (pins := [])).weak hl (fun j v e => ?_), T.keep _ _ _ st7 fun b hb o e => (pin' b hb o e).1, fun b hb => ?_, w'⟩
        · rw [← hw8] at e
          exact (wipe_some e).1
        · obtain ⟨o, e, _⟩ := T.obj _ _ st7 b hb
          exact (pin' b hb o e).2
      cases b with
      | false =>
        rw [if_neg (by simp)] at q9 ⊢
        exact fin I9 q9
      | true =>
        rw [if_pos rfl] at q9 ⊢
        refine thn (pe.run _ s9 σ8 H9 _ I9 q9) fun z s10 ⟨yv, H10, I10, r10, acc, hD10, hz10, nx⟩ => ?_
        exact app_ok (X := blkX X s3 H3 scope ce fp xe) I10 hD10 hz10 r10 fun s11 I11 => fin I11 nx
  exact codeAny_compStart_list loop (T.self X.A 0 _ _ _ st4 loop)
end Z

namespace Z
open PySem L2
section
variable {X : Cx} {W : WX}
theorem pe_lcx {elt tg iter : Expr} {ifs : List Expr} {scope : Scope} {own : List (Str × Nat)} {pos : Pos} {wi : TI} {g : TG} {tt : L2.St → TT} {te : L2.St → TE} (hc : X.calm = true) (hN : X.N.Nodup) (tf : TakesF X W) (hi : PI X tg iter wi) (ok : BlkOk X.N X.env.scope scope own)
    (hp : ∀ σ, LcParts X W scope σ g (tt σ) (te σ) tg elt ifs) (hs : ∀ x, foldedSetIterable iter X.env x = pure x) :
    PE X (.ListComp elt [⟨tg, iter, ifs, 0⟩] scope pos) (fun σ H Q => tLc wi g (tt σ) (te σ) (own.map (·.2)) σ H Q) := by
  refine ⟨fun pins s σ H Q I h => ?_⟩
  rw [eval_ListComp]
  refine lcx_core hc hN tf I hi ok (hp σ) hs h fun D ce s' m H' I' q hn f => ⟨m, hn, fun h'' sb => ?_⟩
  obtain ⟨f0, f1, f2, f3, f4, f5⟩ := f
  exact ⟨.ref D, H', I'.turned (t' := s'.toks) (fun b o hb e => (sb.2 b hb).trans e) f0 f1 f3 f4 f5, rfl, q⟩
theorem ps_setLcx {i : Nat} {y : Str} {py : Pos} {elt tg iter : Expr} {ifs : List Expr} {scope : Scope} {own : List (Str × Nat)} {pos spos : Pos} {wi : TI} {g : TG} {tt : L2.St → TT} {te : L2.St → TE} (hc : X.calm = true) (hN : X.N.Nodup) (hy : X.N[i]? = some y) (hyl : X.env.scope.names.lookup y = some .local)
    (hsw : swapsWith (.ListComp elt [⟨tg, iter, ifs, 0⟩] scope pos) (some (.Name y py)) spos.line X.env = pure true) (tf : TakesF X W) (hi : PI X tg iter wi) (ok : BlkOk X.N X.env.scope scope own)
    (hp : ∀ σ, LcParts X W scope σ g (tt σ) (te σ) tg elt ifs) (hs : ∀ x, foldedSetIterable iter X.env x = pure x) :
    PS X (.Assign [.Name y py] (.ListComp elt [⟨tg, iter, ifs, 0⟩] scope pos) spos) (tAsg (fun σ H Q => tLc wi g (tt σ) (te σ) (own.map (·.2)) σ H Q) (gName i)) := by
  refine ⟨fun pins s σ H D I h => ?_⟩
  rw [exec_Assign_Name_used _ _ _ _ hsw]
  refine wpAny_bind (wpAny_standAt (wpAny_bind ?_))
  show wpAny _ X.A (do let _ ← comprehension (.ListComp elt [⟨tg, iter, ifs, 0⟩] scope pos) scope X.env (firstIterPos [⟨tg, iter, ifs, 0⟩] pos) (newList []) false (eval iter X.env) (some (assign (.Name y py) X.env))) _ _ s
  have h : tLc wi g (tt σ) (te σ) (own.map (·.2)) σ H (fun x H1 => gName i x σ H1 D.nx) := h
  refine wpAny_bind (thn (lcx_core (Qf := fun _ s' => SP X pins D .next s') hc hN tf I hi ok (hp σ) hs h fun L ce s' m H' I' q hn f => ?_) fun _ s' hq => wpAny_pure (wpAny_pure hq))
  show wpAny _ _ (assign (.Name y py) X.env (.ref L)) _ _ _
  refine wpAny_assign_Name (store_ok2 (v := V.ref L) I' hN hy (.inl hyl) rfl (fun s2 I2 ⟨a, sb, ha⟩ => ?_) (.inr hyl))
  obtain ⟨f0, f1, f2, f3, f4, f5⟩ := f
  have haC : ce.locals ≠ a := by
    rcases ha with z | z
    · rw [z]; exact f1
    · exact fun e => f4 y a z e.symm
  refine ⟨m, hn.sameBut sb haC, fun h3 sb3 => ?_⟩
  exact ⟨_, H', I2.turned (t' := s2.toks) (fun b o hb e => (sb3.2 b hb).trans e) f0 f1 f3 f4 f5, q⟩
end
end Z

namespace Z
open PySem L2

/-- plain data; .ref n is the n-th object of the store -/
inductive PV where
  | non | bl (b : Bool) | int (i : Int) | str (s : Str) | tup (l : List PV) | ref (n : Nat)
/-- an object of the store -/
inductive SO where
  | lst (l : List PV) | rol (l : List PV) | dct (l : List (Key × PV)) | ins (c : Nat) (l : List (Str × PV)) | rod (l : List (Key × PV))
abbrev Store := List SO
abbrev Sl := List (Option PV)
/-- what an expression comes to -/
inductive RE (α : Type) where
  | ok (a : α) (s : Store) | exc (c : Nat) (fs : List (Str × PV)) (s : Store) | bad
abbrev M (α : Type) := Store → RE α
def ret {α : Type} (a : α) : M α := fun s => .ok a s
def stop {α : Type} : M α := fun _ => .bad
def bnd {α β : Type} (m : M α) (f : α → M β) : M β := fun s =>
  match m s with
  | .ok a s' => f a s'
  | .exc c fs s' => .exc c fs s'
  | .bad => .bad
inductive Fl where
  | next | ret (v : PV) | brk | cont
/-- what a statement comes to -/
inductive RS where
  | ok (f : Fl) (ρ : Sl) (s : Store) | exc (c : Nat) (fs : List (Str × PV)) (ρ : Sl) (s : Store) | bad
abbrev SM := Sl → Store → RS
/-- a statement's part that is an expression -/
def bndS {α : Type} (m : M α) (ρ : Sl) (f : α → Store → RS) : Store → RS := fun s =>
  match m s with
  | .ok a s' => f a s'
  | .exc c fs s' => .exc c fs ρ s'
  | .bad => .bad

structure FnI where
  N : List Str
  ps : List Str
  body : List Stmt
  sc : Scope
structure ClI where
  name : Str
  init : Option Nat
  meths : List (Str × Nat)
  fields : List Str
  /-- an exception: the fields that its __init__ stores, or none: it has no __init__ -/
  exc : Option (Option (List Str))
inductive GE where
  | fn (i : Nat) | cls (c : Nat) | cst (v : PV)
structure Tab where
  fns : List FnI
  cls : List ClI
  glob : List (Str × GE)
  /-- exceptions: the first is caught by an except of the second -/
  sub : Nat → Nat → Bool

def slotOf : List Str → Str → Option Nat
  | [], _ => none
  | y :: r, x => if y = x then some 0 else (slotOf r x).map (· + 1)
theorem slotOf_get : ∀ {N : List Str} {x : Str} {i : Nat}, slotOf N x = some i → N[i]? = some x
  | [], _, _, h => by simp [slotOf] at h
  | y :: r, x, i, h => by
    unfold slotOf at h
    split at h
    · rename_i e
      cases h
      simp [e]
    · cases q : slotOf r x with
      | none => rw [q] at h; simp at h
      | some j =>
        rw [q] at h
        simp at h
        subst h
        simpa using slotOf_get q
def visB (sc : Scope) (x : Str) : Bool :=
  match sc.names.lookup x with
  | some .local => true
  | some .cell => true
  | some .free => true
  | _ => false
def locB (sc : Scope) (x : Str) : Bool :=
  match sc.names.lookup x with
  | some .local => true
  | some .cell => true
  | _ => false
def globB (sc : Scope) (x : Str) : Bool :=
  match sc.names.lookup x with
  | some .globalImplicit => x != "__debug__"
  | _ => false

def mulB (i j : Int) : Bool := (decide (-(2 ^ 64) < i) && decide (i < 2 ^ 64)) || (decide (-(2 ^ 64) < j) && decide (j < 2 ^ 64))
def binP : Operator → PV → PV → M PV
  | .Add, .int i, .int j => ret (.int (i + j))
  | .Sub, .int i, .int j => ret (.int (i - j))
  | .Mult, .int i, .int j => if mulB i j = true then ret (.int (i * j)) else stop
  | .FloorDiv, .int i, .int j => if 0 < j ∧ j < 1073741824 then ret (.int (i / j)) else stop
  | .Mod, .int i, .int j => if 0 < j then ret (.int (i % j)) else stop
  | .Add, .tup l, .tup r => if l.length + r.length ≤ sizeLine then ret (.tup (l ++ r)) else stop
  | .Add, .str x, .str y => if x.length + y.length ≤ sizeLine then ret (.str (x ++ y)) else stop
  | .Add, .ref m, .ref n => fun s =>
    match s[m]?, s[n]? with
    | some (.lst l), some (.lst r) => if l.length + r.length ≤ sizeLine then .ok (.ref s.length) (s ++ [.lst (l ++ r)]) else .bad
    | _, _ => .bad
  | .Mult, .ref m, .int k => fun s =>
    match s[m]? with
    | some (.lst l) => if decide (-(2 ^ 63) ≤ k) && (decide (k < 2 ^ 63) && decide (l.length * k.toNat ≤ sizeLine)) then .ok (.ref s.length) (s ++ [.lst (List.replicate k.toNat l).flatten]) else .bad
    | _ => .bad
  | _, _, _ => stop

mutual
/-- data without objects -/
def dat : PV → Option PyData
  | .non => some .none
  | .bl b => some (.bool b)
  | .int i => some (.int i)
  | .str x => some (.str x)
  | .tup l => (datL l).map .tuple
  | .ref _ => none
def datL : List PV → Option (List PyData)
  | [] => some []
  | v :: r => match dat v, datL r with
    | some d, some ds => some (d :: ds)
    | _, _ => none
end
/-- a dict, as it may be read -/
def dctOf (s : Store) (n : Nat) : Option (List (Key × PV)) :=
  match s[n]? with
  | some (.dct l) => some l
  | some (.rod l) => some l
  | _ => none
/-- what == looks at: data, or a list of data -/
def datS (s : Store) : PV → Option PyData
  | .ref n => match s[n]? with
    | some (.lst l) => (datL l).map .list
    | some (.rol l) => (datL l).map .list
    | _ => none
  | v => dat v
def flatP : PV → Bool
  | .non => true | .bl _ => true | .int _ => true | .str _ => true | _ => false
def pv : PV → V
  | .non => .non | .bl b => .bl b | .int i => .int i | .str x => .str x | _ => .non
def keyOf : PV → Option Key
  | .int i => some (.inl i)
  | .str x => some (.inr x)
  | _ => none
def dget (l : List (Key × PV)) (k : Key) : Option PV := (l.find? fun p => decide (p.1 = k)).map (·.2)
def dput (l : List (Key × PV)) (k : Key) (v : PV) : List (Key × PV) :=
  if (l.any fun p => decide (p.1 = k)) = true then l.map (fun p => if p.1 = k then (p.1, v) else p) else l ++ [(k, v)]
/-- dicts whose values are flat -/
def dictEq (l r : List (Key × PV)) : Option Bool :=
  if (l.all fun p => flatP p.2) && (r.all fun p => flatP p.2) then
    some (l.length == r.length && l.all fun p => match dget r p.1 with
      | some w => eqV (pv p.2) (pv w)
      | none => false)
  else none
def eqP (x y : PV) : M Bool :=
  match x, y with
  | .str a, .str b => ret (decide (a = b))
  | .int a, .int b => ret (decide (a = b))
  | .bl a, .bl b => ret (decide (a = b))
  | .ref m, .ref n => fun s =>
    match s[m]?, s[n]? with
    | some (.dct l), some (.dct r) => match dictEq l r with
      | some b => .ok b s
      | none => .bad
    | _, _ => match datS s (.ref m), datS s (.ref n) with
      | some d, some e => if SeqAt.shaped d && SeqAt.shaped e then .ok (PyData.eqv d e) s else .bad
      | _, _ => .bad
  | x, y => fun s => match datS s x, datS s y with
    | some d, some e => if SeqAt.shaped d && SeqAt.shaped e then .ok (PyData.eqv d e) s else .bad
    | _, _ => .bad
def inP (x y : PV) : M Bool :=
  match y with
  | .tup l => if flatP x && l.all flatP then ret (inV (pv x) (l.map pv)) else match dat x, datL l with
    | some d, some ds => if SeqAt.shaped d && SeqAt.shaped (.tuple ds) then ret (ds.any fun z => PyData.eqv z d) else stop
    | _, _ => stop
  | .ref n => fun s => match dctOf s n with
    | some l => match keyOf x with
      | some k => .ok (dget l k).isSome s
      | none => .bad
    | none => match s[n]? with
      | some (.lst l) => match dat x, datL l with
        | some d, some ds => if SeqAt.shaped d && SeqAt.shaped (.list ds) then .ok (ds.any fun z => PyData.eqv z d) s else .bad
        | _, _ => .bad
      | _ => .bad
  | _ => stop
def cmpP : CmpOp → PV → PV → M Bool
  | .Eq, x, y => eqP x y
  | .NotEq, x, y => bnd (eqP x y) fun b => ret (!b)
  | .Lt, .int i, .int j => ret (decide (i < j))
  | .LtE, .int i, .int j => ret (decide (i ≤ j))
  | .Gt, .int i, .int j => ret (decide (j < i))
  | .GtE, .int i, .int j => ret (decide (j ≤ i))
  | .Is, .non, .non => ret true
  | .Is, .bl _, .non => ret false
  | .Is, .int _, .non => ret false
  | .Is, .str _, .non => ret false
  | .Is, .tup _, .non => ret false
  | .Is, .ref _, .non => ret false
  | .IsNot, x, .non => match x with
    | .non => ret false
    | _ => ret true
  | .In, x, y => inP x y
  | .NotIn, x, y => bnd (inP x y) fun b => ret (!b)
  | _, _, _ => stop
def atP (l : List PV) (i : Int) : M PV :=
  match atI l i with
  | some v => ret v
  | none => stop
def ixP (x i : PV) : M PV :=
  match x, i with
  | .tup l, .int k => atP l k
  | .ref n, i => fun s => match s[n]? with
    | some (.lst l) => match i with
      | .int k => atP l k s
      | _ => .bad
    | some (.rol l) => match i with
      | .int k => atP l k s
      | _ => .bad
    | _ => match dctOf s n with
      | some l => match keyOf i with
        | some k => match dget l k with
          | some v => .ok v s
          | none => .bad
        | none => .bad
      | none => .bad
  | _, _ => stop
def cutP (l : List PV) (lo hi : Option Int) : List PV := (l.drop (HT.sIx l.length 0 lo)).take (HT.sIx l.length l.length hi - HT.sIx l.length 0 lo)
def slP (x : PV) (lo hi : Option Int) : M PV :=
  match x with
  | .tup l => ret (.tup (cutP l lo hi))
  | .ref n => fun s => match s[n]? with
    | some (.lst l) => .ok (.ref s.length) (s ++ [.lst (cutP l lo hi)])
    | some (.rol l) => .ok (.ref s.length) (s ++ [.lst (cutP l lo hi)])
    | _ => .bad
  | _ => stop
def truP (x : PV) : M Bool :=
  match x with
  | .bl b => ret b
  | .non => ret false
  | .int i => ret (i != 0)
  | .str x => if x.length ≤ sizeLine then ret (x.length != 0) else stop
  | .tup l => ret (!l.isEmpty)
  | .ref n => fun s => match s[n]? with
    | some (.lst l) => .ok (!l.isEmpty) s
    | some (.rol l) => .ok (!l.isEmpty) s
    | some (.dct l) => .ok (!l.isEmpty) s
    | _ => .bad
def tyP (s : Store) : PV → Option String
  | .non => some "NoneType"
  | .bl _ => some "bool"
  | .int _ => some "int"
  | .str _ => some "str"
  | .tup _ => some "tuple"
  | .ref n => match s[n]? with
    | some (.lst _) => some "list"
    | some (.dct _) => some "dict"
    | _ => none
def isiP (x : PV) (t : String) : M PV := fun s =>
  match tyP s x with
  | some u => match kitB u t with
    | some b => .ok (.bl b) s
    | none => .bad
  | none => .bad
def intsOf : List PV → Option (List Int)
  | [] => some []
  | .int i :: r => (intsOf r).map (i :: ·)
  | _ => none
def boolsOf : List PV → Option (List Bool)
  | [] => some []
  | .bl i :: r => (boolsOf r).map (i :: ·)
  | _ => none
/-- the pairs of a list of pairs -/
def pairsOf : List PV → Option (List (Key × PV))
  | [] => some []
  | .tup [k, v] :: r => match keyOf k, pairsOf r with
    | some k, some l => some ((k, v) :: l)
    | _, _ => none
  | _ => none
def mergeP (acc more : List (Key × PV)) : List (Key × PV) := more.foldl (fun acc p => dput acc p.1 p.2) acc
def lstOf (s : Store) (n : Nat) : Option (List PV) :=
  match s[n]? with
  | some (.lst l) => some l
  | some (.rol l) => some l
  | _ => none
def minL : List Int → Option Int
  | [] => none
  | [x] => some x
  | x :: r => (minL r).map fun m => if m < x then m else x
inductive Bl where
  | abs | int | max | min | len | any | all | tuple | list | dict | str
def strP : List PV → M PV
  | [.int i] => if i.natAbs.log2 < 1920 then ret (.str (toString i)) else stop
  | [.str x] => ret (.str x)
  | _ => stop
def absP : List PV → M PV
  | [.int i] => ret (.int (if i < 0 then -i else i))
  | _ => stop
def intP : List PV → M PV
  | [.int i] => ret (.int i)
  | [.bl b] => ret (.int (if b then 1 else 0))
  | _ => stop
def maxP : List PV → M PV
  | [.int i, .int j] => ret (.int (if j > i then j else i))
  | _ => stop
def minP : List PV → M PV
  | [.int i, .int j] => ret (.int (if j < i then j else i))
  | [.ref n] => fun s => match (lstOf s n).bind intsOf with
    | some l => match minL l with
      | some m => .ok (.int m) s
      | none => .bad
    | none => .bad
  | _ => stop
def lenP : List PV → M PV
  | [.tup l] => ret (.int (l.length : Nat))
  | [.str x] => if x.length ≤ sizeLine then ret (.int (x.length : Nat)) else stop
  | [.ref n] => fun s => match s[n]? with
    | some (.lst l) => .ok (.int (l.length : Nat)) s
    | some (.rol l) => .ok (.int (l.length : Nat)) s
    | some (.dct l) => .ok (.int (l.length : Nat)) s
    | some (.rod l) => .ok (.int (l.length : Nat)) s
    | _ => .bad
  | _ => stop
def anyP : List PV → M PV
  | [.ref n] => fun s => match (lstOf s n).bind boolsOf with
    | some l => .ok (.bl (l.any id)) s
    | none => .bad
  | _ => stop
def allP : List PV → M PV
  | [.ref n] => fun s => match (lstOf s n).bind boolsOf with
    | some l => .ok (.bl (l.all id)) s
    | none => .bad
  | _ => stop
def tupleP : List PV → M PV
  | [.ref n] => fun s => match lstOf s n with
    | some l => .ok (.tup l) s
    | none => .bad
  | [.tup l] => ret (.tup l)
  | _ => stop
def listP : List PV → M PV
  | [.ref n] => fun s => match lstOf s n with
    | some l => .ok (.ref s.length) (s ++ [.lst l])
    | none => .bad
  | [.tup l] => fun s => .ok (.ref s.length) (s ++ [.lst l])
  | _ => stop
def dictP : List PV → M PV
  | [.ref n] => fun s => match s[n]? with
    | some (.lst l) => match pairsOf l with
      | some kvs => .ok (.ref s.length) (s ++ [.dct (mergeP [] kvs)])
      | none => .bad
    | _ => match dctOf s n with
      | some l => .ok (.ref s.length) (s ++ [.dct l])
      | none => .bad
  | _ => stop
def bltP : Bl → List PV → M PV
  | .abs => absP
  | .int => intP
  | .max => maxP
  | .min => minP
  | .len => lenP
  | .any => anyP
  | .all => allP
  | .tuple => tupleP
  | .list => listP
  | .dict => dictP
  | .str => strP
/-- a method of a built-in type -/
inductive Mt where
  | append | get
def appendP (x : PV) : List PV → M PV
  | [v] => fun s => match x with
    | .ref n => match s[n]? with
      | some (.lst l) => if l.length < sizeLine then .ok .non (s.set n (.lst (l ++ [v]))) else .bad
      | _ => .bad
    | _ => .bad
  | _ => stop
def getP (x : PV) : List PV → M PV
  | [k, v] => fun s => match x with
    | .ref n => match dctOf s n, keyOf k with
      | some l, some k => .ok ((dget l k).getD v) s
      | _, _ => .bad
    | _ => .bad
  | _ => stop
def mtP : Mt → PV → List PV → M PV
  | .append => appendP
  | .get => getP

abbrev EM := Expr → Sl → M PV
def noStar : Expr → Bool
  | .Starred _ _ => false
  | _ => true
/-- the object's method of a built-in type -/
def mtOf : SO → Str → Option Mt
  | .lst _, m => if m = "append" then some .append else none
  | .dct _, m => if m = "get" then some .get else none
  | .rod _, m => if m = "get" then some .get else none
  | _, _ => none
def noSet : Expr → Bool
  | .Set _ _ _ => false
  | _ => true
/-- no call without arguments of a name: it is not super() -/
def baseOk : Expr → Bool
  | .Call (.Name x _) [] [] _ => x != "super"
  | _ => true
def evEs (E : EM) : List Expr → Sl → M (List PV)
  | [], _ => ret []
  | e :: r, ρ => bnd (E e ρ) fun v => bnd (evEs E r ρ) fun vs => ret (v :: vs)
def argsP (E : EM) (es : List Expr) (ρ : Sl) : M (List PV) := if es.all noStar = true then evEs E es ρ else stop
def args1 (E : EM) (es : List Expr) (ρ : Sl) : M (List PV) :=
  match es with
  | [] => stop
  | e :: r => argsP E (e :: r) ρ
def andL (T : Expr → Sl → M Bool) : List Expr → Sl → M Bool
  | [], _ => ret true
  | [e], ρ => T e ρ
  | e :: r, ρ => bnd (T e ρ) fun b => if b = true then andL T r ρ else ret false
def orL (T : Expr → Sl → M Bool) : List Expr → Sl → M Bool
  | [], _ => ret false
  | [e], ρ => T e ρ
  | e :: r, ρ => bnd (T e ρ) fun b => if b = true then ret true else orL T r ρ
/-- a test -/
def tst (E : EM) : Nat → Expr → Sl → M Bool
  | 0, _ => fun _ => stop
  | n + 1, e =>
    match e with
    | .UnaryOp .Not x _ => fun ρ => bnd (tst E n x ρ) fun b => ret (!b)
    | .BoolOp .And [x, y] _ => fun ρ => bnd (tst E n x ρ) fun b => if b = true then tst E n y ρ else ret false
    | .BoolOp .Or [x, y] _ => fun ρ => bnd (tst E n x ρ) fun b => if b = true then ret true else tst E n y ρ
    | .BoolOp .And [x, y, z] _ => fun ρ => bnd (tst E n x ρ) fun b => if b = true then bnd (tst E n y ρ) fun b => if b = true then tst E n z ρ else ret false else ret false
    | .BoolOp .Or [x, y, z] _ => fun ρ => bnd (tst E n x ρ) fun b => if b = true then ret true else bnd (tst E n y ρ) fun b => if b = true then ret true else tst E n z ρ
    | .BoolOp .And (x :: y :: z :: r) _ => andL (tst E n) (x :: y :: z :: r)
    | .BoolOp .Or (x :: y :: z :: r) _ => orL (tst E n) (x :: y :: z :: r)
    | .Compare a [op] [b] _ => fun ρ => if noSet b = true then bnd (E a ρ) fun x => bnd (E b ρ) fun y => cmpP op x y else stop
    | .Name x p => fun ρ => bnd (E (.Name x p) ρ) truP
    | .Call f as ks p => fun ρ => bnd (E (.Call f as ks p) ρ) truP
    | .Subscript a b p => fun ρ => bnd (E (.Subscript a b p) ρ) truP
    | .Attribute a b p => fun ρ => bnd (E (.Attribute a b p) ρ) truP
    | _ => fun _ => stop
/-- a target of a for, of an assignment: names, and tuples of these -/
inductive Tgt where
  | nm (i : Nat) | tup (l : List Tgt)
mutual
def Tgt.run : Tgt → PV → Sl → Option Sl
  | .nm i, v, ρ => some (ρ.set i (some v))
  | .tup l, .tup vs, ρ => Tgt.runL l vs ρ
  | .tup _, _, _ => none
def Tgt.runL : List Tgt → List PV → Sl → Option Sl
  | [], [], ρ => some ρ
  | t :: r, v :: vs, ρ => match t.run v ρ with
    | some ρ' => Tgt.runL r vs ρ'
    | none => none
  | _, _, _ => none
end
def tgL (f : Expr → Option Tgt) : List Expr → Option (List Tgt)
  | [] => some []
  | e :: r => match f e, tgL f r with
    | some t, some l => some (t :: l)
    | _, _ => none
def tgO (N : List Str) (sc : Scope) : Nat → Expr → Option Tgt
  | 0, _ => none
  | n + 1, e => match e with
    | .Name x _ => if locB sc x then match slotOf N x with
      | some i => some (.nm i)
      | none => none
      else none
    | .Tuple es _ _ => match tgL (tgO N sc n) es with
      | some l => some (.tup l)
      | none => none
    | _ => none
def asgP (N : List Str) (sc : Scope) (tg : Expr) : PV → Sl → Option Sl :=
  match tgO N sc 4 tg with
  | some t => t.run
  | none => fun _ _ => none
theorem asgP_two {N : List Str} {sc : Scope} {x y : Str} {px py q : Pos} {k : Nat} {i j : Nat} {v w : PV} {ρ : Sl} (hb : (locB sc x && locB sc y) = true) (hi : slotOf N x = some i) (hj : slotOf N y = some j) :
    asgP N sc (.Tuple [.Name x px, .Name y py] k q) (.tup [v, w]) ρ = some ((ρ.set i (some v)).set j (some w)) := by
  have h := Bool.and_eq_true_iff.mp hb
  simp only [asgP, tgO, tgL, h.1, h.2, hi, hj, if_true, Tgt.run, Tgt.runL]
theorem asgP_three {N : List Str} {sc : Scope} {x y z : Str} {px py pz q : Pos} {k : Nat} {i j m : Nat} {v w u : PV} {ρ : Sl} (hb : (locB sc x && locB sc y && locB sc z) = true) (hi : slotOf N x = some i) (hj : slotOf N y = some j) (hm : slotOf N z = some m) :
    asgP N sc (.Tuple [.Name x px, .Name y py, .Name z pz] k q) (.tup [v, w, u]) ρ = some (((ρ.set i (some v)).set j (some w)).set m (some u)) := by
  have h := Bool.and_eq_true_iff.mp hb
  have h' := Bool.and_eq_true_iff.mp h.1
  simp only [asgP, tgO, tgL, h'.1, h'.2, h.2, hi, hj, hm, if_true, Tgt.run, Tgt.runL]
theorem runL_len : ∀ {l : List Tgt} {vs : List PV} {ρ : Sl}, vs.length ≠ l.length → Tgt.runL l vs ρ = none
  | [], [], ρ, h => absurd rfl h
  | [], _ :: _, ρ, h => by simp only [Tgt.runL]
  | _ :: _, [], ρ, h => by simp only [Tgt.runL]
  | t :: r, v :: vs, ρ, h => by
    simp only [Tgt.runL]
    cases t.run v ρ with
    | none => rfl
    | some ρ' => exact runL_len fun e => h (by rw [List.length_cons, List.length_cons, e])
theorem tgL_len {f : Expr → Option Tgt} : ∀ {es : List Expr} {l : List Tgt}, tgL f es = some l → l.length = es.length
  | [], l, h => by cases h; rfl
  | e :: r, l, h => by
    unfold tgL at h
    split at h
    · rename_i t lr h1 h2
      cases h
      rw [List.length_cons, List.length_cons, tgL_len h2]
    · cases h
theorem asgP_len {N : List Str} {sc : Scope} {ts : List Expr} {k : Nat} {q : Pos} {vs : List PV} {ρ : Sl} (h : vs.length ≠ ts.length) : asgP N sc (.Tuple ts k q) (.tup vs) ρ = none := by
  unfold asgP tgO
  dsimp only
  cases hg : tgL (tgO N sc 3) ts with
  | none => rfl
  | some l => exact runL_len (by rw [tgL_len hg]; exact h)
/-- what is walked: written items, an object's items as they stand at each turn, those with their places -/
inductive Sc where
  | items (l : List PV) | live (n : Nat) | liveE (n : Nat) | keys (n : Nat)
def keyP : Key → PV
  | .inl i => .int i
  | .inr x => .str x
/-- the i-th item: none: it can't be told; some none: there is none -/
def getI (s : Store) : Sc → Nat → Option (Option PV)
  | .items l, i => some l[i]?
  | .live n, i => (lstOf s n).map (·[i]?)
  | .liveE n, i => (lstOf s n).map fun l => (l[i]?).map fun v => .tup [.int (i : Int), v]
  | .keys n, i => match s[n]? with
    | some (.rod l) => some ((l[i]?).map fun p => keyP p.1)
    | _ => none
def lenI (s : Store) : Sc → Nat
  | .items l => l.length
  | .live n => ((lstOf s n).getD []).length
  | .liveE n => ((lstOf s n).getD []).length
  | .keys n => ((dctOf s n).getD []).length
def enumL : Nat → List PV → List PV
  | _, [] => []
  | i, v :: r => .tup [.int (i : Int), v] :: enumL (i + 1) r
def rangeL : Nat → Int → List PV
  | 0, _ => []
  | n + 1, lo => .int lo :: rangeL n (lo + 1)
def inRange (i : Int) : Bool := decide (-(2 ^ 62) ≤ i) && decide (i < 2 ^ 62)
/-- a value that is walked -/
def walkP (v : PV) : M Sc :=
  match v with
  | .tup l => ret (.items l)
  | .ref n => fun s => match lstOf s n with
    | some _ => .ok (.live n) s
    | none => match s[n]? with
      | some (.dct l) => .ok (.keys n) (s.set n (.rod l))
      | some (.rod _) => .ok (.keys n) s
      | _ => .bad
  | _ => stop
def enumP (v : PV) : M Sc :=
  match v with
  | .tup l => ret (.items (enumL 0 l))
  | .ref n => fun s => match lstOf s n with
    | some _ => .ok (.liveE n) s
    | none => .bad
  | _ => stop
def isTupE : Expr → Bool
  | .Tuple _ _ _ => true
  | _ => false
/-- the blocks' own names, with their slots -/
def ownOf (N : List Str) : List (Str × NameKind) → List (Str × Nat)
  | [] => []
  | (x, .local) :: r => match slotOf N x with
    | some i => (x, i) :: ownOf N r
    | none => ownOf N r
  | (x, .cell) :: r => match slotOf N x with
    | some i => (x, i) :: ownOf N r
    | none => ownOf N r
  | _ :: r => ownOf N r
def wipeP (ρ : Sl) : List Nat → Sl
  | [] => ρ
  | i :: r => (wipeP ρ r).set i none
/-- one written test of a comprehension, or none -/
def tstsP (E : EM) : List Expr → Sl → M Bool
  | [] => fun _ => ret true
  | [c] => tst E 20 c
  | _ => fun _ => stop
/-- the turns of a comprehension -/
def lcC (elt : Sl → M PV) (asg : PV → Sl → Option Sl) (ts : Sl → M Bool) (src : Sc) (D : Nat) (ρ : Sl) : Nat → Nat → M PV
  | 0, _ => stop
  | k + 1, i => fun s =>
    match getI s src i with
    | none => .bad
    | some none => .ok (.ref D) s
    | some (some v) => match asg v ρ with
      | none => .bad
      | some ρ' => match ts ρ' s with
        | .ok true s => match elt ρ' s with
          | .ok y s' => match s'[D]? with
            | some (.lst acc) => if acc.length < sizeLine then lcC elt asg ts src D ρ k (i + 1) (s'.set D (.lst (acc ++ [y]))) else .bad
            | _ => .bad
          | .exc c fs s' => .exc c fs s'
          | .bad => .bad
        | .ok false s' => lcC elt asg ts src D ρ k (i + 1) s'
        | .exc c fs s' => .exc c fs s'
        | .bad => .bad
def lcP (E : EM) (N : List Str) (sc : Scope) (tg elt : Expr) (ifs : List Expr) (src : Sc) (D : Nat) (ρ : Sl) : Nat → Nat → M PV :=
  lcC (E elt) (asgP N sc tg) (tstsP E ifs) src D ρ
def bltL : List (Str × Bl) := [("abs", .abs), ("int", .int), ("max", .max), ("min", .min), ("len", .len), ("any", .any), ("all", .all), ("tuple", .tuple), ("list", .list), ("dict", .dict), ("str", .str)]
def bltName (x : Str) : Option Bl := bltL.lookup x
theorem lookup_mem {α : Type} {x : Str} {b : α} : ∀ {l : List (Str × α)}, l.lookup x = some b → (x, b) ∈ l
  | [], h => by cases h
  | (y, c) :: r, h => by
    rw [List.lookup_cons] at h
    cases hb : x == y with
    | true =>
      rw [hb] at h
      cases h
      have e : x = y := by simpa using hb
      rw [e]
      exact List.mem_cons_self ..
    | false =>
      rw [hb] at h
      exact List.mem_cons_of_mem _ (lookup_mem h)
def tyName (x : Str) : Option String :=
  if x = "tuple" then some "tuple" else if x = "int" then some "int" else if x = "bool" then some "bool" else if x = "str" then some "str" else if x = "list" then some "list" else if x = "dict" then some "dict" else none
/-- the written keys of a dict's display -/
def keysOf : List (Option Expr) → Option (List Key)
  | [] => some []
  | some (.Constant (.str x) _ _) :: r => (keysOf r).map (Sum.inr x :: ·)
  | some (.Constant (.int i) _ _) :: r => (keysOf r).map (Sum.inl i :: ·)
  | _ => none
structure Lk where
  T : Tab
  call : Nat → List PV → M PV
  /-- a call one deeper: an instance's __init__ -/
  ini : Nat → List PV → M PV
  N : List Str
/-- a class without __init__, made without arguments -/
def bareB (T : Tab) (c : Nat) (as : List Expr) : Bool :=
  match as, T.cls[c]? with
  | [], some C => C.init.isNone && C.exc.isNone
  | _, _ => false
def bareP (c : Nat) : M PV := fun s => .ok (.ref s.length) (s ++ [.ins c []])
/-- an instance of class c: its object, then its __init__ -/
def makeP (L : Lk) (c : Nat) (vs : List PV) : M PV := fun s =>
  match (L.T.cls[c]?).bind (·.init) with
  | none => .bad
  | some f => match L.ini f (.ref s.length :: vs) (s ++ [.ins c []]) with
    | .ok .non s' => .ok (.ref s.length) s'
    | _ => .bad
def fldP (L : Lk) (x : PV) (f : Str) : M PV := fun s =>
  match x with
  | .ref n => match s[n]? with
    | some (.ins c l) => match L.T.cls[c]? with
      | some C => if C.fields.contains f then match l.lookup f with
        | some v => .ok v s
        | none => .bad
        else .bad
      | none => .bad
    | _ => .bad
  | _ => .bad
def putFP (f : Str) (v : PV) : List (Str × PV) → List (Str × PV)
  | [] => [(f, v)]
  | (g, w) :: r => if g = f then (g, v) :: r else (g, w) :: putFP f v r
def fldSet (L : Lk) (x : PV) (f : Str) (v : PV) : M PV := fun s =>
  match x with
  | .ref n => match s[n]? with
    | some (.ins c l) => match L.T.cls[c]? with
      | some C => if C.fields.contains f && decide (l.length < 1000) then .ok .non (s.set n (.ins c (putFP f v l))) else .bad
      | none => .bad
    | _ => .bad
  | _ => .bad
def ixSet (x i v : PV) : M PV := fun s =>
  match x with
  | .ref n => match s[n]?, keyOf i with
    | some (.dct l), some k => if l.length < sizeLine then .ok .non (s.set n (.dct (dput l k v))) else .bad
    | _, _ => .bad
  | _ => .bad
/-- the class of an instance -/
def clsP (s : Store) (x : PV) : Option Nat :=
  match x with
  | .ref n => match s[n]? with
    | some (.ins c _) => some c
    | _ => none
  | _ => none
/-- a method of a class of the text -/
def methP (L : Lk) (x : PV) (m : Str) (args : M (List PV)) : M PV := fun s =>
  match x with
  | .ref n => match s[n]? with
    | some (.ins c l) => match L.T.cls[c]?, l.lookup m with
      | some C, none => match C.meths.lookup m with
        | some f => bnd args (fun vs => L.call f (x :: vs)) s
        | none => .bad
      | _, _ => .bad
    | some o => match mtOf o m with
      | some t => bnd args (fun vs => mtP t x vs) s
      | none => .bad
    | none => .bad
  | _ => .bad
/-- the only class that has a method m -/
def methOf (T : Tab) (m : Str) : Option (Nat × Nat) :=
  (List.range T.cls.length).findSome? fun c => ((T.cls[c]?).bind fun C => C.meths.lookup m).map fun f => (c, f)
def constP : Const → M PV
  | .none => ret .non
  | .bool b => ret (.bl b)
  | .int i => ret (.int i)
  | .str x => ret (.str x)
  | _ => stop
def partP (E : EM) (i : Option Expr) (ρ : Sl) : M (Option Int) :=
  match i with
  | none => ret none
  | some e => bnd (E e ρ) fun v => match v with
    | .int i => ret (some i)
    | _ => stop
/-- an iterable written as a part of a for or a comprehension -/
def srcP (E : EM) (sc : Scope) (tg : Expr) (iter : Expr) : Sl → M Sc :=
  match iter with
  | .Call (.Name f p) [a] [] pos => fun ρ =>
    if f = "range" ∧ globB sc f = true then bnd (argsP E [a] ρ) fun vs => match vs with
      | [.int n] => if inRange n = true then ret (.items (rangeL n.toNat 0)) else stop
      | _ => stop
    else if f = "enumerate" ∧ globB sc f = true then
      if isTupE tg = true then bnd (argsP E [a] ρ) fun vs => match vs with
        | [v] => enumP v
        | _ => stop
      else stop
    else bnd (E (.Call (.Name f p) [a] [] pos) ρ) walkP
  | .Call (.Name f p) [a, b] [] pos => fun ρ =>
    if f = "range" ∧ globB sc f = true then bnd (argsP E [a, b] ρ) fun vs => match vs with
      | [.int i, .int j] => if (inRange i && inRange j) = true then ret (.items (rangeL (j - i).toNat i)) else stop
      | _ => stop
    else bnd (E (.Call (.Name f p) [a, b] [] pos) ρ) walkP
  | .Name x p => fun ρ => bnd (E (.Name x p) ρ) walkP
  | .Subscript a b p => fun ρ => bnd (E (.Subscript a b p) ρ) walkP
  | .IfExp a b c p => fun ρ => bnd (E (.IfExp a b c p) ρ) walkP
  | .Attribute a b p => fun ρ => bnd (E (.Attribute a b p) ρ) walkP
  | .Tuple a b p => fun ρ => bnd (E (.Tuple a b p) ρ) walkP
  | .Call (.Attribute a b q) c d p => fun ρ => bnd (E (.Call (.Attribute a b q) c d p) ρ) walkP
  | _ => fun _ => stop
/-- o.m(..) on one line, with arguments -/
def mOk (o : Expr) (as : List Expr) (ap p : Pos) : Bool := baseOk o && (as.all noStar && (decide (as.length < 20) && (ap.endLine == p.line)))
/-- a name -/
def nameP (L : Lk) (sc : Scope) (x : Str) (ρ : Sl) : M PV :=
  if visB sc x = true then match slotOf L.N x with
    | some i => match ρ[i]? with
      | some (some v) => ret v
      | _ => stop
    | none => stop
  else if globB sc x = true then match L.T.glob.lookup x with
    | some (.cst v) => ret v
    | _ => stop
  else stop
/-- f(..) -/
def callP (L : Lk) (E : EM) (sc : Scope) (f : Str) (as : List Expr) (ρ : Sl) : M PV :=
  if globB sc f = true then
    match L.T.glob.lookup f with
    | some (.fn i) => bnd (argsP E as ρ) fun vs => L.call i vs
    | some (.cls c) => if ((L.T.cls[c]?).bind (·.init)).isSome = true then bnd (argsP E as ρ) fun vs => makeP L c vs else if bareB L.T c as = true then bareP c else stop
    | some (.cst _) => stop
    | none =>
      if f = "isinstance" then
        match as with
        | [a, .Name t _] => match tyName t with
          | some u => if noStar a = true ∧ globB sc t = true then bnd (E a ρ) fun x => isiP x u else stop
          | none => stop
        | _ => stop
      else match bltName f with
        | some b => bnd (args1 E as ρ) fun vs => bltP b vs
        | none => stop
  else stop
def evE (L : Lk) : Nat → Scope → EM
  | 0, _, _ => fun _ => stop
  | n + 1, sc, e =>
    match e with
    | .Constant c _ _ => fun _ => constP c
    | .Name x _ => fun ρ => nameP L sc x ρ
    | .Tuple es _ _ => fun ρ => bnd (argsP (evE L n sc) es ρ) fun vs => if vs.length ≤ sizeLine then ret (.tup vs) else stop
    | .List es _ => fun ρ => bnd (argsP (evE L n sc) es ρ) fun vs => if vs.length ≤ sizeLine then fun s => .ok (.ref s.length) (s ++ [.lst vs]) else stop
    | .Dict [] [] _ => fun _ s => .ok (.ref s.length) (s ++ [.dct []])
    | .Dict ks es _ => fun ρ => match keysOf ks with
      | none => stop
      | some kl => if kl.length = es.length ∧ kl.length ≤ 15 ∧ kl ≠ [] then fun s =>
          match evEs (evE L n sc) es ρ (s ++ [.dct []]) with
          | .ok vs s' => match s'[s.length]? with
            | some (.dct []) => .ok (.ref s.length) (s'.set s.length (.dct (mergeP [] (kl.zip vs))))
            | _ => .bad
          | .exc c fs s' => .exc c fs s'
          | .bad => .bad
        else stop
    | .BinOp a op b _ => fun ρ => bnd (evE L n sc a ρ) fun x => bnd (evE L n sc b ρ) fun y => binP op x y
    | .UnaryOp .USub a _ => fun ρ => bnd (evE L n sc a ρ) fun x => match x with
      | .int i => ret (.int (-i))
      | _ => stop
    | .UnaryOp .Not a _ => fun ρ => bnd (evE L n sc a ρ) fun x => match x with
      | .bl b => ret (.bl (!b))
      | _ => stop
    | .Compare a [op] [b] _ => fun ρ => if noSet b = true then bnd (evE L n sc a ρ) fun x => bnd (evE L n sc b ρ) fun y => bnd (cmpP op x y) fun b => ret (.bl b) else stop
    | .BoolOp .And [a, b] _ => fun ρ => bnd (evE L n sc a ρ) fun x => match x with
      | .bl true => evE L n sc b ρ
      | .bl false => ret (.bl false)
      | _ => stop
    | .BoolOp .Or [a, b] _ => fun ρ => bnd (evE L n sc a ρ) fun x => match x with
      | .bl true => ret (.bl true)
      | .bl false => evE L n sc b ρ
      | _ => stop
    | .BoolOp .And (a :: b :: c :: r) p => fun ρ => bnd (evE L n sc a ρ) fun x => match x with
      | .bl true => evE L n sc (.BoolOp .And (b :: c :: r) p) ρ
      | .bl false => ret (.bl false)
      | _ => stop
    | .BoolOp .Or (a :: b :: c :: r) p => fun ρ => bnd (evE L n sc a ρ) fun x => match x with
      | .bl true => ret (.bl true)
      | .bl false => evE L n sc (.BoolOp .Or (b :: c :: r) p) ρ
      | _ => stop
    | .IfExp c a b _ => fun ρ => bnd (tst (evE L n sc) 20 c ρ) fun t => if t = true then evE L n sc a ρ else evE L n sc b ρ
    | .Subscript a (.Slice lo hi none _) _ => fun ρ => bnd (evE L n sc a ρ) fun x => bnd (partP (evE L n sc) lo ρ) fun lo => bnd (partP (evE L n sc) hi ρ) fun hi => slP x lo hi
    | .Subscript a b _ => fun ρ => bnd (evE L n sc a ρ) fun x => bnd (evE L n sc b ρ) fun i => ixP x i
    | .Attribute a f _ => fun ρ => if baseOk a = true then bnd (evE L n sc a ρ) fun x => fldP L x f else stop
    | .Call (.Name f _) as [] _ => fun ρ => callP L (evE L n sc) sc f as ρ
    | .Call (.Attribute o m ap) as [] p => fun ρ => if mOk o as ap p = true then bnd (evE L n sc o ρ) fun x => methP L x m (evEs (evE L n sc) as ρ) else stop
    | .ListComp elt [⟨tg, iter, ifs, 0⟩] scope _ => fun ρ =>
      if blkC L.N sc scope (ownOf L.N scope.names) = true then
        bnd (srcP (evE L n sc) sc tg iter ρ) fun src s => lcP (evE L n scope) L.N scope tg elt ifs src s.length (wipeP ρ ((ownOf L.N scope.names).map (·.2))) (lenI s src + 1) 0 (s ++ [.lst []])
      else stop
    | _ => fun _ => stop

def blk (S : Stmt → SM) : List Stmt → SM
  | [], ρ, s => .ok .next ρ s
  | st :: r, ρ, s => match S st ρ s with
    | .ok .next ρ' s' => blk S r ρ' s'
    | o => o
def whl (B : SM) (C : Sl → M Bool) : Nat → SM
  | 0, _, _ => .bad
  | k + 1, ρ, s => match C ρ s with
    | .ok true s1 => match B ρ s1 with
      | .ok .next ρ' s' => whl B C k ρ' s'
      | .ok .cont ρ' s' => whl B C k ρ' s'
      | .ok .brk ρ' s' => .ok .next ρ' s'
      | o => o
    | .ok false s1 => .ok .next ρ s1
    | .exc c fs s1 => .exc c fs ρ s1
    | .bad => .bad
def forP (B : SM) (A : PV → Sl → Option Sl) (src : Sc) : Nat → Nat → SM
  | 0, _, _, _ => .bad
  | k + 1, i, ρ, s => match getI s src i with
    | none => .bad
    | some none => .ok .next ρ s
    | some (some v) => match A v ρ with
      | none => .bad
      | some ρ1 => match B ρ1 s with
        | .ok .next ρ' s' => forP B A src k (i + 1) ρ' s'
        | .ok .cont ρ' s' => forP B A src k (i + 1) ρ' s'
        | .ok .brk ρ' s' => .ok .next ρ' s'
        | o => o
/-- what an except's suite may be; fl: the fields of the exception's class -/
def suiP (nm : Option Str) (fl : List Str) (fs : List (Str × PV)) : List Stmt → Option Fl
  | [.Return (some (.Constant .none _ _)) _] => some (.ret .non)
  | [.Return (some (.Constant (.bool b) _ _)) _] => some (.ret (.bl b))
  | [.Return (some (.Attribute (.Name x _) f _)) _] => if nm = some x ∧ fl.contains f = true then (fs.lookup f).map .ret else none
  | [.Pass _] => some .next
  | [.Continue _] => some .cont
  | [.Return (some (.Tuple [.Constant (.str x) _ _] _ _)) _] => some (.ret (.tup [.str x]))
  | _ => none
/-- the fields of an exception's class -/
def excF (T : Tab) (c : Nat) : Option (List Str) :=
  match (T.cls[c]?).bind (·.exc) with
  | some none => some []
  | some (some fl) => some fl
  | none => none
/-- a made exception -/
def excP (L : Lk) (E : EM) (sc : Scope) : Expr → SM
  | .Call (.Name x _) as [] _ => fun ρ s =>
    if globB sc x = true then match L.T.glob.lookup x with
      | some (.cls c) => match (L.T.cls[c]?).bind (·.exc) with
        | some none => match as with
          | [.Constant (.str _) _ _] => .exc c [] ρ s
          | _ => .bad
        | some (some fl) => bndS (args1 E as ρ) ρ (fun vs s => if vs.length = fl.length ∧ fl.length ≤ 5 then .exc c (fl.zip vs) ρ s else .bad) s
        | none => .bad
      | _ => .bad
    else .bad
  | _ => fun _ _ => .bad
/-- an except's name: a plain local, or none -/
def nmOk (N : List Str) (sc : Scope) : Option Str → Bool
  | none => true
  | some y => sc.names.lookup y == some .local && (slotOf N y).isSome
/-- the except's name goes -/
def goneP (N : List Str) (nm : Option Str) (r : Fl) (ρ : Sl) (s : Store) : RS :=
  match nm with
  | none => .ok r ρ s
  | some y => match slotOf N y with
    | some i => if i < ρ.length then .ok r (ρ.set i none) s else .bad
    | none => .bad
def lcB : Expr → Bool
  | .ListComp _ _ _ _ => true
  | .SetComp _ _ _ _ => true
  | .DictComp _ _ _ _ _ => true
  | _ => false
def tupB : Expr → Bool
  | .Tuple _ _ _ => true
  | .List _ _ => true
  | _ => false
def parF (sc : Scope) (l : Nat) : Expr → Option Str
  | .Name x p => if sc.names.lookup x == some .local && p.line == l then some x else none
  | _ => none
/-- the names of plain locals that stand on the first one's line -/
def parN (sc : Scope) (ts : List Expr) : List Str := ts.filterMap (parF sc ((ts.head?.map (·.pos.line)).getD 0))
/-- names with slots -/
def tgOk (N : List Str) (sc : Scope) (ts : List Expr) : Bool := ts.all fun t => match t with
  | .Name x _ => locB sc x && (slotOf N x).isSome
  | _ => false
def parLoc (sc : Scope) (ts es : List Expr) : Bool :=
  decide ((parN sc ts).length = ts.length) && ((parN sc ts).eraseDups.length == ts.length && (!(es.all (foldedForSure 8)) && !(es.all (constantsAlone 8))))
def parOk (sc : Scope) (ts es : List Expr) : Bool := es.all noStar && (parLoc sc ts es || !decide ((parN sc ts).length = ts.length))
/-- a list is unpacked as its items -/
def unlP (v : PV) : M PV := fun s => match v with
  | .ref n => match lstOf s n with
    | some l => .ok (.tup l) s
    | none => .bad
  | v => .ok v s
/-- a, b = x, y: the written values -/
def parOf : List Expr → Expr → Option (List Expr)
  | [.Name _ _, .Name _ _], .Tuple [a, b] _ _ => some [a, b]
  | [.Name _ _, .Name _ _, .Name _ _], .Tuple [a, b, c] _ _ => some [a, b, c]
  | _, _ => none
def evS (L : Lk) (sc : Scope) : Nat → Stmt → SM
  | 0, _ => fun _ _ => .bad
  | n + 1, st =>
    match st with
    | .Pass _ => fun ρ s => .ok .next ρ s
    | .Break _ => fun ρ s => .ok .brk ρ s
    | .Continue _ => fun ρ s => .ok .cont ρ s
    | .Expr (.Call f as ks p) _ => fun ρ s => bndS (evE L 40 sc (.Call f as ks p) ρ) ρ (fun _ s => .ok .next ρ s) s
    | .Return none _ => fun ρ s => .ok (.ret .non) ρ s
    | .Return (some e) _ => fun ρ s => bndS (evE L 40 sc e ρ) ρ (fun v s => .ok (.ret v) ρ s) s
    | .Assign [.Name x _] e _ => fun ρ s => if locB sc x = true then match slotOf L.N x with
        | some i => bndS (evE L 40 sc e ρ) ρ (fun v s => .ok .next (ρ.set i (some v)) s) s
        | none => .bad
      else .bad
    | .Assign [.Subscript o i _] e _ => fun ρ s => bndS (evE L 40 sc e ρ) ρ (fun v s => bndS (evE L 40 sc o ρ) ρ (fun x s => bndS (evE L 40 sc i ρ) ρ (fun j s => bndS (ixSet x j v) ρ (fun _ s => .ok .next ρ s) s) s) s) s
    | .Assign [.Attribute o f _] e _ => fun ρ s => bndS (evE L 40 sc e ρ) ρ (fun v s => bndS (evE L 40 sc o ρ) ρ (fun x s => bndS (fldSet L x f v) ρ (fun _ s => .ok .next ρ s) s) s) s
    | .Assign [.Tuple ts k p] e _ => fun ρ s => match parOf ts e with
      | some es => if (parOk sc ts es && tgOk L.N sc ts) = true then bndS (evEs (evE L 40 sc) es ρ) ρ (fun vs s => match asgP L.N sc (.Tuple ts k p) (.tup vs) ρ with
          | some ρ' => .ok .next ρ' s
          | none => .bad) s
        else .bad
      | none => if tupB e = true then .bad else bndS (evE L 40 sc e ρ) ρ (fun v s => bndS (unlP v) ρ (fun v s => match asgP L.N sc (.Tuple ts k p) v ρ with
        | some ρ' => .ok .next ρ' s
        | none => .bad) s) s
    | .AugAssign (.Attribute o f _) .Add e _ => fun ρ s => bndS (evE L 40 sc o ρ) ρ (fun x s => bndS (fldP L x f) ρ (fun v s => bndS (evE L 40 sc e ρ) ρ (fun w s' => if clsP s x = clsP s' x then bndS (match v, w with
      | .int i, .int j => fldSet L x f (.int (i + j))
      | _, _ => stop) ρ (fun _ s => .ok .next ρ s) s' else .bad) s) s) s
    | .AugAssign (.Attribute o f _) .Sub e _ => fun ρ s => bndS (evE L 40 sc o ρ) ρ (fun x s => bndS (fldP L x f) ρ (fun v s => bndS (evE L 40 sc e ρ) ρ (fun w s' => if clsP s x = clsP s' x then bndS (match v, w with
      | .int i, .int j => fldSet L x f (.int (i - j))
      | _, _ => stop) ρ (fun _ s => .ok .next ρ s) s' else .bad) s) s) s
    | .If c a b _ => fun ρ s => bndS (tst (evE L 40 sc) 20 c ρ) ρ (fun t s => if t = true then blk (evS L sc n) a ρ s else blk (evS L sc n) b ρ s) s
    | .While c b [] _ => fun ρ s => whl (blk (evS L sc n) b) (tst (evE L 40 sc) 20 c) 100000 ρ s
    | .For tg iter b [] _ => fun ρ s => bndS (srcP (evE L 40 sc) sc tg iter ρ) ρ (fun src s => forP (blk (evS L sc n) b) (asgP L.N sc tg) src (lenI s src + 1) 0 ρ s) s
    | .Raise (some e) none _ => excP L (evE L 40 sc) sc e
    | .Try b [.ExceptHandler (some (.Name x _)) nm (s0 :: suite) _] [] [] _ => fun ρ s =>
      if (globB sc x && nmOk L.N sc nm) = true then match L.T.glob.lookup x with
        | some (.cls c') => match blk (evS L sc n) b ρ s with
          | .exc c fs ρ' s' => match excF L.T c, excF L.T c' with
            | some fl, some _ => if L.T.sub c c' = true then match suiP nm fl fs (s0 :: suite) with
                | some r => goneP L.N nm r ρ' s'
                | none => .bad
              else .exc c fs ρ' s'
            | _, _ => .bad
          | o => o
        | _ => .bad
      else .bad
    | _ => fun _ _ => .bad
def start (N : List Str) (vs : List PV) : Sl := vs.map some ++ List.replicate (N.length - vs.length) none
/-- the i-th def, calls at most d deep -/
def callB (T : Tab) (call mk : Nat → List PV → M PV) (i : Nat) (vs : List PV) : M PV := fun s =>
  match T.fns[i]? with
  | none => .bad
  | some F => if vs.length = F.ps.length then
      match blk (evS ⟨T, call, mk, F.N⟩ F.sc 20) F.body (start F.N vs) s with
      | .ok .next _ s' => .ok .non s'
      | .ok (.ret v) _ s' => .ok v s'
      | .exc c fs _ s' => .exc c fs s'
      | _ => .bad
    else .bad
def call2 (T : Tab) : Nat → (Nat → List PV → M PV) × (Nat → List PV → M PV)
  | 0 => (fun _ _ => stop, fun _ _ => stop)
  | d + 1 => (callB T (call2 T d).1 (call2 T d).2, (call2 T d).1)
def callN (T : Tab) (d : Nat) : Nat → List PV → M PV := (call2 T d).1
end Z

namespace Z
open PySem L2

section
variable (K : PySem.W.Frag)
mutual
inductive Rv (φ : List Addr) (H : Hp) : PV → V → Prop
  | non : Rv φ H .non .non
  | bl (b : Bool) : Rv φ H (.bl b) (.bl b)
  | int (i : Int) : Rv φ H (.int i) (.int i)
  | str (x : Str) : Rv φ H (.str x) (.str x)
  | tup {a : Addr} {l : List PV} {xs : List V} : SqT K H a xs → RvL φ H l xs → Rv φ H (.tup l) (.ref a)
  | ref {n : Nat} {a : Addr} : φ[n]? = some a → Rv φ H (.ref n) (.ref a)
inductive RvL (φ : List Addr) (H : Hp) : List PV → List V → Prop
  | nil : RvL φ H [] []
  | cons {v : PV} {x : V} {l : List PV} {xs : List V} : Rv φ H v x → RvL φ H l xs → RvL φ H (v :: l) (x :: xs)
end
inductive Rk {κ : Type} (φ : List Addr) (H : Hp) : List (κ × PV) → List (κ × V) → Prop
  | nil : Rk φ H [] []
  | cons {k : κ} {v : PV} {x : V} {l : List (κ × PV)} {xs : List (κ × V)} : Rv K φ H v x → Rk φ H l xs → Rk φ H ((k, v) :: l) ((k, x) :: xs)
end
section
variable {K : PySem.W.Frag} {φ φ' φ'' : List Addr} {H H' H'' : Hp}
/-- what stays from H to H' -/
structure Ext (φ : List Addr) (H : Hp) (φ' : List Addr) (H' : Hp) : Prop where
  pre : ∃ r, φ' = φ ++ r
  tup : ∀ a xs, H a = some (.tup xs) → H' a = some (.tup xs)
  frz : ∀ a o u, H a = some (.frz o u) → H' a = some (.frz o u)
theorem Ext.refl : Ext φ H φ H := ⟨⟨[], by simp⟩, fun _ _ h => h, fun _ _ _ h => h⟩
theorem Ext.trans (a : Ext φ H φ' H') (b : Ext φ' H' φ'' H'') : Ext φ H φ'' H'' := by
  obtain ⟨r, e⟩ := a.pre
  obtain ⟨r', e'⟩ := b.pre
  exact ⟨⟨r ++ r', by rw [e', e, List.append_assoc]⟩, fun p xs h => b.tup _ _ (a.tup _ _ h), fun p o u h => b.frz _ _ _ (a.frz _ _ _ h)⟩
theorem Ext.get (e : Ext φ H φ' H') {n : Nat} {a : Addr} (h : φ[n]? = some a) : φ'[n]? = some a := by
  obtain ⟨r, rfl⟩ := e.pre
  have hn : n < φ.length := (List.getElem?_eq_some_iff.mp h).1
  rw [List.getElem?_append_left hn]
  exact h
theorem SqT.ext {a : Addr} {xs : List V} (e : Ext φ H φ' H') (h : SqT K H a xs) : SqT K H' a xs := by
  rcases h with (h | ⟨o, h⟩) | h
  · exact .inl (.inl (e.tup _ _ h))
  · exact .inl (.inr ⟨o, e.frz _ _ _ h⟩)
  · exact .inr h
mutual
theorem Rv.ext (e : Ext φ H φ' H') : ∀ {v : PV} {x : V}, Rv K φ H v x → Rv K φ' H' v x
  | _, _, .non => .non
  | _, _, .bl b => .bl b
  | _, _, .int i => .int i
  | _, _, .str x => .str x
  | _, _, .tup h r => .tup (SqT.ext e h) (RvL.ext e r)
  | _, _, .ref h => .ref (e.get h)
theorem RvL.ext (e : Ext φ H φ' H') : ∀ {l : List PV} {xs : List V}, RvL K φ H l xs → RvL K φ' H' l xs
  | _, _, .nil => .nil
  | _, _, .cons r t => .cons (Rv.ext e r) (RvL.ext e t)
end
theorem Rk.ext {κ : Type} (e : Ext φ H φ' H') {l : List (κ × PV)} {xs : List (κ × V)} (h : Rk K φ H l xs) : Rk K φ' H' l xs := by
  induction h with
  | nil => exact .nil
  | cons r _ ih => exact .cons (r.ext e) ih

theorem RvL.len : ∀ {l : List PV} {xs : List V}, RvL K φ H l xs → l.length = xs.length
  | _, _, .nil => rfl
  | _, _, .cons _ t => congrArg (· + 1) t.len
theorem RvL.get : ∀ {l : List PV} {xs : List V} {i : Nat} {v : PV}, RvL K φ H l xs → l[i]? = some v → ∃ x, xs[i]? = some x ∧ Rv K φ H v x
  | _, _, _, _, .nil, e => by simp at e
  | _, _, 0, _, .cons r _, e => by simp at e; subst e; exact ⟨_, rfl, r⟩
  | _, _, i + 1, v, .cons _ t, e => by
    obtain ⟨x, h1, h2⟩ := RvL.get (i := i) (v := v) t (by simpa using e)
    exact ⟨x, by simpa using h1, h2⟩
theorem RvL.get_none {l : List PV} {xs : List V} {i : Nat} (r : RvL K φ H l xs) (e : l[i]? = none) : xs.length ≤ i := by
  rw [← r.len]
  exact List.getElem?_eq_none_iff.mp e
theorem RvL.app : ∀ {l l' : List PV} {xs xs' : List V}, RvL K φ H l xs → RvL K φ H l' xs' → RvL K φ H (l ++ l') (xs ++ xs')
  | _, _, _, _, .nil, s => s
  | _, _, _, _, .cons r t, s => .cons r (t.app s)
theorem RvL.one {v : PV} {x : V} (r : Rv K φ H v x) : RvL K φ H [v] [x] := .cons r .nil
theorem RvL.drop : ∀ {l : List PV} {xs : List V} (n : Nat), RvL K φ H l xs → RvL K φ H (l.drop n) (xs.drop n)
  | _, _, 0, r => r
  | _, _, _ + 1, .nil => .nil
  | _, _, n + 1, .cons _ t => RvL.drop n t
theorem RvL.take : ∀ {l : List PV} {xs : List V} (n : Nat), RvL K φ H l xs → RvL K φ H (l.take n) (xs.take n)
  | _, _, 0, _ => .nil
  | _, _, _ + 1, .nil => .nil
  | _, _, n + 1, .cons r t => .cons r (RvL.take n t)
theorem RvL.cut {l : List PV} {xs : List V} (lo hi : Option Int) (r : RvL K φ H l xs) : RvL K φ H (cutP l lo hi) (cutV xs lo hi) := by
  unfold cutP cutV
  rw [r.len]
  exact (r.drop _).take _
theorem Rv.flat {v : PV} {x : V} (r : Rv K φ H v x) (h : flatP v = true) : x = pv v := by
  cases r <;> first | rfl | cases h
theorem flat_pv {v : PV} (h : flatP v = true) : flatV (pv v) = true := by
  cases v <;> first | rfl | cases h
theorem RvL.flat : ∀ {l : List PV} {xs : List V}, RvL K φ H l xs → l.all flatP = true → xs = l.map pv ∧ xs.all flatV = true
  | _, _, .nil, _ => ⟨rfl, rfl⟩
  | _, _, .cons r t, h => by
    simp only [List.all_cons, Bool.and_eq_true] at h
    obtain ⟨e1, e2⟩ := t.flat h.2
    have e := r.flat h.1
    subst e
    rw [List.map_cons, ← e1, List.all_cons, e2, flat_pv h.1]
    exact ⟨rfl, rfl⟩
theorem RvL.ints : ∀ {l : List PV} {xs : List V} {ns : List Int}, RvL K φ H l xs → intsOf l = some ns → xs = ns.map V.int
  | _, _, _, .nil, h => by cases h; rfl
  | _, _, _, .cons r t, h => by
    cases r with
    | int i =>
      unfold intsOf at h
      simp only [Option.map_eq_some_iff] at h
      obtain ⟨ms, e, rfl⟩ := h
      rw [t.ints e, List.map_cons]
    | _ => cases h
theorem RvL.bools : ∀ {l : List PV} {xs : List V} {ns : List Bool}, RvL K φ H l xs → boolsOf l = some ns → xs = ns.map V.bl
  | _, _, _, .nil, h => by cases h; rfl
  | _, _, _, .cons r t, h => by
    cases r with
    | bl i =>
      unfold boolsOf at h
      simp only [Option.map_eq_some_iff] at h
      obtain ⟨ms, e, rfl⟩ := h
      rw [t.bools e, List.map_cons]
    | _ => cases h
theorem Rv.key {v : PV} {x : V} {k : Key} (r : Rv K φ H v x) (h : keyOf v = some k) : x = kV k := by
  cases r <;> first | (cases h; rfl) | cases h
theorem key_rv {k : Key} {v : PV} (h : keyOf v = some k) : Rv K φ H v (kV k) := by
  cases v <;> first | (cases h; constructor) | cases h

section
variable {κ : Type} [DecidableEq κ] {l : List (κ × PV)} {ks : List (κ × V)}
theorem Rk.len (r : Rk K φ H l ks) : l.length = ks.length := by
  induction r with
  | nil => rfl
  | cons _ _ ih => exact congrArg (· + 1) ih
theorem Rk.keys (r : Rk K φ H l ks) : l.map (·.1) = ks.map (·.1) := by
  induction r with
  | nil => rfl
  | cons _ _ ih => simp [ih]
theorem Rk.find (r : Rk K φ H l ks) (p : κ → Bool) : (∃ q z, (l.find? fun q => p q.1) = some q ∧ (ks.find? fun q => p q.1) = some z ∧ q.1 = z.1 ∧ Rv K φ H q.2 z.2) ∨ ((l.find? fun q => p q.1) = none ∧ (ks.find? fun q => p q.1) = none) := by
  induction r with
  | nil => exact .inr ⟨rfl, rfl⟩
  | @cons k v x l xs h _ ih =>
    cases hp : p k with
    | true => exact .inl ⟨(k, v), (k, x), by simp [List.find?_cons, hp], by simp [List.find?_cons, hp], rfl, h⟩
    | false =>
      simp only [List.find?_cons, hp]
      exact ih
theorem Rk.app {l' : List (κ × PV)} {ks' : List (κ × V)} (r : Rk K φ H l ks) (r' : Rk K φ H l' ks') : Rk K φ H (l ++ l') (ks ++ ks') := by
  induction r with
  | nil => exact r'
  | cons h _ ih => exact .cons h ih
theorem Rk.any (r : Rk K φ H l ks) (p : κ → Bool) : (l.any fun q => p q.1) = (ks.any fun q => p q.1) := by
  induction r with
  | nil => rfl
  | cons _ _ ih => simp only [List.any_cons, ih]
theorem Rk.put (r : Rk K φ H l ks) (k : κ) {v : PV} {x : V} (h : Rv K φ H v x) : Rk K φ H (if (l.any fun p => decide (p.1 = k)) = true then l.map (fun p => if p.1 = k then (p.1, v) else p) else l ++ [(k, v)]) (putK ks k x) := by
  unfold putK
  have e := r.any fun q => decide (q = k)
  rw [e]
  split
  · clear e
    rename_i z
    clear z
    induction r with
    | nil => exact .nil
    | @cons k' v' x' l xs h' _ ih =>
      simp only [List.map_cons]
      by_cases hk : k' = k
      · rw [if_pos hk, if_pos hk]
        exact .cons h ih
      · rw [if_neg hk, if_neg hk]
        exact .cons h' ih
  · exact r.app (.cons h .nil)
end
theorem Rk.dget {l : List (Key × PV)} {ks : List (Key × V)} (r : Rk K φ H l ks) (k : Key) : (∃ v x, dget l k = some v ∧ valV ks k = some x ∧ Rv K φ H v x) ∨ (dget l k = none ∧ valV ks k = none) := by
  unfold Z.dget valV
  rcases r.find fun q => decide (q = k) with ⟨q, z, h1, h2, _, h4⟩ | ⟨h1, h2⟩
  · exact .inl ⟨q.2, z.2, by rw [h1]; rfl, by rw [h2]; rfl, h4⟩
  · exact .inr ⟨by rw [h1]; rfl, by rw [h2]; rfl⟩
theorem Rk.dput {l : List (Key × PV)} {ks : List (Key × V)} (r : Rk K φ H l ks) (k : Key) {v : PV} {x : V} (h : Rv K φ H v x) : Rk K φ H (dput l k v) (putK ks k x) := r.put k h
theorem Rk.merge : ∀ {more : List (Key × PV)} {ms : List (Key × V)} {l : List (Key × PV)} {ks : List (Key × V)}, Rk K φ H more ms → Rk K φ H l ks → Rk K φ H (mergeP l more) (mergeK ks ms)
  | _, _, _, _, .nil, r => r
  | _, _, _, _, .cons h t, r => by
    unfold mergeP mergeK
    rw [List.foldl_cons, List.foldl_cons]
    exact Rk.merge t (r.dput _ h)
theorem Rk.lookup {l : List (Str × PV)} {fs : List (Str × V)} (r : Rk K φ H l fs) (f : Str) : (∃ v x, l.lookup f = some v ∧ fs.lookup f = some x ∧ Rv K φ H v x) ∨ (l.lookup f = none ∧ fs.lookup f = none) := by
  induction r with
  | nil => exact .inr ⟨rfl, rfl⟩
  | @cons k v x l xs h _ ih =>
    simp only [List.lookup_cons]
    cases hb : f == k with
    | true => exact .inl ⟨v, x, rfl, rfl, h⟩
    | false => exact ih
theorem Rk.putF {l : List (Str × PV)} {fs : List (Str × V)} (r : Rk K φ H l fs) (f : Str) {v : PV} {x : V} (h : Rv K φ H v x) : Rk K φ H (putFP f v l) (putF f x fs) := by
  induction r with
  | nil => exact .cons h .nil
  | @cons k v' x' l xs h' t ih =>
    unfold putFP L2.putF
    by_cases e : k = f
    · rw [if_pos e, if_pos e]
      exact .cons h t
    · rw [if_neg e, if_neg e]
      exact .cons h' ih
end

def wrt : SO → Bool
  | .rol _ => false
  | .rod _ => false
  | _ => true
section
variable (K : PySem.W.Frag) (ca : Nat → Addr)
/-- a list that is only read -/
def Fz (H : Hp) (a : Addr) (xs : List V) : Prop := (∃ o, H a = some (.frz o (.lst xs))) ∨
  ∃ (o : Obj) (its : Array Value) (n : Nat), K.lookup a = some o ∧ o.cls = .type "list" ∧ o.dict = none ∧ o.data = .seq its n ∧ its.size ≤ sizeLine ∧ Vals xs its.toList
def RO (φ : List Addr) (H : Hp) (a : Addr) : SO → Prop
  | .lst l => ∃ xs, H a = some (.lst xs) ∧ RvL K φ H l xs
  | .rol l => ∃ xs, Fz K H a xs ∧ RvL K φ H l xs
  | .dct l => ∃ ks, H a = some (.dK ks) ∧ Rk K φ H l ks
  | .ins c l => ∃ dx fs, H a = some (.ins (ca c) dx fs) ∧ Rk K φ H l fs
  | .rod l => ∃ ks, (∃ o, H a = some (.frz o (.dK ks))) ∧ Rk K φ H l ks
structure SR (φ : List Addr) (st : Store) (H : Hp) : Prop where
  len : φ.length = st.length
  obj : ∀ (n : Nat) a o, φ[n]? = some a → st[n]? = some o → RO K ca φ H a o
  apart : ∀ (n m : Nat) a o u, φ[n]? = some a → φ[m]? = some a → st[n]? = some o → st[m]? = some u → wrt o = true → wrt u = true → n = m
end
section
variable {K : PySem.W.Frag} {ca : Nat → Addr} {φ φ' : List Addr} {H H' : Hp} {st st' : Store}
theorem Fz.sq {a : Addr} {xs : List V} (h : Fz K H a xs) : SqL K H a xs := by
  rcases h with ⟨o, h⟩ | h
  · exact .inl (.inr ⟨o, h⟩)
  · exact .inr h
theorem Fz.ext {a : Addr} {xs : List V} (e : Ext φ H φ' H') (h : Fz K H a xs) : Fz K H' a xs := by
  rcases h with ⟨o, h⟩ | h
  · exact .inl ⟨o, e.frz _ _ _ h⟩
  · exact .inr h
theorem RO.mut {a : Addr} {o : SO} (h : RO K ca φ H a o) (w : wrt o = true) : Mut (H a) := by
  cases o with
  | lst l => obtain ⟨xs, e, _⟩ := h; rw [e]; trivial
  | rol l => cases w
  | dct l => obtain ⟨xs, e, _⟩ := h; rw [e]; trivial
  | ins c l => obtain ⟨dx, xs, e, _⟩ := h; rw [e]; trivial
  | rod l => cases w
theorem RO.ext {a : Addr} {o : SO} (e : Ext φ H φ' H') (k : wrt o = true → H' a = H a) (h : RO K ca φ H a o) : RO K ca φ' H' a o := by
  cases o with
  | lst l => obtain ⟨xs, q, r⟩ := h; exact ⟨xs, by rw [k rfl]; exact q, r.ext e⟩
  | rol l => obtain ⟨xs, q, r⟩ := h; exact ⟨xs, q.ext e, r.ext e⟩
  | dct l => obtain ⟨xs, q, r⟩ := h; exact ⟨xs, by rw [k rfl]; exact q, r.ext e⟩
  | ins c l => obtain ⟨dx, xs, q, r⟩ := h; exact ⟨dx, xs, by rw [k rfl]; exact q, r.ext e⟩
  | rod l => obtain ⟨xs, ⟨o, q⟩, r⟩ := h; exact ⟨xs, ⟨o, e.frz _ _ _ q⟩, r.ext e⟩
theorem SR.at (r : SR K ca φ st H) {n : Nat} {a : Addr} {o : SO} (h : φ[n]? = some a) (e : st[n]? = some o) : RO K ca φ H a o := r.obj n a o h e
theorem SR.lt (r : SR K ca φ st H) {n : Nat} {a : Addr} (h : φ[n]? = some a) : n < st.length := by
  rw [← r.len]
  exact (List.getElem?_eq_some_iff.mp h).1
/-- a new thing that is no object of the store -/
theorem ext_new {p : Addr} {o : HO} (hp : H p = none) : Ext φ H φ (upd H p o) :=
  ⟨⟨[], by simp⟩, fun a xs h => by rw [upd_ne (ne_of_none h hp)]; exact h, fun a o u h => by rw [upd_ne (ne_of_none h hp)]; exact h⟩
theorem SR.new (r : SR K ca φ st H) {p : Addr} {o : HO} (hp : H p = none) : SR K ca φ st (upd H p o) :=
  ⟨r.len, fun n a u h e => (r.at h e).ext (ext_new hp) fun w => by
    have m := (r.at h e).mut w
    refine upd_ne ?_
    rintro rfl
    rw [hp] at m
    exact m, r.apart⟩
/-- a new object of the store -/
theorem ext_push {p : Addr} {o : HO} (hp : H p = none) : Ext φ H (φ ++ [p]) (upd H p o) :=
  ⟨⟨[p], rfl⟩, (ext_new (φ := φ) hp).tup, (ext_new (φ := φ) hp).frz⟩
theorem SR.push (r : SR K ca φ st H) {p : Addr} {o : HO} {u : SO} (hp : H p = none) (h : RO K ca (φ ++ [p]) (upd H p o) p u) : SR K ca (φ ++ [p]) (st ++ [u]) (upd H p o) := by
  have old : ∀ n a v, (φ ++ [p])[n]? = some a → (st ++ [u])[n]? = some v → (φ[n]? = some a ∧ st[n]? = some v) ∨ (n = st.length ∧ a = p ∧ v = u) := fun n a v h1 h2 => by
    have hl := r.len
    by_cases hn : n < st.length
    · rw [List.getElem?_append_left (by omega)] at h1
      rw [List.getElem?_append_left hn] at h2
      exact .inl ⟨h1, h2⟩
    · have hlt := (List.getElem?_eq_some_iff.mp h2).1
      simp only [List.length_append, List.length_cons, List.length_nil] at hlt
      have en : n = st.length := by omega
      subst en
      rw [List.getElem?_append_right (by omega)] at h1 h2
      simp only [hl, Nat.sub_self] at h1 h2
      exact .inr ⟨rfl, by simpa using h1.symm, by simpa using h2.symm⟩
  have ne : ∀ n a v, φ[n]? = some a → st[n]? = some v → wrt v = true → a ≠ p := fun n a v h1 h2 w z => by
    have m := (r.at h1 h2).mut w
    rw [z, hp] at m
    exact m
  refine ⟨by simp [r.len], fun n a v h1 h2 => ?_, fun n m a v w h1 h2 h3 h4 h5 h6 => ?_⟩
  · rcases old n a v h1 h2 with ⟨q1, q2⟩ | ⟨_, rfl, rfl⟩
    · exact (r.at q1 q2).ext (ext_push hp) fun w => upd_ne (ne n a v q1 q2 w)
    · exact h
  · rcases old n a v h1 h3 with ⟨q1, q2⟩ | ⟨e1, rfl, rfl⟩
    · rcases old m a w h2 h4 with ⟨q3, q4⟩ | ⟨e2, rfl, rfl⟩
      · exact r.apart n m a v w q1 q3 q2 q4 h5 h6
      · exact absurd rfl (ne n _ v q1 q2 h5)
    · rcases old m _ w h2 h4 with ⟨q3, q4⟩ | ⟨e2, _, rfl⟩
      · exact absurd rfl (ne m _ w q3 q4 h6)
      · exact e1.trans e2.symm
/-- an object of the store is written -/
theorem ext_set {a : Addr} {o : HO} (m : Mut (H a)) : Ext φ H φ (upd H a o) :=
  ⟨⟨[], by simp⟩, fun b xs h => by
    rw [upd_ne]
    · exact h
    · rintro rfl
      rw [h] at m
      exact m, fun b o u h => by
    rw [upd_ne]
    · exact h
    · rintro rfl
      rw [h] at m
      exact m⟩
theorem SR.put (r : SR K ca φ st H) {n : Nat} {a : Addr} {o u : SO} {w : HO} (h : φ[n]? = some a) (e : st[n]? = some o) (hw : wrt o = true) (q : RO K ca φ (upd H a w) a u) : SR K ca φ (st.set n u) (upd H a w) := by
  have mu := (r.at h e).mut hw
  have hn := r.lt h
  have old : ∀ m v, (st.set n u)[m]? = some v → (m = n ∧ v = u) ∨ (m ≠ n ∧ st[m]? = some v) := fun m v hv => by
    by_cases c : m = n
    · subst c
      rw [List.getElem?_set_self hn] at hv
      exact .inl ⟨rfl, by simpa using hv.symm⟩
    · rw [List.getElem?_set_ne (Ne.symm c)] at hv
      exact .inr ⟨c, hv⟩
  refine ⟨by simp [r.len], fun m b v h1 h2 => ?_, fun m k b v v' h1 h2 h3 h4 h5 h6 => ?_⟩
  · rcases old m v h2 with ⟨rfl, rfl⟩ | ⟨c, h2⟩
    · rw [h] at h1
      cases h1
      exact q
    · refine (r.at h1 h2).ext (ext_set mu) fun wv => upd_ne ?_
      rintro rfl
      exact c (r.apart m n b v o h1 h h2 e wv hw)
  · rcases old m v h3 with ⟨e1, e2⟩ | ⟨c, g3⟩
    · rcases old k v' h4 with ⟨e3, e4⟩ | ⟨c', g4⟩
      · exact e1.trans e3.symm
      · subst e1
        rw [h] at h1
        cases h1
        exact r.apart m k _ o v' h h2 e g4 hw h6
    · rcases old k v' h4 with ⟨e3, e4⟩ | ⟨c', g4⟩
      · subst e3
        rw [h] at h2
        cases h2
        exact r.apart m k _ v o h1 h g3 e h5 hw
      · exact r.apart m k b v v' h1 h2 g3 g4 h5 h6
theorem SR.set (r : SR K ca φ st H) {n : Nat} {a : Addr} {o u : SO} {w : HO} (h : φ[n]? = some a) (e : st[n]? = some o) (hw : wrt o = true) (hu : wrt u = true) (q : RO K ca φ (upd H a w) a u) : SR K ca φ (st.set n u) (upd H a w) := r.put h e hw q
/-- a dict, as it may be read -/
theorem SR.dict (r : SR K ca φ st H) {n : Nat} {a : Addr} {l : List (Key × PV)} (h : φ[n]? = some a) (e : dctOf st n = some l) : ∃ ks, Rd H a (.dK ks) ∧ Rk K φ H l ks := by
  unfold dctOf at e
  cases q : st[n]? with
  | none => rw [q] at e; cases e
  | some o =>
    rw [q] at e
    cases o with
    | dct l' => cases e; obtain ⟨ks, z, t⟩ := r.at h q; exact ⟨ks, .inl z, t⟩
    | rod l' => cases e; obtain ⟨ks, z, t⟩ := r.at h q; exact ⟨ks, .inr z, t⟩
    | _ => cases e
/-- a list, as it may be read -/
theorem SR.list (r : SR K ca φ st H) {n : Nat} {a : Addr} {l : List PV} (h : φ[n]? = some a) (e : lstOf st n = some l) : ∃ xs, SqL K H a xs ∧ RvL K φ H l xs := by
  unfold lstOf at e
  cases q : st[n]? with
  | none => rw [q] at e; cases e
  | some o =>
    rw [q] at e
    cases o with
    | lst l' => cases e; obtain ⟨xs, z, t⟩ := r.at h q; exact ⟨xs, SqL.of z, t⟩
    | rol l' => cases e; obtain ⟨xs, z, t⟩ := r.at h q; exact ⟨xs, z.sq, t⟩
    | _ => cases e

def RL (K : PySem.W.Frag) (φ : List Addr) (H : Hp) (ρ : Sl) (σ : St) : Prop := ρ.length = σ.length ∧ ∀ (i : Nat) (v : PV), ρ[i]? = some (some v) → ∃ x, σ[i]? = some (some x) ∧ Rv K φ H v x
theorem RL.ext {ρ : Sl} {σ : St} (e : Ext φ H φ' H') (h : RL K φ H ρ σ) : RL K φ' H' ρ σ := ⟨h.1, fun i v q => let ⟨x, a, b⟩ := h.2 i v q; ⟨x, a, b.ext e⟩⟩
theorem RL.set {ρ : Sl} {σ : St} (h : RL K φ H ρ σ) (i : Nat) {v : PV} {x : V} (r : Rv K φ H v x) : RL K φ H (ρ.set i (some v)) (σ.set i (some x)) := by
  refine ⟨by simp [h.1], fun j w q => ?_⟩
  by_cases c : j = i
  · subst c
    have hj : j < ρ.length := by
      have := (List.getElem?_eq_some_iff.mp q).1
      simpa using this
    rw [List.getElem?_set_self hj] at q
    cases q
    exact ⟨x, List.getElem?_set_self (by rw [← h.1]; exact hj), r⟩
  · rw [List.getElem?_set_ne (Ne.symm c)] at q
    obtain ⟨y, a, b⟩ := h.2 j w q
    exact ⟨y, by rw [List.getElem?_set_ne (Ne.symm c)]; exact a, b⟩
theorem RL.del {ρ : Sl} {σ : St} (h : RL K φ H ρ σ) (i : Nat) {y : Option V} : RL K φ H (ρ.set i none) (σ.set i y) := by
  refine ⟨by simp [h.1], fun j w q => ?_⟩
  by_cases c : j = i
  · subst c
    have hj : j < ρ.length := by
      have := (List.getElem?_eq_some_iff.mp q).1
      simpa using this
    rw [List.getElem?_set_self hj] at q
    cases q
  · rw [List.getElem?_set_ne (Ne.symm c)] at q
    obtain ⟨y, a, b⟩ := h.2 j w q
    exact ⟨y, by rw [List.getElem?_set_ne (Ne.symm c)]; exact a, b⟩
theorem RL.wipe {ρ : Sl} {σ : St} (h : RL K φ H ρ σ) : ∀ vs : List Nat, RL K φ H (wipeP ρ vs) (L2.wipe σ vs)
  | [] => h
  | _ :: r => (RL.wipe h r).del _
end

section
variable (K : PySem.W.Frag) (ca : Nat → Addr)
/-- the fields of an exception, in its own dict -/
def Rx (φ : List Addr) (H : Hp) (fs : List (Str × PV)) (d : Option Addr) : Prop :=
  ∀ f v, fs.lookup f = some v → ∃ dd us x, d = some dd ∧ H dd = some (.xd us) ∧ us.lookup f = some x ∧ Rv K φ H v x
def Out {α β : Type} (R : List Addr → Hp → α → β → Prop) (Ex : XK) (φ : List Addr) (H : Hp) (Q : β → Hp → Prop) : RE α → Prop
  | .ok v st => ∀ φ' H' u, Ext φ H φ' H' → SR K ca φ' st H' → R φ' H' v u → Q u H'
  | .exc c fs st => ∀ φ' H' d, Ext φ H φ' H' → SR K ca φ' st H' → Rx K φ' H' fs d → Ex (.ref (ca c)) d H'
  | .bad => False
end
section
variable {K : PySem.W.Frag} {ca : Nat → Addr} {φ φ' : List Addr} {H H' : Hp} {st : Store} {α β γ δ : Type} {R : List Addr → Hp → α → β → Prop} {R' : List Addr → Hp → γ → δ → Prop} {Ex : XK} {Q Q' : β → Hp → Prop} {r : RE α}
theorem Out.base (e : Ext φ H φ' H') (o : Out K ca R Ex φ H Q r) : Out K ca R Ex φ' H' Q r := by
  cases r with
  | ok v s => exact fun φ2 H2 u e2 rs rv => o φ2 H2 u (e.trans e2) rs rv
  | exc c fs s => exact fun φ2 H2 d e2 rs rv => o φ2 H2 d (e.trans e2) rs rv
  | bad => exact o
theorem Out.imp (o : Out K ca R Ex φ H Q r) (h : ∀ u H', Q u H' → Q' u H') : Out K ca R Ex φ H Q' r := by
  cases r with
  | ok v s => exact fun φ2 H2 u e2 rs rv => h _ _ (o φ2 H2 u e2 rs rv)
  | exc c fs s => exact o
  | bad => exact o
/-- one part, then the rest -/
theorem Out.bnd {m : M α} {f : α → M γ} {P : δ → Hp → Prop} (o : Out K ca R' Ex φ H P (bnd m f st)) :
    Out K ca R Ex φ H (fun u H1 => ∃ φ1 st1 v, Ext φ H φ1 H1 ∧ SR K ca φ1 st1 H1 ∧ R φ1 H1 v u ∧ Out K ca R' Ex φ1 H1 P (f v st1)) (m st) := by
  unfold Z.bnd at o
  cases q : m st with
  | ok v s => rw [q] at o; exact fun φ2 H2 u e2 rs rv => ⟨φ2, s, v, e2, rs, rv, o.base e2⟩
  | exc c fs s => rw [q] at o; exact o
  | bad => rw [q] at o; exact o
theorem Out.ok {v : α} {u : β} (o : Out K ca R Ex φ H Q (.ok v st)) (rs : SR K ca φ st H) (rv : R φ H v u) : Q u H := o φ H u .refl rs rv
theorem Out.ret {v : α} {u : β} (o : Out K ca R Ex φ H Q (ret v st)) (rs : SR K ca φ st H) (rv : R φ H v u) : Q u H := o φ H u .refl rs rv
end
end Z

namespace Z
open PySem L2

abbrev Rb : List Addr → Hp → Bool → V → Prop := fun _ _ b u => u = .bl b
abbrev Rt : List Addr → Hp → Bool → Bool → Prop := fun _ _ b u => u = b
section
variable {X : Cx} {ca : Nat → Addr}
def rBin (X : Cx) (ca : Nat → Addr) (f : PV → PV → M PV) : R2 := fun x y H Q => ∃ φ st v w Ex, SR X.K ca φ st H ∧ Rv X.K φ H v x ∧ Rv X.K φ H w y ∧ Out X.K ca (Rv X.K) Ex φ H Q (f v w st)
def rCmp (X : Cx) (ca : Nat → Addr) (f : PV → PV → M Bool) : R2 := fun x y H Q => ∃ φ st v w Ex, SR X.K ca φ st H ∧ Rv X.K φ H v x ∧ Rv X.K φ H w y ∧ Out X.K ca Rb Ex φ H Q (f v w st)

theorem op_bin (op : Operator) : OpR X (binaryOp op) (rBin X ca (binP op)) := by
  intro pins s σ H x y v u Q I rx ry h
  obtain ⟨φ, st, a, b, Ex, rs, ra, rb, o⟩ := h
  unfold binP at o
  split at o
  · cases ra; cases rb
    exact op_add pins s σ H _ _ v u Q I rx ry ⟨_, _, rfl, rfl, o.ret rs (.int _)⟩
  · cases ra; cases rb
    exact op_sub pins s σ H _ _ v u Q I rx ry ⟨_, _, rfl, rfl, o.ret rs (.int _)⟩
  · cases ra; cases rb
    split at o
    · rename_i c
      refine op_mul pins s σ H _ _ v u Q I rx ry ⟨_, _, rfl, rfl, ?_, o.ret rs (.int _)⟩
      unfold mulB at c
      simp only [Bool.or_eq_true, Bool.and_eq_true, decide_eq_true_eq] at c
      exact c
    · exact o.elim
  · cases ra; cases rb
    split at o
    · rename_i c
      exact op_fdiv pins s σ H _ _ v u Q I rx ry ⟨_, _, rfl, rfl, c, o.ret rs (.int _)⟩
    · exact o.elim
  · cases ra; cases rb
    split at o
    · rename_i c
      exact op_mod pins s σ H _ _ v u Q I rx ry ⟨_, _, rfl, rfl, c, o.ret rs (.int _)⟩
    · exact o.elim
  · cases ra with
    | tup ha la =>
      cases rb with
      | tup hb lb =>
        split at o
        · rename_i c
          refine op_catA pins s σ H _ _ v u Q I rx ry ⟨_, _, _, _, rfl, rfl, ha, hb, by rw [← la.len, ← lb.len]; exact c, fun e => ?_, fun _ e => ?_, fun _ _ p hp => ?_⟩
          · subst e
            cases la
            exact o.ret rs (.tup hb lb)
          · subst e
            cases lb
            refine o.ret rs ?_
            rw [List.append_nil]
            exact .tup ha la
          · exact o φ _ _ (ext_new hp) (rs.new hp) (.tup (.inl (.inl upd_same)) ((la.app lb).ext (ext_new hp)))
        · exact o.elim
  · cases ra; cases rb
    split at o
    · rename_i c
      exact op_add_str pins s σ H _ _ v u Q I rx ry ⟨_, _, rfl, rfl, c, o.ret rs (.str _)⟩
    · exact o.elim
  · cases ra with
    | ref ha =>
      cases rb with
      | ref hb =>
        split at o
        · rename_i m n l r e1 e2
          obtain ⟨xs, q1, t1⟩ := rs.at ha e1
          obtain ⟨ys, q2, t2⟩ := rs.at hb e2
          split at o
          · rename_i c
            refine op_cat pins s σ H _ _ v u Q I rx ry ⟨_, _, xs, ys, rfl, rfl, q1, q2, by rw [← t1.len, ← t2.len]; exact c, fun p hp => ?_⟩
            refine o (φ ++ [p]) _ _ (ext_push hp) (rs.push hp ⟨_, upd_same, (t1.app t2).ext (ext_push hp)⟩) (.ref ?_)
            rw [← rs.len]
            simp
          · exact o.elim
        · exact o.elim
  · cases ra with
    | ref ha =>
      cases rb with
      | int =>
        split at o
        · rename_i m l e1
          obtain ⟨xs, q1, t1⟩ := rs.at ha e1
          split at o
          · rename_i c
            simp only [Bool.and_eq_true, decide_eq_true_eq] at c
            refine op_rep pins s σ H _ _ v u Q I rx ry ⟨_, _, xs, rfl, rfl, q1, c.1, c.2.1, by rw [← t1.len]; exact c.2.2, fun p hp => ?_⟩
            have rr : ∀ n : Nat, RvL X.K φ H (List.replicate n _).flatten (List.replicate n xs).flatten := fun n => by
              induction n with
              | zero => exact .nil
              | succ n ih =>
                rw [List.replicate_succ, List.replicate_succ, List.flatten_cons, List.flatten_cons]
                exact t1.app ih
            refine o (φ ++ [p]) _ _ (ext_push hp) (rs.push hp ⟨_, upd_same, (rr _).ext (ext_push hp)⟩) (.ref ?_)
            rw [← rs.len]
            simp
          · exact o.elim
        · exact o.elim
  · exact o.elim

mutual
theorem Rv.dat {φ : List Addr} {H : Hp} : ∀ {v : PV} {x : V} {d : PyData}, Rv X.K φ H v x → dat v = some d → Dp X.K H x d
  | _, _, _, .non, h => by unfold Z.dat at h; cases h; exact .non
  | _, _, _, .bl b, h => by unfold Z.dat at h; cases h; exact .bl b
  | _, _, _, .int i, h => by unfold Z.dat at h; cases h; exact .int i
  | _, _, _, .str i, h => by unfold Z.dat at h; cases h; exact .str i
  | _, _, _, .tup q r, h => by
    unfold Z.dat at h
    simp only [Option.map_eq_some_iff] at h
    obtain ⟨ds, e, rfl⟩ := h
    exact .tup q (RvL.dat r e)
  | _, _, _, .ref _, h => by unfold Z.dat at h; cases h
theorem RvL.dat {φ : List Addr} {H : Hp} : ∀ {l : List PV} {xs : List V} {ds : List PyData}, RvL X.K φ H l xs → datL l = some ds → DpAll X.K H xs ds
  | _, _, _, .nil, h => by unfold datL at h; cases h; exact .nil
  | _, _, _, .cons r t, h => by
    unfold datL at h
    split at h
    · rename_i d ds e1 e2
      cases h
      exact .cons (Rv.dat r e1) (RvL.dat t e2)
    · cases h
end
theorem Rv.datS {φ : List Addr} {st : Store} {H : Hp} (rs : SR X.K ca φ st H) {v : PV} {x : V} {d : PyData} (r : Rv X.K φ H v x) (h : datS st v = some d) : Dp X.K H x d := by
  unfold Z.datS at h
  split at h
  · rename_i n
    cases r with
    | ref ha =>
      split at h
      · rename_i l e
        simp only [Option.map_eq_some_iff] at h
        obtain ⟨ds, e2, rfl⟩ := h
        obtain ⟨xs, q, t⟩ := rs.at ha e
        exact .lst (SqL.of q) (t.dat e2)
      · rename_i l e
        simp only [Option.map_eq_some_iff] at h
        obtain ⟨ds, e2, rfl⟩ := h
        obtain ⟨xs, q, t⟩ := rs.at ha e
        exact .lst q.sq (t.dat e2)
      · cases h
  · exact Rv.dat r h
/-- a dict's pairs, as the comparison meets them -/
theorem hits_of {A : Around} {s : Shared} {φ : List Addr} {H : Hp} {r : List (Key × PV)} {ls : List (Key × V)} {vb : List (Key × Value)} (rb : Rk X.K φ H r ls) (kb : KV ls vb) (fb : r.all (fun p => flatP p.2) = true)
    {l : List (Key × PV)} {ks : List (Key × V)} (ra : Rk X.K φ H l ks) : ∀ {va : List (Key × Value)}, KV ks va → l.all (fun p => flatP p.2) = true →
      PySem.W.KeqHits A s vb va (l.all fun p => match dget r p.1 with
        | some z => eqV (pv p.2) (pv z)
        | none => false) := by
  induction ra with
  | nil => intro va ka _; cases ka; exact .nil
  | @cons k v x l ks h t ih =>
    intro va ka f
    simp only [List.all_cons, Bool.and_eq_true] at f
    cases ka with
    | @cons _ z _ zs hz ht =>
      obtain ⟨k', u⟩ := z
      obtain ⟨e1, e2⟩ := hz
      have e1 : k = k' := e1
      subst e1
      have i2 := ih ht f.2
      have ex := h.flat f.1
      subst ex
      have rr := kb.val k
      rcases rb.dget k with ⟨v', x', q1, q2, q3⟩ | ⟨q1, q2⟩
      · have hm : flatP v' = true := by
          unfold Z.dget at q1
          simp only [Option.map_eq_some_iff] at q1
          obtain ⟨p, e, rfl⟩ := q1
          exact List.all_eq_true.mp fb p (List.mem_of_find?_eq_some e)
        have ex' := q3.flat hm
        subst ex'
        rw [q2] at rr
        obtain ⟨u', hu, ru⟩ := rr.some_of
        simp only [List.all_cons, q1]
        exact .hit hu (eqAt_V e2 ru (flat_pv f.1) (flat_pv hm)) i2
      · have hv : valueAt vb k = none := by
          rw [q2] at rr
          cases hv : valueAt vb k with
          | none => rfl
          | some u' => rw [hv] at rr; exact rr.elim
        simp only [List.all_cons, q1, Bool.false_and]
        exact .miss hv
theorem eq_all {op : CmpOp} {φ : List Addr} {st : Store} {H : Hp} {a b : PV} {x y : V} {Ex : XK} {Q : VK} {Qk : Bool → Hp → Prop} (neg : Bool) (hq : ∀ k H, Qk k H → Q (.bl (if neg = true then !k else k)) H) {pins : List (Addr × Obj)} {s : Shared} {σ : St} {v u : Value}
    (hop : op = if neg then .NotEq else .Eq) (hu : X.A.units + 64 < cLine) (I : Inv X pins σ H s) (rx : RelV x v) (ry : RelV y u) (rs : SR X.K ca φ st H) (ra : Rv X.K φ H a x) (rb : Rv X.K φ H b y)
    (o : Out X.K ca Rb Ex φ H (fun z H => ∃ k, z = .bl k ∧ Qk k H) (eqP a b st)) : wpAny (model X.prog X.w) X.A (compareOp op v u) (EP X pins σ Q) X.xe s := by
  have viaD : ∀ {d e : PyData}, Dp X.K H x d → Dp X.K H y e → SeqAt.shaped d = true → SeqAt.shaped e = true → Qk (PyData.eqv d e) H → wpAny (model X.prog X.w) X.A (compareOp op v u) (EP X pins σ Q) X.xe s := fun {d e} h1 h2 h3 h4 q0 => by
    have q := hq _ _ q0
    cases neg with
    | true => subst hop; exact op_neD hu pins s σ H x y v u Q I rx ry ⟨d, e, h1, h2, h3, h4, q⟩
    | false => subst hop; exact op_eqD hu pins s σ H x y v u Q I rx ry ⟨d, e, h1, h2, h3, h4, q⟩
  have scal : scal x y = true → Qk (decide (x = y)) H → wpAny (model X.prog X.w) X.A (compareOp op v u) (EP X pins σ Q) X.xe s := fun h1 q0 => by
    have q := hq _ _ q0
    cases neg with
    | true => subst hop; exact op_ne pins s σ H x y v u Q I rx ry ⟨h1, q⟩
    | false => subst hop; exact op_eq pins s σ H x y v u Q I rx ry ⟨h1, q⟩
  have dd : ∀ {d e : PyData}, datS st a = some d → datS st b = some e → Out X.K ca Rb Ex φ H (fun z H => ∃ k, z = .bl k ∧ Qk k H) (if (SeqAt.shaped d && SeqAt.shaped e) = true then RE.ok (PyData.eqv d e) st else .bad) →
      wpAny (model X.prog X.w) X.A (compareOp op v u) (EP X pins σ Q) X.xe s := fun {d e} h1 h2 o => by
    split at o
    · rename_i c
      simp only [Bool.and_eq_true] at c
      obtain ⟨k, e1, q⟩ := o.ok rs (u := .bl (PyData.eqv d e)) rfl
      cases e1
      exact viaD (ra.datS rs h1) (rb.datS rs h2) c.1 c.2 q
    · exact o.elim
  unfold eqP at o
  split at o
  · cases ra; cases rb
    rename_i a b
    obtain ⟨k, e1, q⟩ := o.ret rs (u := .bl (decide (a = b))) rfl
    cases e1
    refine scal rfl ?_
    have e2 : decide (V.str a = V.str b) = decide (a = b) := by simp
    rw [e2]
    exact q
  · cases ra; cases rb
    rename_i a b
    obtain ⟨k, e1, q⟩ := o.ret rs (u := .bl (decide (a = b))) rfl
    cases e1
    refine scal rfl ?_
    have e2 : decide (V.int a = V.int b) = decide (a = b) := by simp
    rw [e2]
    exact q
  · cases ra; cases rb
    rename_i a b
    obtain ⟨k, e1, q⟩ := o.ret rs (u := .bl (decide (a = b))) rfl
    cases e1
    refine scal rfl ?_
    have e2 : decide (V.bl a = V.bl b) = decide (a = b) := by simp
    rw [e2]
    exact q
  · rename_i m n
    split at o
    · rename_i l r e1 e2
      split at o
      · rename_i k e3
        unfold dictEq at e3
        split at e3
        · rename_i c
          simp only [Bool.and_eq_true] at c
          cases e3
          cases ra with
          | @ref _ pa ha =>
            cases rb with
            | @ref _ pb hb =>
              obtain ⟨ks, q1, t1⟩ := rs.at ha e1
              obtain ⟨ls, q2, t2⟩ := rs.at hb e2
              obtain ⟨k, e4, q⟩ := o.ok rs (u := .bl _) rfl
              cases e4
              replace q := hq _ _ q
              obtain rfl : v = Value.ref pa := rx
              obtain rfl : u = Value.ref pb := ry
              obtain ⟨_, ya, va, r1, da⟩ := (show ObjOk X.prog X.w H s.heap pa (.dK ks) from I.hok pa _ q1)
              obtain ⟨_, yb, vb, r2, db⟩ := (show ObjOk X.prog X.w H s.heap pb (.dK ls) from I.hok pb _ q2)
              have el : (va.length == vb.length) = (l.length == r.length) := by rw [← r1.length, ← r2.length, ← t1.len, ← t2.len]
              have hu' : X.A.units < cLine := by omega
              cases neg with
              | true =>
                subst hop
                refine PySem.W.keq_ne (knd := mixKind X.prog X.w) ya yb da db hu' (fun _ => hits_of t2 r2 c.2 t1 r1 c.1) (fin_bl I q ?_)
                rw [el]
                all_goals rfl
              | false =>
                subst hop
                refine PySem.W.keq_eq (knd := mixKind X.prog X.w) ya yb da db hu' (fun _ => hits_of t2 r2 c.2 t1 r1 c.1) (fin_bl I q ?_)
                rw [el]
                all_goals rfl
        · cases e3
      · exact o.elim
    · split at o
      · rename_i d e e1 e2
        exact dd e1 e2 o
      · exact o.elim
  · dsimp only at o
    split at o
    · rename_i d e e1 e2
      exact dd e1 e2 o
    · exact o.elim
end
end Z

namespace Z
open PySem L2
section
variable {X : Cx} {ca : Nat → Addr}

theorem inV_eq {φ : List Addr} {H : Hp} {v : PV} {x : V} {l : List PV} {xs : List V} (r : Rv X.K φ H v x) (rl : RvL X.K φ H l xs) (h1 : flatP v = true) (h2 : l.all flatP = true) :
    flatV x = true ∧ xs.all flatV = true ∧ inV x xs = inV (pv v) (l.map pv) := by
  obtain ⟨e, f⟩ := rl.flat h2
  have e' := r.flat h1
  subst e'
  exact ⟨flat_pv h1, f, by rw [e]⟩
theorem op_in (neg : Bool) {op : CmpOp} (hop : op = if neg = true then .NotIn else .In) (hu : X.A.units + 65 < cLine) {φ : List Addr} {st : Store} {H : Hp} {a b : PV} {x y : V} {Ex : XK} {Q : VK} {Qk : Bool → Hp → Prop} (hq : ∀ k H, Qk k H → Q (.bl (if neg = true then !k else k)) H)
    {pins : List (Addr × Obj)} {s : Shared} {σ : St} {v u : Value} (I : Inv X pins σ H s) (rx : RelV x v) (ry : RelV y u) (rs : SR X.K ca φ st H) (ra : Rv X.K φ H a x) (rb : Rv X.K φ H b y)
    (o : Out X.K ca Rb Ex φ H (fun z H => ∃ k, z = .bl k ∧ Qk k H) (inP a b st)) : wpAny (model X.prog X.w) X.A (compareOp op v u) (EP X pins σ Q) X.xe s := by
  have hu1 : X.A.units + 1 < cLine := by omega
  unfold inP at o
  split at o
  · rename_i l
    cases rb with
    | tup q rl =>
      split at o
      · rename_i c
        simp only [Bool.and_eq_true] at c
        obtain ⟨f1, f2, e⟩ := inV_eq ra rl c.1 c.2
        obtain ⟨k, ek, z⟩ := o.ret rs (u := .bl _) rfl
        cases ek
        replace z := hq _ _ z
        rw [← e] at z
        cases neg with
        | true => subst hop; exact op_notIn_seq pins s σ H x _ v u Q I rx ry ⟨_, _, rfl, .inr q, f1, f2, z⟩
        | false => subst hop; exact op_in_seq pins s σ H x _ v u Q I rx ry ⟨_, _, rfl, .inr q, f1, f2, z⟩
      · cases e1 : Z.dat a with
        | none => rw [e1] at o; exact False.elim o
        | some d =>
          cases e2 : Z.datL l with
          | none => rw [e1, e2] at o; exact False.elim o
          | some ds =>
            rw [e1, e2] at o
            dsimp only at o
            split at o
            · rename_i c
              obtain ⟨c1, c2⟩ := Bool.and_eq_true_iff.mp c
              obtain ⟨k, ek, z⟩ := o.ret rs (u := .bl _) rfl
              cases ek
              replace z := hq _ _ z
              obtain ⟨as, r1⟩ := Dp.reads I d x v (ra.dat e1) rx
              obtain ⟨bs, r2⟩ := Dp.reads I (.tuple ds) _ u (.tup q (rl.dat e2)) ry
              have lay : PyData.canLayAll0 ds = true := SeqAt.canLay_of_shaped c2
              have dd := SeqAt.depth_of_shaped c1
              have room : X.A.units + 1 + min (PyData.depthAll ds) d.depth < cLine := by
                have := Nat.min_le_right (PyData.depthAll ds) d.depth
                omega
              cases neg with
              | true => subst hop; exact SeqAt.notIn_tuple_reads r2 r1 lay (SeqAt.canLay_of_shaped c1) room ⟨.bl _, H, I, rfl, z⟩
              | false => subst hop; exact SeqAt.in_tuple_reads r2 r1 lay (SeqAt.canLay_of_shaped c1) room ⟨.bl _, H, I, rfl, z⟩
            · exact o.elim
  · rename_i n
    try dsimp only at o
    split at o
    · rename_i l e1
      split at o
      · rename_i k e2
        cases rb with
        | @ref _ p ha =>
        obtain ⟨ks, q, t⟩ := rs.dict ha e1
        obtain ⟨z, ez, w⟩ := o.ok rs (u := .bl _) rfl
        cases ez
        replace w := hq _ _ w
        have ex := ra.key e2
        subst ex
        obtain rfl : u = Value.ref p := ry
        have g : DGet H p (kV k) (valV ks k) := .inl ⟨ks, k, q, rfl, rfl⟩
        have es : (valV ks k).isSome = (dget l k).isSome := by
          rcases t.dget k with ⟨_, _, h1, h2, _⟩ | ⟨h1, h2⟩ <;> rw [h1, h2] <;> rfl
        rw [← es] at w
        cases neg with
        | true => subst hop; exact d_notIn hu1 I g rx fun s3 I3 => ⟨.bl _, H, I3, rfl, w⟩
        | false => subst hop; exact d_in hu1 I g rx fun s3 I3 => ⟨.bl _, H, I3, rfl, w⟩
      · exact o.elim
    · split at o
      · rename_i l e1
        split at o
        · rename_i d ds e2 e3
          split at o
          · rename_i c
            obtain ⟨c1, c2⟩ := Bool.and_eq_true_iff.mp c
            cases rb with
            | @ref _ p ha =>
              obtain ⟨xs, q, t⟩ := rs.at ha e1
              obtain ⟨z, ez, w⟩ := o.ok rs (u := .bl _) rfl
              cases ez
              replace w := hq _ _ w
              cases neg with
              | true => subst hop; exact op_notInD (by omega) pins s σ H x _ v u Q I rx ry ⟨d, ds, ra.dat e2, .lst (SqL.of q) (t.dat e3), c1, c2, w⟩
              | false => subst hop; exact op_inD (by omega) pins s σ H x _ v u Q I rx ry ⟨d, ds, ra.dat e2, .lst (SqL.of q) (t.dat e3), c1, c2, w⟩
          · exact o.elim
        · exact o.elim
      · exact o.elim
  · exact o.elim
theorem Out.neg {φ : List Addr} {st : Store} {H : Hp} {Ex : XK} {Q : VK} {m : M Bool} (o : Out X.K ca Rb Ex φ H Q (Z.bnd m (fun b => Z.ret (!b)) st)) :
    Out X.K ca Rb Ex φ H (fun z H => ∃ k, z = .bl k ∧ Q (.bl (!k)) H) (m st) := by
  refine (o.bnd (R := Rb)).imp fun u H1 h => ?_
  obtain ⟨φ1, st1, v, _, rs, e, o⟩ := h
  cases e
  exact ⟨v, rfl, o.ret rs rfl⟩
theorem Out.pos {φ : List Addr} {H : Hp} {Ex : XK} {Q : VK} {r : RE Bool} (o : Out X.K ca Rb Ex φ H Q r) : Out X.K ca Rb Ex φ H (fun z H => ∃ k, z = .bl k ∧ Q (.bl k) H) r := by
  cases r with
  | ok v s => exact fun φ2 H2 u e2 rs rv => ⟨v, rv, by have := o φ2 H2 u e2 rs rv; rw [← show u = V.bl v from rv]; exact this⟩
  | exc c fs s => exact o
  | bad => exact o
theorem op_cmp (hu : X.A.units + 65 < cLine) (op : CmpOp) : OpR X (compareOp op) (rCmp X ca (cmpP op)) := by
  intro pins s σ H x y v u Q I rx ry h
  obtain ⟨φ, st, a, b, Ex, rs, ra, rb, o⟩ := h
  unfold cmpP at o
  split at o
  · exact eq_all (Qk := fun k H => Q (.bl k) H) false (fun k H q => q) rfl (by omega) I rx ry rs ra rb o.pos
  · exact eq_all (Qk := fun k H => Q (.bl (!k)) H) true (fun k H q => q) rfl (by omega) I rx ry rs ra rb o.neg
  · cases ra; cases rb; exact op_lt pins s σ H _ _ v u Q I rx ry ⟨_, _, rfl, rfl, o.ret rs rfl⟩
  · cases ra; cases rb; exact op_le pins s σ H _ _ v u Q I rx ry ⟨_, _, rfl, rfl, o.ret rs rfl⟩
  · cases ra; cases rb; exact op_gt pins s σ H _ _ v u Q I rx ry ⟨_, _, rfl, rfl, o.ret rs rfl⟩
  · cases ra; cases rb; exact op_ge pins s σ H _ _ v u Q I rx ry ⟨_, _, rfl, rfl, o.ret rs rfl⟩
  · cases ra; cases rb; exact op_isN pins s σ H _ _ v u Q I rx ry ⟨rfl, o.ret rs (by rfl)⟩
  · cases ra; cases rb; exact op_isN pins s σ H _ _ v u Q I rx ry ⟨rfl, o.ret rs (by rfl)⟩
  · cases ra; cases rb; exact op_isN pins s σ H _ _ v u Q I rx ry ⟨rfl, o.ret rs (by rfl)⟩
  · cases ra; cases rb; exact op_isN pins s σ H _ _ v u Q I rx ry ⟨rfl, o.ret rs (by rfl)⟩
  · cases ra; cases rb; exact op_isN pins s σ H _ _ v u Q I rx ry ⟨rfl, o.ret rs (by rfl)⟩
  · cases ra; cases rb; exact op_isN pins s σ H _ _ v u Q I rx ry ⟨rfl, o.ret rs (by rfl)⟩
  · cases rb
    split at o
    · cases ra; exact op_notN pins s σ H _ _ v u Q I rx ry ⟨rfl, o.ret rs (by rfl)⟩
    · rename_i hne
      refine op_notN pins s σ H _ _ v u Q I rx ry ⟨rfl, o.ret rs ?_⟩
      cases ra <;> first | rfl | exact absurd rfl hne
  · exact op_in (Qk := fun k H => Q (.bl k) H) false rfl hu (fun k H q => q) I rx ry rs ra rb o.pos
  · exact op_in (Qk := fun k H => Q (.bl (!k)) H) true rfl hu (fun k H q => q) I rx ry rs ra rb o.neg
  · exact o.elim

theorem atI_rel {φ : List Addr} {H : Hp} {l : List PV} {xs : List V} {i : Int} {v : PV} (r : RvL X.K φ H l xs) (h : atI l i = some v) : ∃ x, atI xs i = some x ∧ Rv X.K φ H v x := by
  unfold atI at h ⊢
  rw [← r.len]
  cases q : ixN l.length i with
  | none => rw [q] at h; cases h
  | some j => rw [q] at h; exact r.get h
def rIxP (X : Cx) (ca : Nat → Addr) : R2 := fun x y H Q => ∃ φ st v w Ex, SR X.K ca φ st H ∧ Rv X.K φ H v x ∧ Rv X.K φ H w y ∧ Out X.K ca (Rv X.K) Ex φ H Q (ixP v w st)
theorem ix_P (hu : X.A.units + 65 < cLine) : IxR X (rIxP X ca) := by
  intro value slice pins s σ H x y v u Q I rx ry h hs
  obtain ⟨φ, st, a, b, Ex, rs, ra, rb, o⟩ := h
  have hu1 : X.A.units + 1 < cLine := by omega
  unfold ixP at o
  split at o
  · rename_i l k
    cases ra with
    | tup q rl =>
      cases rb
      unfold atP at o
      cases e : atI l k with
      | some z =>
        rw [e] at o
        obtain ⟨zx, e2, rz⟩ := atI_rel rl e
        exact ix_tup value slice pins s σ H _ _ v u Q I rx ry ⟨_, _, _, _, rfl, rfl, q, e2, Out.ret o rs rz⟩ hs
      | none => rw [e] at o; exact False.elim o
  · rename_i n
    cases ra with
    | @ref _ p ha =>
      try dsimp only at o
      split at o
      · rename_i l e1
        split at o
        · rename_i k
          cases rb
          obtain ⟨xs, q, rl⟩ := rs.at ha e1
          unfold atP at o
          cases e : atI l k with
          | some z =>
            rw [e] at o
            obtain ⟨zx, e2, rz⟩ := atI_rel rl e
            exact ix_list value slice pins s σ H _ _ v u Q I rx ry ⟨_, _, _, _, rfl, rfl, SqL.of q, e2, Out.ret o rs rz⟩ hs
          | none => rw [e] at o; exact False.elim o
        · exact o.elim
      · rename_i l e1
        split at o
        · rename_i k
          cases rb
          obtain ⟨xs, q, rl⟩ := rs.at ha e1
          unfold atP at o
          cases e : atI l k with
          | some z =>
            rw [e] at o
            obtain ⟨zx, e2, rz⟩ := atI_rel rl e
            exact ix_list value slice pins s σ H _ _ v u Q I rx ry ⟨_, _, _, _, rfl, rfl, q.sq, e2, Out.ret o rs rz⟩ hs
          | none => rw [e] at o; exact False.elim o
        · exact o.elim
      · split at o
        · rename_i l e1
          split at o
          · rename_i k e2
            split at o
            · rename_i z e3
              obtain ⟨ks, q, t⟩ := rs.dict ha e1
              have ex := rb.key e2
              subst ex
              rcases t.dget k with ⟨z', zx, h1, h2, h3⟩ | ⟨h1, _⟩
              · rw [h1] at e3
                cases e3
                obtain rfl : v = Value.ref p := rx
                have g : DGet H p (kV k) (some zx) := .inl ⟨ks, k, q, rfl, h2.symm⟩
                exact PyProof.Rows.tail_any (dict_typeIs I g) PySem.F.slot_dict_getitem.lookup (d_getItem hu1 I g ry fun w' s3 I3 rw' => ⟨zx, H, I3, rw', o.ok rs h3⟩) hs
              · rw [h1] at e3; cases e3
            · exact o.elim
          · exact o.elim
        · exact o.elim
  · exact o.elim
def rSlP (X : Cx) (ca : Nat → Addr) : V → Option Int → Option Int → Hp → VK → Prop := fun x lo hi H Q => ∃ φ st v Ex, SR X.K ca φ st H ∧ Rv X.K φ H v x ∧ Out X.K ca (Rv X.K) Ex φ H Q (slP v lo hi st)
theorem cut_whole {α : Type} {xs : List α} {lo hi : Option Int} (h1 : HT.sIx xs.length 0 lo = 0) (h2 : HT.sIx xs.length xs.length hi = xs.length) : (xs.drop (HT.sIx xs.length 0 lo)).take (HT.sIx xs.length xs.length hi - HT.sIx xs.length 0 lo) = xs := by
  rw [h1, h2]
  simp
theorem sl_P : SlR X (rSlP X ca) := by
  intro pins s σ H x v vl vu lo hi sl Q I rx hsl pl pu h
  obtain ⟨φ, st, a, Ex, rs, ra, o⟩ := h
  unfold slP at o
  split at o
  · rename_i l
    cases ra with
    | @tup p _ xs q rl =>
      refine sl_tupA pins s σ H _ v vl vu lo hi sl Q I rx hsl pl pu ⟨p, xs, rfl, q, fun c => ?_, fun _ p' hp => ?_⟩
      · refine o.ret rs ?_
        have rc := rl.cut lo hi
        have ec : cutV xs lo hi = xs := cut_whole c.1 c.2
        rw [ec] at rc
        exact .tup q rc
      · exact o φ _ _ (ext_new hp) (rs.new hp) (.tup (.inl (.inl upd_same)) ((rl.cut lo hi).ext (ext_new hp)))
  · rename_i n
    cases ra with
    | @ref _ p ha =>
      try dsimp only at o
      split at o
      · rename_i l e1
        obtain ⟨xs, q, rl⟩ := rs.at ha e1
        refine sl_list pins s σ H _ v vl vu lo hi sl Q I rx hsl pl pu ⟨p, xs, rfl, SqL.of q, fun p' hp => ?_⟩
        exact o (φ ++ [p']) _ _ (ext_push hp) (rs.push hp ⟨_, upd_same, (rl.cut lo hi).ext (ext_push hp)⟩) (.ref (by rw [← rs.len]; simp))
      · rename_i l e1
        obtain ⟨xs, q, rl⟩ := rs.at ha e1
        refine sl_list pins s σ H _ v vl vu lo hi sl Q I rx hsl pl pu ⟨p, xs, rfl, q.sq, fun p' hp => ?_⟩
        exact o (φ ++ [p']) _ _ (ext_push hp) (rs.push hp ⟨_, upd_same, (rl.cut lo hi).ext (ext_push hp)⟩) (.ref (by rw [← rs.len]; simp))
      · exact o.elim
  · exact o.elim
def rTru (X : Cx) (ca : Nat → Addr) : V → Hp → (Bool → Hp → Prop) → Prop := fun x H Q => ∃ φ st v Ex, SR X.K ca φ st H ∧ Rv X.K φ H v x ∧ Out X.K ca Rt Ex φ H Q (truP v st)
theorem emp_rel {φ : List Addr} {H : Hp} {l : List PV} {xs : List V} (r : RvL X.K φ H l xs) : xs.isEmpty = l.isEmpty := by cases r <;> rfl
theorem tru_P : TruR X (rTru X ca) := by
  intro pins s σ H x v Q I rx h
  obtain ⟨φ, st, a, Ex, rs, ra, o⟩ := h
  refine tru_ok pins s σ H x v Q I rx ?_
  unfold truP at o
  split at o
  · cases ra; exact ⟨_, rfl, o.ret rs rfl⟩
  · cases ra; exact ⟨_, rfl, o.ret rs rfl⟩
  · cases ra; exact ⟨_, rfl, o.ret rs rfl⟩
  · cases ra
    split at o
    · rename_i x c
      refine ⟨_, ⟨c, rfl⟩, o.ret rs ?_⟩
      show (((x.length : Nat) : Int) != 0) = (x.length != 0)
      rw [Bool.eq_iff_iff]
      simp
    · exact o.elim
  · cases ra with
    | tup q rl => exact ⟨_, .inr (.inl ⟨_, q, rfl⟩), o.ret rs (by rw [emp_rel rl])⟩
  · rename_i n
    cases ra with
    | @ref _ p ha =>
      try dsimp only at o
      split at o
      · rename_i l e1
        obtain ⟨xs, q, rl⟩ := rs.at ha e1
        exact ⟨_, .inl ⟨_, SqL.of q, rfl⟩, o.ok rs (by rw [emp_rel rl])⟩
      · rename_i l e1
        obtain ⟨xs, q, rl⟩ := rs.at ha e1
        exact ⟨_, .inl ⟨_, q.sq, rfl⟩, o.ok rs (by rw [emp_rel rl])⟩
      · rename_i l e1
        obtain ⟨ks, q, t⟩ := rs.at ha e1
        refine ⟨_, .inr (.inr ⟨_, q, rfl⟩), o.ok rs ?_⟩
        show (!ks.isEmpty) = (!l.isEmpty)
        cases t <;> rfl
      · exact o.elim
end
end Z

namespace Z
open PySem L2
section
variable {X : Cx} {ca : Nat → Addr}
def rBlt (X : Cx) (ca : Nat → Addr) (b : Bl) : List V → Hp → VK → Prop := fun xs H Q => ∃ φ st vs Ex, SR X.K ca φ st H ∧ RvL X.K φ H vs xs ∧ Out X.K ca (Rv X.K) Ex φ H Q (bltP b vs st)
theorem minL_ok : ∀ {l : List Int} {m : Int}, minL l = some m → m ∈ l ∧ ∀ y ∈ l, m ≤ y
  | [], _, h => by cases h
  | [x], m, h => by cases h; simp
  | x :: y :: r, m, h => by
    unfold minL at h
    simp only [Option.map_eq_some_iff] at h
    obtain ⟨k, e, rfl⟩ := h
    obtain ⟨h1, h2⟩ := minL_ok e
    split
    · rename_i c
      refine ⟨List.mem_cons_of_mem _ h1, fun z hz => ?_⟩
      rcases List.mem_cons.mp hz with rfl | hz
      · omega
      · exact h2 z hz
    · rename_i c
      refine ⟨List.mem_cons_self, fun z hz => ?_⟩
      rcases List.mem_cons.mp hz with rfl | hz
      · omega
      · have := h2 z hz
        omega
theorem RvL.one_inv {φ : List Addr} {H : Hp} {v : PV} {xs : List V} (r : RvL X.K φ H [v] xs) : ∃ x, xs = [x] ∧ Rv X.K φ H v x := by
  cases r with
  | cons h t => cases t; exact ⟨_, rfl, h⟩
theorem RvL.two_inv {φ : List Addr} {H : Hp} {v w : PV} {xs : List V} (r : RvL X.K φ H [v, w] xs) : ∃ x y, xs = [x, y] ∧ Rv X.K φ H v x ∧ Rv X.K φ H w y := by
  cases r with
  | cons h t => obtain ⟨y, rfl, h2⟩ := t.one_inv; exact ⟨_, y, rfl, h, h2⟩
theorem pairs_rel {φ : List Addr} {H : Hp} : ∀ {l : List PV} {xs : List V} {kvs : List (Key × PV)}, RvL X.K φ H l xs → pairsOf l = some kvs →
    ∃ (ps : List Addr) (ks : List (Key × V)), xs = ps.map V.ref ∧ Paired (fun p (kv : Key × V) => SqT X.K H p [kV kv.1, kv.2]) ps ks ∧ Rk X.K φ H kvs ks
  | _, _, _, .nil, h => by cases h; exact ⟨[], [], rfl, .nil, .nil⟩
  | v :: l, _, kvs, .cons r t, h => by
    unfold pairsOf at h
    split at h
    · rename_i e; cases e
    · rename_i k w l' e
      cases e
      split at h
      · rename_i k' l2 e1 e2
        cases h
        obtain ⟨ps, ks, rfl, hp, hk⟩ := pairs_rel t e2
        cases r with
        | tup q rl =>
          obtain ⟨x, y, rfl, h1, h2⟩ := rl.two_inv
          have ex := h1.key e1
          subst ex
          exact ⟨_ :: ps, (k', y) :: ks, rfl, .cons q hp, .cons h2 hk⟩
      · cases h
    · cases h
theorem blt_abs : CallR X (.builtin "abs") (rBlt X ca .abs) := by
  intro pins s σ H xs us Q I r h
  obtain ⟨φ, st, vs, Ex, rs, rl, o⟩ := h
  replace o : Out X.K ca (Rv X.K) Ex φ H Q (absP vs st) := o
  unfold absP at o
  split at o
  · obtain ⟨x, rfl, h1⟩ := rl.one_inv
    cases h1
    exact call_abs pins s σ H _ us Q I r ⟨_, rfl, o.ret rs (.int _)⟩
  · exact o.elim
theorem blt_int : CallR X (.type "int") (rBlt X ca .int) := by
  intro pins s σ H xs us Q I r h
  obtain ⟨φ, st, vs, Ex, rs, rl, o⟩ := h
  replace o : Out X.K ca (Rv X.K) Ex φ H Q (intP vs st) := o
  unfold intP at o
  split at o
  · obtain ⟨x, rfl, h1⟩ := rl.one_inv
    cases h1
    exact call_int1 pins s σ H _ us Q I r (.inl ⟨_, rfl, o.ret rs (.int _)⟩)
  · obtain ⟨x, rfl, h1⟩ := rl.one_inv
    cases h1
    exact call_int1 pins s σ H _ us Q I r (.inr ⟨_, rfl, o.ret rs (.int _)⟩)
  · exact o.elim
theorem blt_max (hc : X.calm = true) : CallR X (.builtin "max") (rBlt X ca .max) := by
  intro pins s σ H xs us Q I r h
  obtain ⟨φ, st, vs, Ex, rs, rl, o⟩ := h
  replace o : Out X.K ca (Rv X.K) Ex φ H Q (maxP vs st) := o
  unfold maxP at o
  split at o
  · obtain ⟨x, y, rfl, h1, h2⟩ := rl.two_inv
    cases h1; cases h2
    exact call_max2 hc pins s σ H _ us Q I r ⟨_, _, rfl, o.ret rs (.int _)⟩
  · exact o.elim
theorem blt_min (hc : X.calm = true) : CallR X (.builtin "min") (rBlt X ca .min) := by
  intro pins s σ H xs us Q I r h
  obtain ⟨φ, st, vs, Ex, rs, rl, o⟩ := h
  replace o : Out X.K ca (Rv X.K) Ex φ H Q (minP vs st) := o
  unfold minP at o
  split at o
  · obtain ⟨x, y, rfl, h1, h2⟩ := rl.two_inv
    cases h1; cases h2
    exact call_min2 hc pins s σ H _ us Q I r ⟨_, _, rfl, o.ret rs (.int _)⟩
  · obtain ⟨x, rfl, h1⟩ := rl.one_inv
    rename_i n
    cases h1 with
    | @ref _ p ha =>
      cases e1 : lstOf st n with
      | none => simp only [e1, Option.bind_none] at o; exact False.elim o
      | some l =>
        simp only [e1, Option.bind_some] at o
        cases e2 : intsOf l with
        | none => simp only [e2] at o; exact False.elim o
        | some ns =>
          simp only [e2] at o
          cases e3 : minL ns with
          | none => simp only [e3] at o; exact False.elim o
          | some m =>
            simp only [e3] at o
            obtain ⟨ys, q, ry⟩ := rs.list ha e1
            have ey := ry.ints e2
            subst ey
            obtain ⟨h1, h2⟩ := minL_ok e3
            refine cr_min hc pins s σ H _ us Q I r ⟨p, ns, rfl, q, ?_, fun m' hm hle => ?_⟩
            · cases ns with
              | nil => cases e3
              | cons _ _ => simp
            · have e : m' = m := Int.le_antisymm (hle m h1) (h2 m' hm)
              subst e
              exact Out.ok o rs (.int _)
  · exact o.elim
theorem blt_len : CallR X (.builtin "len") (rBlt X ca .len) := by
  intro pins s σ H xs us Q I r h
  obtain ⟨φ, st, vs, Ex, rs, rl, o⟩ := h
  replace o : Out X.K ca (Rv X.K) Ex φ H Q (lenP vs st) := o
  unfold lenP at o
  split at o
  · obtain ⟨x, rfl, h1⟩ := rl.one_inv
    cases h1 with
    | tup q ra => exact call_len pins s σ H _ us Q I r ⟨_, _, rfl, .inr ⟨_, q, rfl⟩, o.ret rs (by rw [ra.len]; exact .int _)⟩
  · obtain ⟨x, rfl, h1⟩ := rl.one_inv
    cases h1
    split at o
    · rename_i c
      exact call_len pins s σ H _ us Q I r ⟨_, _, rfl, ⟨c, rfl⟩, o.ret rs (.int _)⟩
    · exact o.elim
  · obtain ⟨x, rfl, h1⟩ := rl.one_inv
    cases h1 with
    | @ref _ p ha =>
      try dsimp only at o
      split at o
      · rename_i l e1
        obtain ⟨xs, q, ra⟩ := rs.at ha e1
        exact call_len pins s σ H _ us Q I r ⟨_, _, rfl, .inl ⟨_, SqL.of q, rfl⟩, o.ok rs (by rw [ra.len]; exact .int _)⟩
      · rename_i l e1
        obtain ⟨xs, q, ra⟩ := rs.at ha e1
        exact call_len pins s σ H _ us Q I r ⟨_, _, rfl, .inl ⟨_, q.sq, rfl⟩, o.ok rs (by rw [ra.len]; exact .int _)⟩
      · rename_i l e1
        obtain ⟨xs, q, ra⟩ := rs.at ha e1
        exact call_lenD pins s σ H _ us Q I r ⟨_, _, rfl, q, o.ok rs (by rw [ra.len]; exact .int _)⟩
      · rename_i l e1
        obtain ⟨xs, ⟨oo, q⟩, ra⟩ := rs.at ha e1
        obtain ⟨u, rfl, ru⟩ := vals1 r
        cases ru
        exact d_len I (.inr ⟨oo, q⟩) fun t s' I' => ⟨.int xs.length, H, I', ⟨t, rfl⟩, o.ok rs (by rw [ra.len]; exact .int _)⟩
      · exact o.elim
  · exact o.elim
theorem blt_any (hc : X.calm = true) : CallR X (.builtin "any") (rBlt X ca .any) := by
  intro pins s σ H xs us Q I r h
  obtain ⟨φ, st, vs, Ex, rs, rl, o⟩ := h
  replace o : Out X.K ca (Rv X.K) Ex φ H Q (anyP vs st) := o
  unfold anyP at o
  split at o
  · obtain ⟨x, rfl, h1⟩ := rl.one_inv
    rename_i n
    cases h1 with
    | @ref _ p ha =>
      cases e1 : lstOf st n with
      | none => simp only [e1, Option.bind_none] at o; exact False.elim o
      | some l =>
        simp only [e1, Option.bind_some] at o
        cases e2 : boolsOf l with
        | none => simp only [e2] at o; exact False.elim o
        | some ns =>
          simp only [e2] at o
          obtain ⟨ys, q, ry⟩ := rs.list ha e1
          have ey := ry.bools e2
          subst ey
          exact cr_any hc pins s σ H _ us Q I r ⟨p, ns, rfl, q, Out.ok o rs (.bl _)⟩
  · exact o.elim
theorem blt_all (hc : X.calm = true) : CallR X (.builtin "all") (rBlt X ca .all) := by
  intro pins s σ H xs us Q I r h
  obtain ⟨φ, st, vs, Ex, rs, rl, o⟩ := h
  replace o : Out X.K ca (Rv X.K) Ex φ H Q (allP vs st) := o
  unfold allP at o
  split at o
  · obtain ⟨x, rfl, h1⟩ := rl.one_inv
    rename_i n
    cases h1 with
    | @ref _ p ha =>
      cases e1 : lstOf st n with
      | none => simp only [e1, Option.bind_none] at o; exact False.elim o
      | some l =>
        simp only [e1, Option.bind_some] at o
        cases e2 : boolsOf l with
        | none => simp only [e2] at o; exact False.elim o
        | some ns =>
          simp only [e2] at o
          obtain ⟨ys, q, ry⟩ := rs.list ha e1
          have ey := ry.bools e2
          subst ey
          exact cr_all hc pins s σ H _ us Q I r ⟨p, ns, rfl, q, Out.ok o rs (.bl _)⟩
  · exact o.elim
theorem blt_tuple : CallR X (.type "tuple") (rBlt X ca .tuple) := by
  intro pins s σ H xs us Q I r h
  obtain ⟨φ, st, vs, Ex, rs, rl, o⟩ := h
  replace o : Out X.K ca (Rv X.K) Ex φ H Q (tupleP vs st) := o
  unfold tupleP at o
  split at o
  · obtain ⟨x, rfl, h1⟩ := rl.one_inv
    rename_i n
    cases h1 with
    | @ref _ p ha =>
      try dsimp only at o
      split at o
      · rename_i l e1
        obtain ⟨ys, q, ry⟩ := rs.list ha e1
        refine call_tuple_of pins s σ H _ us Q I r ⟨p, ys, rfl, .inl ⟨q, fun t ht => ?_⟩⟩
        exact o φ _ _ (ext_new ht) (rs.new ht) (.tup (.inl (.inl upd_same)) (ry.ext (ext_new ht)))
      · exact o.elim
  · obtain ⟨x, rfl, h1⟩ := rl.one_inv
    cases h1 with
    | @tup p _ ys q ra => exact call_tuple_of pins s σ H _ us Q I r ⟨p, ys, rfl, .inr ⟨q, o.ret rs (.tup q ra)⟩⟩
  · exact o.elim
theorem new_ref {φ : List Addr} {st : Store} {p : Addr} {H : Hp} (rs : SR X.K ca φ st H) : (φ ++ [p])[st.length]? = some p := by rw [← rs.len]; simp
theorem blt_list : CallR X (.type "list") (rBlt X ca .list) := by
  intro pins s σ H xs us Q I r h
  obtain ⟨φ, st, vs, Ex, rs, rl, o⟩ := h
  replace o : Out X.K ca (Rv X.K) Ex φ H Q (listP vs st) := o
  unfold listP at o
  split at o
  · obtain ⟨x, rfl, h1⟩ := rl.one_inv
    rename_i n
    cases h1 with
    | @ref _ p ha =>
      try dsimp only at o
      split at o
      · rename_i l e1
        obtain ⟨ys, q, ry⟩ := rs.list ha e1
        refine call_list_of pins s σ H _ us Q I r ⟨p, ys, rfl, .inl q, fun t ht => ?_⟩
        exact o (φ ++ [t]) _ _ (ext_push ht) (rs.push ht ⟨_, upd_same, ry.ext (ext_push ht)⟩) (.ref (new_ref rs))
      · exact o.elim
  · obtain ⟨x, rfl, h1⟩ := rl.one_inv
    cases h1 with
    | @tup p _ ys q ra =>
      refine call_list_of pins s σ H _ us Q I r ⟨p, ys, rfl, .inr q, fun t ht => ?_⟩
      exact o (φ ++ [t]) _ _ (ext_push ht) (rs.push ht ⟨_, upd_same, ra.ext (ext_push ht)⟩) (.ref (new_ref rs))
  · exact o.elim
theorem blt_dict (hc : X.calm = true) : CallR X (.type "dict") (rBlt X ca .dict) := by
  intro pins s σ H xs us Q I r h
  obtain ⟨φ, st, vs, Ex, rs, rl, o⟩ := h
  replace o : Out X.K ca (Rv X.K) Ex φ H Q (dictP vs st) := o
  unfold dictP at o
  split at o
  · obtain ⟨x, rfl, h1⟩ := rl.one_inv
    cases h1 with
    | @ref _ p ha =>
      try dsimp only at o
      split at o
      · rename_i l e1
        split at o
        · rename_i kvs e2
          obtain ⟨ys, q, ra⟩ := rs.at ha e1
          obtain ⟨ps, ks, rfl, hp, hk⟩ := pairs_rel ra e2
          refine call_dictP hc pins s σ H _ us Q I r ⟨p, ps, ks, rfl, SqL.of q, hp, fun t ht => ?_⟩
          exact o (φ ++ [t]) _ _ (ext_push ht) (rs.push ht ⟨_, upd_same, Rk.ext (ext_push ht) (Rk.merge hk .nil)⟩) (.ref (new_ref rs))
        · exact o.elim
      · split at o
        · rename_i l e1
          obtain ⟨ks, q, ra⟩ := rs.dict ha e1
          refine call_dictD pins s σ H _ us Q I r ⟨p, ks, rfl, q, fun t ht => ?_⟩
          exact o (φ ++ [t]) _ _ (ext_push ht) (rs.push ht ⟨_, upd_same, ra.ext (ext_push ht)⟩) (.ref (new_ref rs))
        · exact o.elim
  · exact o.elim

theorem blt_str : CallR X (.type "str") (rBlt X ca .str) := by
  intro pins s σ H xs us Q I r h
  obtain ⟨φ, st, vs, Ex, rs, rl, o⟩ := h
  replace o : Out X.K ca (Rv X.K) Ex φ H Q (strP vs st) := o
  unfold strP at o
  split at o
  · obtain ⟨x, rfl, h1⟩ := rl.one_inv
    cases h1
    split at o
    · rename_i c
      exact call_str_int pins s σ H _ us Q I r ⟨_, rfl, c, o.ret rs (.str _)⟩
    · exact o.elim
  · obtain ⟨x, rfl, h1⟩ := rl.one_inv
    cases h1
    exact SkE.call_str_str pins s σ H _ us Q I r ⟨_, rfl, o.ret rs (.str _)⟩
  · exact o.elim

theorem ty_rel {φ : List Addr} {st : Store} {H : Hp} {v : PV} {x : V} {t : String} (rs : SR X.K ca φ st H) (r : Rv X.K φ H v x) (h : tyP st v = some t) : TyX X.K H x (.type t) := by
  unfold tyP at h
  cases r with
  | non => cases h; exact .base .non
  | bl b => cases h; exact .base (.bl b)
  | int i => cases h; exact .base (.int i)
  | str i => cases h; exact .base (.str i)
  | tup q _ =>
    cases h
    rcases q with (q | ⟨o, q⟩) | ⟨o, its, n, q, hc, _⟩
    · exact .base (.tup q)
    · exact .fTuple q
    · exact .kTuple q hc
  | ref ha =>
    dsimp only at h
    split at h
    · rename_i l e
      cases h
      obtain ⟨xs, q, _⟩ := rs.at ha e
      exact .base (.lst q)
    · rename_i l e
      cases h
      obtain ⟨xs, q, _⟩ := rs.at ha e
      exact .base (.dK q)
    · cases h
/-- isinstance(x, a built-in type) -/
theorem isi_rel {φ : List Addr} {st : Store} {H : Hp} {v : PV} {x : V} {t : String} {Ex : XK} {Q : VK} (rs : SR X.K ca φ st H) (r : Rv X.K φ H v x) (o : Out X.K ca (Rv X.K) Ex φ H Q (isiP v t st)) : rIsi X.K [x, .ty t] H Q := by
  unfold isiP at o
  split at o
  · rename_i u e1
    split at o
    · rename_i b e2
      exact ⟨x, .ty t, .type u, .type t, b, rfl, .ty t, ty_rel rs r e1, kit_ty e2, o.ok rs (.bl _)⟩
    · exact o.elim
  · exact o.elim

theorem mt_app {H : Hp} {φ : List Addr} {st : Store} {v : PV} {vs : List PV} {x : V} {xs : List V} {Ex : XK} {Q : VK} (rs : SR X.K ca φ st H) (r : Rv X.K φ H v x) (rl : RvL X.K φ H vs xs)
    (o : Out X.K ca (Rv X.K) Ex φ H Q (appendP v vs st)) : rAppend x xs H Q := by
  unfold appendP at o
  split at o
  · rename_i w
    obtain ⟨y, rfl, h1⟩ := rl.one_inv
    try dsimp only at o
    split at o
    · rename_i n
      cases r with
      | @ref _ p ha =>
        split at o
        · rename_i l e1
          obtain ⟨zs, q, ra⟩ := rs.at ha e1
          split at o
          · rename_i c
            refine ⟨p, zs, y, rfl, rfl, q, by rw [← ra.len]; exact c, ?_⟩
            have mu : Mut (H p) := by rw [q]; trivial
            exact o φ _ _ (ext_set mu) (rs.set ha e1 rfl rfl ⟨_, upd_same, (ra.app (.one h1)).ext (ext_set mu)⟩) .non
          · exact o.elim
        · exact o.elim
    · exact o.elim
  · exact o.elim
end
end Z

namespace Z
open PySem L2
/-- what is known of the module's names -/
structure Mk0 (K : PySem.W.Frag) (C : Addr) : Prop where
  makes : PySem.W.makesIn K C = true
  init : PySem.W.findIn K (.ref C) "__init__" = some (some (.builtin "object.__init__"))
  kp : PySem.W.keepIn K (.ref C) = true
def bltNames : List Str := ["range", "enumerate", "isinstance", "abs", "int", "max", "min", "len", "any", "all", "tuple", "list", "dict", "bool", "str"]
structure GlobOk (T : Tab) (K : PySem.W.Frag) (mg : Str → Option Value) (ca fa : Nat → Addr) (fd : Nat → FuncData) : Prop where
  fn : ∀ x i, T.glob.lookup x = some (.fn i) → mg x = some (.ref (fa i))
  fnK : ∀ i F, T.fns[i]? = some F → PySem.W.keepIn K (.ref (fa i)) = true ∧ Binds K (fd i) F.ps []
  cls : ∀ x c, T.glob.lookup x = some (.cls c) → mg x = some (.ref (ca c))
  cst : ∀ x v, T.glob.lookup x = some (.cst v) → ∃ u y, mg x = some u ∧ RelV y u ∧ ∀ φ H, Rv K φ H v y
  non : ∀ x, bltNames.contains x = true → mg x = none
  fnI : ∀ x i, T.glob.lookup x = some (.fn i) → ∃ F, T.fns[i]? = some F
  ini : ∀ c C f, T.cls[c]? = some C → C.init = some f → Mk K (ca c) (fa f) ∧ ∃ F, T.fns[f]? = some F
  bare : ∀ c C, T.cls[c]? = some C → C.init = none → C.exc = none → Mk0 K (ca c)
  me : ∀ c C m f, T.cls[c]? = some C → C.meths.lookup m = some f → Cls K (ca c) ∧ Meth K (ca c) m (fa f) ∧ ∃ F, T.fns[f]? = some F
  fl : ∀ c C f, T.cls[c]? = some C → C.fields.contains f = true → Cls K (ca c) ∧ NoAttr K (ca c) f
/-- a def's promise -/
def spC (K : PySem.W.Frag) (ca : Nat → Addr) (call : Nat → List PV → M PV) (i : Nat) : Sp := fun vs H Q E =>
  ∃ φ st pvs, SR K ca φ st H ∧ RvL K φ H pvs vs ∧ Out K ca (Rv K) E φ H Q (call i pvs st)
structure Ct (ca fa : Nat → Addr) (fd : Nat → FuncData) (L : Lk) (sc : Scope) (X : Cx) (W : WX) : Prop where
  N : X.N = L.N
  nd : L.N.Nodup
  nb : ∀ x ∈ L.N, (x == ("__debug__" : Str)) = false ∧ (x == ("__classdict__" : Str)) = false
  calm : X.calm = true
  takes : TakesF X W
  room : ∃ kc ki, Room kc X.A ∧ Room (ki + 1) X.A ∧ (∀ i F, L.T.fns[i]? = some F → FnOk X.prog X.w X.K X.mg X.base (L2.CX X.prog X.w) kc (fa i) (fd i) F.ps (spC X.K ca L.call i)) ∧
    ∀ i F, L.T.fns[i]? = some F → FnOk X.prog X.w X.K X.mg X.base (L2.CX X.prog X.w) ki (fa i) (fd i) F.ps (spC X.K ca L.ini i)
  un : X.A.units + 65 < cLine
  vis : ∀ x, visB sc x = true → Vis X.env.scope x
  loc : ∀ x, locB sc x = true → Loc X.env.scope x ∧ (X.fn x = true ∨ X.env.scope.names.lookup x = some .local)
  gl : ∀ x, globB sc x = true → Gl X x ∧ (x == ("__debug__" : Str)) = false
  blkf : ∀ x, sc.names.lookup x = some .cell ∨ sc.names.lookup x = some .free → X.env.scope.names.lookup x = some .cell ∨ X.env.scope.names.lookup x = some .free
  glob : GlobOk L.T X.K X.mg ca fa fd

section
variable {X : Cx} {ca : Nat → Addr} {W : WX}
/-- a reading: the machine's run, its values carried over by R -/
def tR {α β : Type} (R : List Addr → Hp → α → β → Prop) (X : Cx) (ca : Nat → Addr) (W : WX) (m : Sl → M α) : St → Hp → (β → Hp → Prop) → Prop := fun σ H Q =>
  ∃ φ st ρ, SR X.K ca φ st H ∧ RL X.K φ H ρ σ ∧ Out X.K ca R (fun cls d H' => W cls d σ H') φ H Q (m ρ st)
abbrev tE (X : Cx) (ca : Nat → Addr) (W : WX) (m : Sl → M PV) : TE := tR (Rv X.K) X ca W m
abbrev tA (X : Cx) (ca : Nat → Addr) (W : WX) (m : Sl → M (List PV)) : TA := tR (RvL X.K) X ca W m
abbrev tT (X : Cx) (ca : Nat → Addr) (W : WX) (m : Sl → M Bool) : TT := tR Rt X ca W m
/-- one part, then the rest -/
theorem tR_seq {α β γ δ : Type} {R : List Addr → Hp → α → β → Prop} {R' : List Addr → Hp → γ → δ → Prop} {m : Sl → M α} {f : α → M γ} {φ : List Addr} {st : Store} {ρ : Sl} {σ : St} {H : Hp} {P : δ → Hp → Prop} {Q : β → Hp → Prop}
    (rs : SR X.K ca φ st H) (rl : RL X.K φ H ρ σ) (o : Out X.K ca R' (fun cls d H' => W cls d σ H') φ H P (bnd (m ρ) f st))
    (k : ∀ u H1 φ1 st1 v, Ext φ H φ1 H1 → SR X.K ca φ1 st1 H1 → RL X.K φ1 H1 ρ σ → R φ1 H1 v u → Out X.K ca R' (fun cls d H' => W cls d σ H') φ1 H1 P (f v st1) → Q u H1) : tR R X ca W m σ H Q :=
  ⟨φ, st, ρ, rs, rl, (o.bnd (R := R)).imp fun u H1 ⟨φ1, st1, v, e, rs1, rv, o1⟩ => k u H1 φ1 st1 v e rs1 (rl.ext e) rv o1⟩
theorem tR_as {α β : Type} {R : List Addr → Hp → α → β → Prop} {m : Sl → M α} {φ : List Addr} {st : Store} {ρ : Sl} {σ : St} {H : Hp} {Q : β → Hp → Prop}
    (rs : SR X.K ca φ st H) (rl : RL X.K φ H ρ σ) (o : Out X.K ca R (fun cls d H' => W cls d σ H') φ H Q (m ρ st)) : tR R X ca W m σ H Q := ⟨φ, st, ρ, rs, rl, o⟩

theorem peW {e : Expr} {t t' : TE} (h : PE X e t) (k : ∀ σ H Q, t' σ H Q → t σ H Q) : PE X e t' := ⟨fun pins s σ H Q I q => h.run pins s σ H Q I (k _ _ _ q)⟩
theorem ptW {e : Expr} {t t' : TT} (h : PT X e t) (k : ∀ σ H Q, t' σ H Q → t σ H Q) : PT X e t' := ⟨fun pins s σ H Q I q => h.run pins s σ H Q I (k _ _ _ q)⟩
theorem paW {es : List Expr} {t t' : TA} (h : PA X es t) (k : ∀ σ H Q, t' σ H Q → t σ H Q) : PA X es t' := ⟨fun pos pins s σ H Q I q => h.run pos pins s σ H Q I (k _ _ _ q)⟩
theorem pe_no {e : Expr} {t : TE} (k : ∀ σ H Q, ¬t σ H Q) : PE X e t := ⟨fun _ _ _ _ _ _ q => (k _ _ _ q).elim⟩
theorem pt_no {e : Expr} {t : TT} (k : ∀ σ H Q, ¬t σ H Q) : PT X e t := ⟨fun _ _ _ _ _ _ q => (k _ _ _ q).elim⟩
theorem pa_no {e : List Expr} {t : TA} (k : ∀ σ H Q, ¬t σ H Q) : PA X e t := ⟨fun _ _ _ _ _ _ _ q => (k _ _ _ q).elim⟩
theorem tR_no {α β : Type} {R : List Addr → Hp → α → β → Prop} {m : Sl → M α} (h : ∀ ρ, m ρ = stop) (σ : St) (H : Hp) (Q : β → Hp → Prop) : ¬tR R X ca W m σ H Q := fun ⟨φ, st, ρ, _, _, o⟩ => by
  rw [h ρ] at o
  exact o
theorem Out.no {α β : Type} {R : List Addr → Hp → α → β → Prop} {Ex : XK} {φ : List Addr} {H : Hp} {Q : β → Hp → Prop} {st : Store} (o : Out X.K ca R Ex φ H Q ((stop : M α) st)) : False := o

variable {fa : Nat → Addr} {fd : Nat → FuncData} {L : Lk} {sc : Scope}
theorem ok_const {c : Const} {j : Nat} {p : Pos} : PE X (.Constant c j p) (tE X ca W (fun _ => constP c)) := by
  cases c with
  | none => exact peW pe_non fun σ H Q ⟨φ, st, ρ, rs, _, o⟩ => o.ret rs .non
  | bool b => exact peW pe_bl fun σ H Q ⟨φ, st, ρ, rs, _, o⟩ => o.ret rs (.bl b)
  | int i => exact peW pe_int fun σ H Q ⟨φ, st, ρ, rs, _, o⟩ => o.ret rs (.int i)
  | str x => exact peW pe_str fun σ H Q ⟨φ, st, ρ, rs, _, o⟩ => o.ret rs (.str x)
  | _ => exact pe_no (tR_no fun _ => rfl)
theorem ok_name (c : Ct ca fa fd L sc X W) {x : Str} {p : Pos} : PE X (.Name x p) (tE X ca W (nameP L sc x)) := by
  by_cases h1 : visB sc x = true
  · cases h2 : slotOf L.N x with
    | none => exact pe_no (tR_no fun ρ => by unfold nameP; rw [if_pos h1, h2])
    | some i =>
      have hN := slotOf_get h2
      obtain ⟨n1, n2⟩ := c.nb x (List.mem_of_getElem? hN)
      refine peW (pe_var (i := i) (by rw [c.N]; exact hN) (c.vis x h1) n1 n2) fun σ H Q ⟨φ, st, ρ, rs, rl, o⟩ => ?_
      unfold nameP at o
      rw [if_pos h1, h2] at o
      try dsimp only at o
      cases e : ρ[i]? with
      | none => rw [e] at o; exact False.elim o
      | some w =>
        rw [e] at o
        cases w with
        | none => exact False.elim o
        | some v =>
          obtain ⟨x, e2, rv⟩ := rl.2 i v e
          exact ⟨x, e2, Out.ret o rs rv⟩
  · by_cases h2 : globB sc x = true
    · cases h3 : L.T.glob.lookup x with
      | none => exact pe_no (tR_no fun ρ => by unfold nameP; rw [if_neg h1, if_pos h2, h3])
      | some g =>
        cases g with
        | cst v =>
          obtain ⟨u, y, g1, g2, g3⟩ := c.glob.cst x v h3
          obtain ⟨gl, gd⟩ := c.gl x h2
          refine peW (pe_glob gl g1 g2 gd) fun σ H Q ⟨φ, st, ρ, rs, rl, o⟩ => ?_
          unfold nameP at o
          rw [if_neg h1, if_pos h2, h3] at o
          exact Out.ret o rs (g3 _ _)
        | fn i => exact pe_no (tR_no fun ρ => by unfold nameP; rw [if_neg h1, if_pos h2, h3])
        | cls i => exact pe_no (tR_no fun ρ => by unfold nameP; rw [if_neg h1, if_pos h2, h3])
    · exact pe_no (tR_no fun ρ => by unfold nameP; rw [if_neg h1, if_neg h2])

variable {E : EM}
theorem star_no {e : Expr} (es : List Expr) (env : Env) (h : noStar e = true) : starEach (e :: es) env = (false, eval e env) :: starEach es env := by
  cases e <;> first | rfl | cases h
theorem star_all {env : Env} {p : Pos} : ∀ {es : List Expr}, es.all noStar = true → (backTo p (starEach es env)).any (·.1) = false
  | [], _ => rfl
  | e :: r, h => by
    simp only [List.all_cons, Bool.and_eq_true] at h
    rw [star_no r env h.1]
    show (false || (backTo p (starEach r env)).any (·.1)) = false
    rw [star_all h.2] <;> rfl
theorem ok_evs (hE : ∀ e, PE X e (tE X ca W (E e))) : ∀ es : List Expr, es.all noStar = true → PA X es (tA X ca W (evEs E es))
  | [], _ => paW pa_nil fun σ H Q ⟨φ, st, ρ, rs, rl, o⟩ => Out.ret o rs .nil
  | e :: r, h => by
    simp only [List.all_cons, Bool.and_eq_true] at h
    refine paW (pa_cons (hE e) (ok_evs hE r h.2) (star_no r _ h.1)) fun σ H Q ⟨φ, st, ρ, rs, rl, o⟩ => ?_
    refine tR_seq rs rl o fun x H1 φ1 st1 v e1 rs1 rl1 rv o1 => ?_
    refine tR_seq rs1 rl1 o1 fun xs H2 φ2 st2 vs e2 rs2 rl2 rvs o2 => ?_
    exact Out.ret o2 rs2 (.cons (rv.ext e2) rvs)
theorem ok_args (hE : ∀ e, PE X e (tE X ca W (E e))) (es : List Expr) : PA X es (tA X ca W (argsP E es)) := by
  by_cases h : es.all noStar = true
  · refine paW (ok_evs hE es h) fun σ H Q ⟨φ, st, ρ, rs, rl, o⟩ => ?_
    unfold argsP at o
    rw [if_pos h] at o
    exact ⟨φ, st, ρ, rs, rl, o⟩
  · exact pa_no (tR_no fun ρ => by unfold argsP; rw [if_neg h])
theorem ok_tup (hE : ∀ e, PE X e (tE X ca W (E e))) {es : List Expr} {k : Nat} {p : Pos} : PE X (.Tuple es k p) (tE X ca W (fun ρ => bnd (argsP E es ρ) fun vs => if vs.length ≤ sizeLine then ret (.tup vs) else stop)) := by
  refine peW (pe_tup (ok_args hE es)) fun σ H Q ⟨φ, st, ρ, rs, rl, o⟩ => ?_
  refine tR_seq rs rl o fun xs H1 φ1 st1 vs e1 rs1 rl1 rv o1 => ?_
  split at o1
  · rename_i c
    refine ⟨by rw [← rv.len]; exact c, fun p hp => ?_⟩
    exact o1 φ1 _ _ (ext_new hp) (rs1.new hp) (.tup (SqT.of upd_same) (rv.ext (ext_new hp)))
  · exact o1.no.elim
theorem ok_lst (hE : ∀ e, PE X e (tE X ca W (E e))) {es : List Expr} {p : Pos} : PE X (.List es p) (tE X ca W (fun ρ => bnd (argsP E es ρ) fun vs => if vs.length ≤ sizeLine then fun s => .ok (.ref s.length) (s ++ [.lst vs]) else stop)) := by
  refine peW (pe_lst (ok_args hE es)) fun σ H Q ⟨φ, st, ρ, rs, rl, o⟩ => ?_
  refine tR_seq rs rl o fun xs H1 φ1 st1 vs e1 rs1 rl1 rv o1 => ?_
  split at o1
  · rename_i c
    refine ⟨by rw [← rv.len]; exact c, fun p hp => ?_⟩
    exact o1 _ _ _ (ext_push hp) (rs1.push hp ⟨xs, upd_same, rv.ext (ext_push hp)⟩) (.ref (new_ref rs1))
  · exact o1.no.elim
/-- a display of a dict: written keys -/
def trsOf (X : Cx) (ca : Nat → Addr) (W : WX) (E : EM) : List Key → List Expr → List (TE × TE)
  | k :: ks, e :: es => (tC (kV k), tE X ca W (E e)) :: trsOf X ca W E ks es
  | _, _ => []
theorem ok_pairs (hE : ∀ e, PE X e (tE X ca W (E e))) {p : Pos} : ∀ (ks : List (Option Expr)) (kl : List Key) (es : List Expr), keysOf ks = some kl → kl.length = es.length → PPs X p ks es (trsOf X ca W E kl es)
  | [], _, [], h, _ => by
    cases h
    exact pps_nil
  | [], _, _ :: _, h, hl => by
    cases h
    cases hl
  | k :: ks, kl, es, h, hl => by
    unfold keysOf at h
    split at h
    · rename_i e0; cases e0
    · rename_i e0
      cases e0
      cases e1 : keysOf ks with
      | none => rw [e1] at h; cases h
      | some l =>
        rw [e1] at h
        cases h
        cases es with
        | nil => cases hl
        | cons e r => exact pps_cons pe_str (hE e) (ok_pairs hE ks l r e1 (by simpa using hl))
    · rename_i e0
      cases e0
      cases e1 : keysOf ks with
      | none => rw [e1] at h; cases h
      | some l =>
        rw [e1] at h
        cases h
        cases es with
        | nil => cases hl
        | cons e r => exact pps_cons pe_int (hE e) (ok_pairs hE ks l r e1 (by simpa using hl))
    · cases h
theorem keys_all : ∀ {ks : List (Option Expr)} {kl : List Key}, keysOf ks = some kl → ks.all (·.isSome) = true ∧ ks.length = kl.length
  | [], _, h => by cases h; exact ⟨rfl, rfl⟩
  | k :: ks, kl, h => by
    unfold keysOf at h
    split at h
    · rename_i e0; cases e0
    · rename_i e0
      cases e0
      cases e1 : keysOf ks with
      | none => rw [e1] at h; cases h
      | some l =>
        rw [e1] at h
        cases h
        obtain ⟨h1, h2⟩ := keys_all e1
        exact ⟨by rw [List.all_cons, h1] <;> rfl, by simp [h2]⟩
    · rename_i e0
      cases e0
      cases e1 : keysOf ks with
      | none => rw [e1] at h; cases h
      | some l =>
        rw [e1] at h
        cases h
        obtain ⟨h1, h2⟩ := keys_all e1
        exact ⟨by rw [List.all_cons, h1] <;> rfl, by simp [h2]⟩
    · cases h
theorem run_pairs : ∀ (kl : List Key) (es : List Expr) {φ : List Addr} {st : Store} {ρ : Sl} {σ : St} {H : Hp} {Q : List (V × V) → Hp → Prop}, kl.length = es.length → SR X.K ca φ st H → RL X.K φ H ρ σ →
    Out X.K ca (fun φ H (vs : List PV) (ps : List (V × V)) => ∃ kvs : List (Key × V), ps = kvs.map (fun kv => (kV kv.1, kv.2)) ∧ Rk X.K φ H (kl.zip vs) kvs ∧ kvs.length = kl.length) (fun cls d H' => W cls d σ H') φ H Q (evEs E es ρ st) → tPairs (trsOf X ca W E kl es) σ H Q
  | [], [], φ, st, ρ, σ, H, Q, _, rs, rl, o => o φ H [] .refl rs ⟨[], rfl, .nil, rfl⟩
  | k :: kl, e :: es, φ, st, ρ, σ, H, Q, hl, rs, rl, o => by
    refine tR_seq rs rl o fun x H1 φ1 st1 v e1 rs1 rl1 rv o1 => ?_
    refine run_pairs kl es (by simpa using hl) rs1 rl1 ?_
    refine (o1.bnd).imp fun ps H2 ⟨φ2, st2, vs, e2, rs2, ⟨kvs, h1, h2, h3⟩, o2⟩ => ?_
    exact Out.ret o2 rs2 ⟨(k, x) :: kvs, by rw [h1] <;> rfl, .cons (rv.ext e2) h2, by simp [h3]⟩
  | [], _ :: _, _, _, _, _, _, _, hl, _, _, _ => by cases hl
  | _ :: _, [], _, _, _, _, _, _, hl, _, _, _ => by cases hl
end
end Z

namespace Z
open PySem L2
section
variable {X : Cx} {ca : Nat → Addr} {W : WX} {fa : Nat → Addr} {fd : Nat → FuncData} {L : Lk} {sc : Scope} {E : EM}
theorem ok_dict0 {p : Pos} : PE X (.Dict [] [] p) (tE X ca W (fun _ s => .ok (.ref s.length) (s ++ [.dct []]))) := by
  refine peW pe_dnewK fun σ H Q ⟨φ, st, ρ, rs, rl, o⟩ => fun p hp => ?_
  exact o (φ ++ [p]) _ _ (ext_push hp) (rs.push hp ⟨[], upd_same, .nil⟩) (.ref (new_ref rs))
theorem ok_dict (hE : ∀ e, PE X e (tE X ca W (E e))) {ks : List (Option Expr)} {es : List Expr} {p : Pos} : PE X (.Dict ks es p) (tE X ca W (fun ρ => match keysOf ks with
      | none => stop
      | some kl => if kl.length = es.length ∧ kl.length ≤ 15 ∧ kl ≠ [] then fun s =>
          match evEs E es ρ (s ++ [.dct []]) with
          | .ok vs s' => match s'[s.length]? with
            | some (.dct []) => .ok (.ref s.length) (s'.set s.length (.dct (mergeP [] (kl.zip vs))))
            | _ => .bad
          | .exc c fs s' => .exc c fs s'
          | .bad => .bad
        else stop)) := by
  cases h1 : keysOf ks with
  | none => exact pe_no (tR_no fun _ => rfl)
  | some kl =>
    by_cases h2 : kl.length = es.length ∧ kl.length ≤ 15 ∧ kl ≠ []
    · obtain ⟨a1, a2⟩ := keys_all h1
      refine peW (pe_disp (ok_pairs hE ks kl es h1 h2.1) a1 (by rw [a2, h2.1]) (by rintro rfl; cases h1; exact h2.2.2 rfl) (by rw [a2]; exact h2.2.1)) fun σ H Q ⟨φ, st, ρ, rs, rl, o⟩ => ?_
      try dsimp only at o
      rw [if_pos h2] at o
      intro p hp
      have rs1 : SR X.K ca (φ ++ [p]) (st ++ [.dct []]) (upd H p (.dK [])) := rs.push hp ⟨[], upd_same, .nil⟩
      refine run_pairs kl es h2.1 rs1 (rl.ext (ext_push hp)) ?_
      generalize evEs E es ρ (st ++ [.dct []]) = z at o
      cases z with
      | bad => exact o
      | exc c fs s' => exact o.base (ext_push hp)
      | ok vs s' =>
        try dsimp only at o
        split at o
        · rename_i e
          intro φ2 H2 ps e2 rs2 hr
          obtain ⟨kvs, q1, q2, q3⟩ := hr
          have hp2 : φ2[st.length]? = some p := e2.get (new_ref rs)
          obtain ⟨ks2, d1, d2⟩ := rs2.at hp2 e
          cases d2
          refine ⟨d1, kvs, q1, by omega, ?_⟩
          have mu : Mut (H2 p) := by rw [d1]; trivial
          exact o φ2 _ _ ((ext_push hp).trans (e2.trans (ext_set mu))) (rs2.set hp2 e rfl rfl ⟨_, upd_same, (q2.merge .nil).ext (ext_set mu)⟩) (.ref hp2)
        · exact o.elim
    · exact pe_no (tR_no fun ρ => by simp only [if_neg h2])
theorem ok_bin (hE : ∀ e, PE X e (tE X ca W (E e))) {a b : Expr} {op : Operator} {p : Pos} : PE X (.BinOp a op b p) (tE X ca W (fun ρ => bnd (E a ρ) fun x => bnd (E b ρ) fun y => binP op x y)) := by
  refine peW (pe_op (op_bin (ca := ca) op) (hE a) (hE b)) fun σ H Q ⟨φ, st, ρ, rs, rl, o⟩ => ?_
  refine tR_seq rs rl o fun x H1 φ1 st1 v e1 rs1 rl1 rv o1 => ?_
  refine tR_seq rs1 rl1 o1 fun y H2 φ2 st2 w e2 rs2 rl2 rw2 o2 => ?_
  exact ⟨φ2, st2, v, w, _, rs2, rv.ext e2, rw2, o2⟩
theorem ok_neg (hE : ∀ e, PE X e (tE X ca W (E e))) {a : Expr} {p : Pos} : PE X (.UnaryOp .USub a p) (tE X ca W (fun ρ => bnd (E a ρ) fun x => match x with
      | .int i => ret (.int (-i))
      | _ => stop)) := by
  refine peW (pe_un un_neg (hE a)) fun σ H Q ⟨φ, st, ρ, rs, rl, o⟩ => ?_
  refine tR_seq rs rl o fun x H1 φ1 st1 v e1 rs1 rl1 rv o1 => ?_
  cases rv with
  | int i => exact ⟨i, rfl, Out.ret o1 rs1 (.int _)⟩
  | _ => exact False.elim o1
theorem ok_not (hE : ∀ e, PE X e (tE X ca W (E e))) {a : Expr} {p : Pos} : PE X (.UnaryOp .Not a p) (tE X ca W (fun ρ => bnd (E a ρ) fun x => match x with
      | .bl b => ret (.bl (!b))
      | _ => stop)) := by
  refine peW (pe_not (hE a)) fun σ H Q ⟨φ, st, ρ, rs, rl, o⟩ => ?_
  refine tR_seq rs rl o fun x H1 φ1 st1 v e1 rs1 rl1 rv o1 => ?_
  cases rv with
  | bl i => exact ⟨i, rfl, Out.ret o1 rs1 (.bl _)⟩
  | _ => exact False.elim o1
theorem marks_no {op : CmpOp} {b : Expr} (h : noSet b = true) : behindInMarks op b = false := by
  cases b <;> first | rfl | cases h
theorem ok_cmp (c : Ct ca fa fd L sc X W) (hE : ∀ e, PE X e (tE X ca W (E e))) {a b : Expr} {op : CmpOp} {p : Pos} : PE X (.Compare a [op] [b] p) (tE X ca W (fun ρ => if noSet b = true then bnd (E a ρ) fun x => bnd (E b ρ) fun y => bnd (cmpP op x y) fun b => ret (.bl b) else stop)) := by
  by_cases h : noSet b = true
  · refine peW (pe_cmpR (op_cmp (ca := ca) c.un op) (hE a) (hE b) (marks_no h)) fun σ H Q ⟨φ, st, ρ, rs, rl, o⟩ => ?_
    dsimp only at o
    rw [if_pos h] at o
    refine tR_seq rs rl o fun x H1 φ1 st1 v e1 rs1 rl1 rv o1 => ?_
    refine tR_seq rs1 rl1 o1 fun y H2 φ2 st2 w e2 rs2 rl2 rw2 o2 => ?_
    refine ⟨φ2, st2, v, w, _, rs2, rv.ext e2, rw2, (o2.bnd (R := Rb)).imp fun u H3 ⟨φ3, st3, k, e3, rs3, hk, o3⟩ => ?_⟩
    cases hk
    exact Out.ret o3 rs3 (.bl k)
  · exact pe_no (tR_no fun ρ => by rw [if_neg h])
theorem Out.rb {Ex : XK} {φ : List Addr} {H : Hp} {Q : Bool → Hp → Prop} {r : RE Bool} (o : Out X.K ca Rt Ex φ H Q r) : Out X.K ca Rb Ex φ H (fun z H => ∃ k, z = .bl k ∧ Q k H) r := by
  cases r with
  | ok v s => exact fun φ2 H2 u e2 rs rv => ⟨v, rv, o φ2 H2 v e2 rs rfl⟩
  | exc c fs s => exact o
  | bad => exact o
theorem ok_tru (hE : ∀ e, PE X e (tE X ca W (E e))) {a : Expr} (he : ∀ whole, isTrue a X.env whole = (do let v ← whole; standAt a.pos; holding [v] (truthy v))) : PT X a (tT X ca W (fun ρ => bnd (E a ρ) truP)) := by
  refine ptW (pt_truthR (hE a) (tru_P (ca := ca)) he) fun σ H Q ⟨φ, st, ρ, rs, rl, o⟩ => ?_
  refine tR_seq rs rl o fun x H1 φ1 st1 v e1 rs1 rl1 rv o1 => ?_
  exact ⟨φ1, st1, v, _, rs1, rv, o1⟩
theorem ok_andL {T : Expr → Sl → M Bool} (hT : ∀ e, PT X e (tT X ca W (T e))) {p : Pos} : ∀ (e : Expr) (r : List Expr), PW X (.BoolOp .And (e :: r) p) (tT X ca W (andL T (e :: r)))
  | e, [] => ⟨fun wh pins s σ H Q I h => (pw_and1 (hT e)).run wh pins s σ H Q I h⟩
  | e, b :: r => ⟨fun wh pins s σ H Q I ⟨φ, st, ρ, rs, rl, o⟩ => (pw_and (hT e) (ok_andL hT b r)).run wh pins s σ H Q I (by
      unfold andL at o
      refine tR_seq rs rl o fun x H1 φ1 st1 v e1 rs1 rl1 rv o1 => ?_
      cases rv
      cases x with
      | true => exact ⟨φ1, st1, ρ, rs1, rl1, o1⟩
      | false => exact Out.ret o1 rs1 rfl)⟩
theorem ok_orL {T : Expr → Sl → M Bool} (hT : ∀ e, PT X e (tT X ca W (T e))) {p : Pos} : ∀ (e : Expr) (r : List Expr), PW X (.BoolOp .Or (e :: r) p) (tT X ca W (orL T (e :: r)))
  | e, [] => ⟨fun wh pins s σ H Q I h => (pw_or1 (hT e)).run wh pins s σ H Q I h⟩
  | e, b :: r => ⟨fun wh pins s σ H Q I ⟨φ, st, ρ, rs, rl, o⟩ => (pw_or (hT e) (ok_orL hT b r)).run wh pins s σ H Q I (by
      unfold orL at o
      refine tR_seq rs rl o fun x H1 φ1 st1 v e1 rs1 rl1 rv o1 => ?_
      cases rv
      cases x with
      | false => exact ⟨φ1, st1, ρ, rs1, rl1, o1⟩
      | true => exact Out.ret o1 rs1 rfl)⟩
theorem ok_andV3 (hE : ∀ e, PE X e (tE X ca W (E e))) {a b c : Expr} {r : List Expr} {p : Pos} : PE X (.BoolOp .And (a :: b :: c :: r) p) (tE X ca W (fun ρ => bnd (E a ρ) fun x => match x with
      | .bl true => E (.BoolOp .And (b :: c :: r) p) ρ
      | .bl false => ret (.bl false)
      | _ => stop)) := by
  refine peW (pe_and (hE a) (hE _)) fun σ H Q ⟨φ, st, ρ, rs, rl, o⟩ => ?_
  refine tR_seq rs rl o fun x H1 φ1 st1 v e1 rs1 rl1 rv o1 => ?_
  cases rv with
  | bl i =>
    refine ⟨i, rfl, ?_⟩
    cases i with
    | true => exact ⟨φ1, st1, ρ, rs1, rl1, o1⟩
    | false => exact Out.ret o1 rs1 (.bl _)
  | _ => exact False.elim o1
theorem ok_orV3 (hE : ∀ e, PE X e (tE X ca W (E e))) {a b c : Expr} {r : List Expr} {p : Pos} : PE X (.BoolOp .Or (a :: b :: c :: r) p) (tE X ca W (fun ρ => bnd (E a ρ) fun x => match x with
      | .bl true => ret (.bl true)
      | .bl false => E (.BoolOp .Or (b :: c :: r) p) ρ
      | _ => stop)) := by
  refine peW (pe_or (hE a) (hE _)) fun σ H Q ⟨φ, st, ρ, rs, rl, o⟩ => ?_
  refine tR_seq rs rl o fun x H1 φ1 st1 v e1 rs1 rl1 rv o1 => ?_
  cases rv with
  | bl i =>
    refine ⟨i, rfl, ?_⟩
    cases i with
    | false => exact ⟨φ1, st1, ρ, rs1, rl1, o1⟩
    | true => exact Out.ret o1 rs1 (.bl _)
  | _ => exact False.elim o1
theorem ok_tst (c : Ct ca fa fd L sc X W) (hE : ∀ e, PE X e (tE X ca W (E e))) : ∀ (n : Nat) (e : Expr), PT X e (tT X ca W (tst E n e))
  | 0, e => pt_no (tR_no fun _ => rfl)
  | n + 1, e => by
    unfold tst
    split
    · rename_i x p
      refine ptW (pt_not (ok_tst c hE n x)) fun σ H Q ⟨φ, st, ρ, rs, rl, o⟩ => ?_
      refine tR_seq rs rl o fun b H1 φ1 st1 v e1 rs1 rl1 rv o1 => ?_
      cases rv
      exact Out.ret o1 rs1 rfl
    · rename_i x y p
      refine ptW (pw_and (ok_tst c hE n x) (pw_and1 (ok_tst c hE n y))).pt fun σ H Q ⟨φ, st, ρ, rs, rl, o⟩ => ?_
      refine tR_seq rs rl o fun b H1 φ1 st1 v e1 rs1 rl1 rv o1 => ?_
      cases rv
      cases b with
      | true => exact ⟨φ1, st1, ρ, rs1, rl1, o1⟩
      | false => exact Out.ret o1 rs1 rfl
    · rename_i x y p
      refine ptW (pw_or (ok_tst c hE n x) (pw_or1 (ok_tst c hE n y))).pt fun σ H Q ⟨φ, st, ρ, rs, rl, o⟩ => ?_
      refine tR_seq rs rl o fun b H1 φ1 st1 v e1 rs1 rl1 rv o1 => ?_
      cases rv
      cases b with
      | false => exact ⟨φ1, st1, ρ, rs1, rl1, o1⟩
      | true => exact Out.ret o1 rs1 rfl
    · rename_i x y z p
      refine ptW (pw_and (ok_tst c hE n x) (pw_and (ok_tst c hE n y) (pw_and1 (ok_tst c hE n z)))).pt fun σ H Q ⟨φ, st, ρ, rs, rl, o⟩ => ?_
      refine tR_seq rs rl o fun b H1 φ1 st1 v e1 rs1 rl1 rv o1 => ?_
      cases rv
      cases b with
      | true =>
        refine tR_seq rs1 rl1 o1 fun b2 H2 φ2 st2 w e2 rs2 rl2 rw2 o2 => ?_
        cases rw2
        cases b2 with
        | true => exact ⟨φ2, st2, ρ, rs2, rl2, o2⟩
        | false => exact Out.ret o2 rs2 rfl
      | false => exact Out.ret o1 rs1 rfl
    · rename_i x y z p
      refine ptW (pw_or (ok_tst c hE n x) (pw_or (ok_tst c hE n y) (pw_or1 (ok_tst c hE n z)))).pt fun σ H Q ⟨φ, st, ρ, rs, rl, o⟩ => ?_
      refine tR_seq rs rl o fun b H1 φ1 st1 v e1 rs1 rl1 rv o1 => ?_
      cases rv
      cases b with
      | false =>
        refine tR_seq rs1 rl1 o1 fun b2 H2 φ2 st2 w e2 rs2 rl2 rw2 o2 => ?_
        cases rw2
        cases b2 with
        | false => exact ⟨φ2, st2, ρ, rs2, rl2, o2⟩
        | true => exact Out.ret o2 rs2 rfl
      | true => exact Out.ret o1 rs1 rfl
    · exact (ok_andL (ok_tst c hE n) _ _).pt
    · exact (ok_orL (ok_tst c hE n) _ _).pt
    · rename_i a op b p
      by_cases h : noSet b = true
      · refine ptW (pt_cmpR (op_cmp (ca := ca) c.un op) (hE a) (hE b) (marks_no h)) fun σ H Q ⟨φ, st, ρ, rs, rl, o⟩ => ?_
        dsimp only at o
        rw [if_pos h] at o
        refine tR_seq rs rl o fun x H1 φ1 st1 v e1 rs1 rl1 rv o1 => ?_
        refine tR_seq rs1 rl1 o1 fun y H2 φ2 st2 w e2 rs2 rl2 rw2 o2 => ?_
        exact ⟨φ2, st2, v, w, _, rs2, rv.ext e2, rw2, o2.rb⟩
      · exact pt_no (tR_no fun ρ => by rw [if_neg h])
    · exact ok_tru hE fun _ => rfl
    · exact ok_tru hE fun _ => rfl
    · exact ok_tru hE fun _ => rfl
    · exact ok_tru hE fun _ => rfl
    · exact pt_no (tR_no fun _ => rfl)
theorem ok_andV (hE : ∀ e, PE X e (tE X ca W (E e))) {a b : Expr} {p : Pos} : PE X (.BoolOp .And [a, b] p) (tE X ca W (fun ρ => bnd (E a ρ) fun x => match x with
      | .bl true => E b ρ
      | .bl false => ret (.bl false)
      | _ => stop)) := by
  refine peW (pe_and (hE a) (pe_one (hE b))) fun σ H Q ⟨φ, st, ρ, rs, rl, o⟩ => ?_
  refine tR_seq rs rl o fun x H1 φ1 st1 v e1 rs1 rl1 rv o1 => ?_
  cases rv with
  | bl i =>
    refine ⟨i, rfl, ?_⟩
    cases i with
    | true => exact ⟨φ1, st1, ρ, rs1, rl1, o1⟩
    | false => exact Out.ret o1 rs1 (.bl _)
  | _ => exact False.elim o1
theorem ok_orV (hE : ∀ e, PE X e (tE X ca W (E e))) {a b : Expr} {p : Pos} : PE X (.BoolOp .Or [a, b] p) (tE X ca W (fun ρ => bnd (E a ρ) fun x => match x with
      | .bl true => ret (.bl true)
      | .bl false => E b ρ
      | _ => stop)) := by
  refine peW (pe_or (hE a) (pe_one (hE b))) fun σ H Q ⟨φ, st, ρ, rs, rl, o⟩ => ?_
  refine tR_seq rs rl o fun x H1 φ1 st1 v e1 rs1 rl1 rv o1 => ?_
  cases rv with
  | bl i =>
    refine ⟨i, rfl, ?_⟩
    cases i with
    | false => exact ⟨φ1, st1, ρ, rs1, rl1, o1⟩
    | true => exact Out.ret o1 rs1 (.bl _)
  | _ => exact False.elim o1
theorem ok_ifE (c : Ct ca fa fd L sc X W) (hE : ∀ e, PE X e (tE X ca W (E e))) {t a b : Expr} {p : Pos} : PE X (.IfExp t a b p) (tE X ca W (fun ρ => bnd (tst E 20 t ρ) fun t => if t = true then E a ρ else E b ρ)) := by
  refine peW (pe_ifExp (ok_tst c hE 20 t) (hE a) (hE b)) fun σ H Q ⟨φ, st, ρ, rs, rl, o⟩ => ?_
  refine tR_seq rs rl o fun x H1 φ1 st1 v e1 rs1 rl1 rv o1 => ?_
  cases rv
  cases x with
  | true => exact ⟨φ1, st1, ρ, rs1, rl1, o1⟩
  | false => exact ⟨φ1, st1, ρ, rs1, rl1, o1⟩
abbrev Ro : List Addr → Hp → Option Int → Option Int → Prop := fun _ _ a b => b = a
theorem ok_part (hE : ∀ e, PE X e (tE X ca W (E e))) (i : Option Expr) : PO X i (tR Ro X ca W (partP E i)) := by
  cases i with
  | none => exact ⟨fun pins s σ H Q I ⟨φ, st, ρ, rs, rl, o⟩ => po_none.run pins s σ H Q I (Out.ret o rs rfl)⟩
  | some e =>
    refine ⟨fun pins s σ H Q I ⟨φ, st, ρ, rs, rl, o⟩ => (po_some (hE e)).run pins s σ H Q I ?_⟩
    refine tR_seq rs rl o fun x H1 φ1 st1 v e1 rs1 rl1 rv o1 => ?_
    cases rv with
    | int i => exact ⟨i, rfl, Out.ret o1 rs1 rfl⟩
    | _ => exact False.elim o1
theorem ok_slice (hE : ∀ e, PE X e (tE X ca W (E e))) {a : Expr} {lo hi : Option Expr} {p p2 : Pos} : PE X (.Subscript a (.Slice lo hi none p2) p) (tE X ca W (fun ρ => bnd (E a ρ) fun x => bnd (partP E lo ρ) fun lo => bnd (partP E hi ρ) fun hi => slP x lo hi)) := by
  refine peW (pe_slice (sl_P (ca := ca)) (hE a) (ok_part hE lo) (ok_part hE hi)) fun σ H Q ⟨φ, st, ρ, rs, rl, o⟩ => ?_
  refine tR_seq rs rl o fun x H1 φ1 st1 v e1 rs1 rl1 rv o1 => ?_
  refine tR_seq rs1 rl1 o1 fun y H2 φ2 st2 w e2 rs2 rl2 rw2 o2 => ?_
  cases rw2
  refine tR_seq rs2 rl2 o2 fun z H3 φ3 st3 w' e3 rs3 rl3 rw3 o3 => ?_
  cases rw3
  exact ⟨φ3, st3, v, _, rs3, (rv.ext e2).ext e3, o3⟩
theorem ok_ix (c : Ct ca fa fd L sc X W) (hE : ∀ e, PE X e (tE X ca W (E e))) {a b : Expr} {p : Pos} (hb : ∀ lo hi p2, b ≠ .Slice lo hi none p2) : PE X (.Subscript a b p) (tE X ca W (fun ρ => bnd (E a ρ) fun x => bnd (E b ρ) fun i => ixP x i)) := by
  have pl : PlainIx b := by
    intro o i
    cases b with
    | Slice lo hi st p2 =>
      cases st with
      | none => exact absurd rfl (hb lo hi p2)
      | some _ => rfl
    | _ => rfl
  refine peW (pe_ix (ix_P (ca := ca) c.un) (hE a) (hE b) pl) fun σ H Q ⟨φ, st, ρ, rs, rl, o⟩ => ?_
  refine tR_seq rs rl o fun x H1 φ1 st1 v e1 rs1 rl1 rv o1 => ?_
  refine tR_seq rs1 rl1 o1 fun y H2 φ2 st2 w e2 rs2 rl2 rw2 o2 => ?_
  exact ⟨φ2, st2, v, w, _, rs2, rv.ext e2, rw2, o2⟩
theorem base_eq {o : Expr} {f : Str} {env : Env} {w : Sem Value} (h : baseOk o = true) : attributeBase o f env w = w := by
  unfold attributeBase
  split
  · rename_i x p1 p2
    have hx : (x != "super") = true := h
    rw [hx]
    rfl
  · rfl
/-- a field that is read -/
theorem fld_rel (c : Ct ca fa fd L sc X W) {φ : List Addr} {st : Store} {H : Hp} {x : V} {v : PV} {f : Str} {Ex : XK} {Q : VK} (rs : SR X.K ca φ st H) (rv : Rv X.K φ H v x) (o : Out X.K ca (Rv X.K) Ex φ H Q (fldP L v f st)) :
    ∃ a C dx fs u, x = .ref a ∧ H a = some (.ins C dx fs) ∧ Cls X.K C ∧ NoAttr X.K C f ∧ fs.lookup f = some u ∧ Q u H := by
  unfold fldP at o
  cases rv with
  | @ref n a ha =>
    try dsimp only at o
    split at o
    · rename_i k l e1
      obtain ⟨dx, fs, q, rk⟩ := rs.at ha e1
      split at o
      · rename_i C e2
        split at o
        · rename_i hf
          split at o
          · rename_i v e3
            obtain ⟨g1, g2⟩ := c.glob.fl k C f e2 hf
            rcases rk.lookup f with ⟨v', u, h1, h2, h3⟩ | ⟨h1, _⟩
            · rw [e3] at h1
              cases h1
              exact ⟨a, ca k, dx, fs, u, rfl, q, g1, g2, h2, Out.ok o rs h3⟩
            · rw [e3] at h1
              cases h1
          · exact o.elim
        · exact o.elim
      · exact o.elim
    · exact o.elim
  | _ => exact False.elim o
theorem ok_fld (c : Ct ca fa fd L sc X W) (hE : ∀ e, PE X e (tE X ca W (E e))) {a : Expr} {f : Str} {p : Pos} : PE X (.Attribute a f p) (tE X ca W (fun ρ => if baseOk a = true then bnd (E a ρ) fun x => fldP L x f else stop)) := by
  by_cases h : baseOk a = true
  · refine peW (pe_fld (hE a) (base_eq h)) fun σ H Q ⟨φ, st, ρ, rs, rl, o⟩ => ?_
    dsimp only at o
    rw [if_pos h] at o
    refine tR_seq rs rl o fun x H1 φ1 st1 v e1 rs1 rl1 rv o1 => ?_
    exact fld_rel c rs1 rv o1
  · exact pe_no (tR_no fun ρ => by rw [if_neg h])
end
end Z

namespace Z
open PySem L2
section
variable {X : Cx} {ca : Nat → Addr} {W : WX} {fa : Nat → Addr} {fd : Nat → FuncData} {L : Lk} {sc : Scope} {E : EM}
theorem ok_args1 (hE : ∀ e, PE X e (tE X ca W (E e))) (as : List Expr) : PA X as (tA X ca W (args1 E as)) := by
  cases as with
  | nil => exact pa_no (tR_no fun _ => rfl)
  | cons e r => exact ok_args hE (e :: r)
theorem all_star {as : List Expr} {ρ : Sl} {E : EM} (h : ¬as.all noStar = true) : argsP E as ρ = stop := by
  unfold argsP
  rw [if_neg h]
/-- a call of a built-in function by values -/
theorem ok_blt (c : Ct ca fa fd L sc X W) (hE : ∀ e, PE X e (tE X ca W (E e))) {x : Str} {b : Bl} {as : List Expr} {p pos : Pos} (hb : bltName x = some b) (hg : globB sc x = true) :
    PE X (.Call (.Name x p) as [] pos) (tE X ca W (fun ρ => bnd (args1 E as ρ) fun vs => bltP b vs)) := by
  obtain ⟨gl, gd⟩ := c.gl x hg
  cases as with
  | nil => exact pe_no (tR_no fun _ => rfl)
  | cons e r =>
    by_cases hs : (e :: r).all noStar = true
    · have hs' := hs
      simp only [List.all_cons, Bool.and_eq_true] at hs'
      have fin : ∀ {σ : St} {H : Hp} {Q : VK}, tE X ca W (fun ρ => bnd (args1 E (e :: r) ρ) fun vs => bltP b vs) σ H Q → tCB (rBlt X ca b) (tA X ca W (argsP E (e :: r))) σ H Q := fun {σ H Q} ⟨φ, st, ρ, rs, rl, o⟩ =>
        tR_seq rs rl o fun xs H1 φ1 st1 vs e1 rs1 rl1 rv o1 => ⟨φ1, st1, vs, _, rs1, rv, o1⟩
      have fnB : ∀ id : String, CallR X (.builtin id) (rBlt X ca b) → bootBuiltins x = some (.builtin id) → X.mg x = none → x ≠ "__name__" → PE X (.Call (.Name x p) (e :: r) [] pos) (tE X ca W (fun ρ => bnd (args1 E (e :: r) ρ) fun vs => bltP b vs)) := fun id hc hv hm hn =>
        peW (pe_callB hc gl hm hv (ok_args hE (e :: r)) hn gd (star_no r _ hs'.1) (star_all hs'.2)) fun _ _ _ h => fin h
      have fnT : ∀ id : String, CallR X (.type id) (rBlt X ca b) → bootBuiltins x = some (.type id) → X.mg x = none → x ≠ "__name__" → PE X (.Call (.Name x p) (e :: r) [] pos) (tE X ca W (fun ρ => bnd (args1 E (e :: r) ρ) fun vs => bltP b vs)) := fun id hc hv hm hn =>
        peW (pe_callTy hc gl hm hv (ok_args hE (e :: r)) hn gd (star_no r _ hs'.1) (star_all hs'.2)) fun _ _ _ h => fin h
      have hm := lookup_mem hb
      simp only [bltL, List.mem_cons, Prod.mk.injEq, List.not_mem_nil, or_false] at hm
      rcases hm with ⟨rfl, rfl⟩ | ⟨rfl, rfl⟩ | ⟨rfl, rfl⟩ | ⟨rfl, rfl⟩ | ⟨rfl, rfl⟩ | ⟨rfl, rfl⟩ | ⟨rfl, rfl⟩ | ⟨rfl, rfl⟩ | ⟨rfl, rfl⟩ | ⟨rfl, rfl⟩ | ⟨rfl, rfl⟩
      · exact fnB _ blt_abs (by rfl) (c.glob.non _ (by rfl)) (by decide)
      · exact fnT _ blt_int (by rfl) (c.glob.non _ (by rfl)) (by decide)
      · exact fnB _ (blt_max c.calm) (by rfl) (c.glob.non _ (by rfl)) (by decide)
      · exact fnB _ (blt_min c.calm) (by rfl) (c.glob.non _ (by rfl)) (by decide)
      · exact fnB _ blt_len (by rfl) (c.glob.non _ (by rfl)) (by decide)
      · exact fnB _ (blt_any c.calm) (by rfl) (c.glob.non _ (by rfl)) (by decide)
      · exact fnB _ (blt_all c.calm) (by rfl) (c.glob.non _ (by rfl)) (by decide)
      · exact fnT _ blt_tuple (by rfl) (c.glob.non _ (by rfl)) (by decide)
      · exact fnT _ blt_list (by rfl) (c.glob.non _ (by rfl)) (by decide)
      · exact fnT _ (blt_dict c.calm) (by rfl) (c.glob.non _ (by rfl)) (by decide)
      · exact fnT _ blt_str (by rfl) (c.glob.non _ (by rfl)) (by decide)
    · exact pe_no (tR_no fun ρ => by
        show bnd (argsP E (e :: r) ρ) _ = _
        rw [all_star hs] <;> rfl)
/-- isinstance(a, t) -/
theorem ok_isi (c : Ct ca fa fd L sc X W) (hE : ∀ e, PE X e (tE X ca W (E e))) {a : Expr} {t : Str} {u : String} {p pt pos : Pos} (hg : globB sc "isinstance" = true) (ht : tyName t = some u) :
    PE X (.Call (.Name "isinstance" p) [a, .Name t pt] [] pos) (tE X ca W (fun ρ => if noStar a = true ∧ globB sc t = true then bnd (E a ρ) fun x => isiP x u else stop)) := by
  by_cases h : noStar a = true ∧ globB sc t = true
  · obtain ⟨gl, gd⟩ := c.gl _ hg
    obtain ⟨gl2, gd2⟩ := c.gl t h.2
    have hn : X.mg t = none ∧ bootBuiltins t = some (.type u) ∧ t ≠ "__name__" := by
      unfold tyName at ht
      split at ht
      · rename_i e1; cases ht; subst e1; exact ⟨c.glob.non _ (by rfl), by rfl, by decide⟩
      · split at ht
        · rename_i e1; cases ht; subst e1; exact ⟨c.glob.non _ (by rfl), by rfl, by decide⟩
        · split at ht
          · rename_i e1; cases ht; subst e1; exact ⟨c.glob.non _ (by rfl), by rfl, by decide⟩
          · split at ht
            · rename_i e1; cases ht; subst e1; exact ⟨c.glob.non _ (by rfl), by rfl, by decide⟩
            · split at ht
              · rename_i e1; cases ht; subst e1; exact ⟨c.glob.non _ (by rfl), by rfl, by decide⟩
              · split at ht
                · rename_i e1; cases ht; subst e1; exact ⟨c.glob.non _ (by rfl), by rfl, by decide⟩
                · cases ht
    have hty : PE X (.Name t pt) (tC (.ty u)) := pe_bltn gl2 hn.1 hn.2.1 rfl hn.2.2 gd2
    refine peW (pe_callB call_isi gl (c.glob.non _ (by rfl)) (by rfl) (pa_cons (hE a) (pa_cons hty pa_nil (by rfl)) (star_no _ _ h.1)) (by decide) gd (star_no _ _ h.1) (by rfl)) fun σ H Q ⟨φ, st, ρ, rs, rl, o⟩ => ?_
    dsimp only at o
    rw [if_pos h] at o
    refine tR_seq rs rl o fun x H1 φ1 st1 v e1 rs1 rl1 rv o1 => ?_
    exact isi_rel rs1 rv o1
  · exact pe_no (tR_no fun ρ => by rw [if_neg h])
/-- f(..), a def of the text -/
theorem ok_fn (c : Ct ca fa fd L sc X W) (hE : ∀ e, PE X e (tE X ca W (E e))) {x : Str} {i : Nat} {as : List Expr} {p pos : Pos} (hi : L.T.glob.lookup x = some (.fn i)) (hg : globB sc x = true) :
    PE X (.Call (.Name x p) as [] pos) (tE X ca W (fun ρ => bnd (argsP E as ρ) fun vs => L.call i vs)) := by
  obtain ⟨gl, gd⟩ := c.gl x hg
  cases as with
  | nil =>
    obtain ⟨F, hf⟩ := c.glob.fnI x i hi
    obtain ⟨kc, ki, h1, h2, h3, h4⟩ := c.room
    obtain ⟨g1, g2⟩ := c.glob.fnK i F hf
    refine ⟨fun pins s σ H Q I ⟨φ, st, ρ, rs, rl, o⟩ => ?_⟩
    refine wpAny_Call_Name_kw (ld_glob I gl (c.glob.fn x i hi) ?_ gd)
    exact PySem.W.callWith_K0 I.kIn g1 (run_fnS (us := []) (vs := []) (E := WE W) (h3 i F hf) h1 g2 (c.takes.pass σ) I .nil ⟨φ, st, [], rs, .nil, o⟩)
  | cons e r =>
    by_cases hs : (e :: r).all noStar = true
    · have hs' := hs
      simp only [List.all_cons, Bool.and_eq_true] at hs'
      obtain ⟨F, hf⟩ := c.glob.fnI x i hi
      obtain ⟨kc, ki, h1, h2, h3, h4⟩ := c.room
      obtain ⟨g1, g2⟩ := c.glob.fnK i F hf
      refine peW (pe_callS (E := WE W) (h3 i F hf) h1 gl (c.glob.fn x i hi) g1 g2 (c.takes.pass) (ok_args hE (e :: r)) gd (star_no r _ hs'.1) (star_all hs'.2)) fun σ H Q ⟨φ, st, ρ, rs, rl, o⟩ => ?_
      exact tR_seq rs rl o fun xs H1 φ1 st1 vs e1 rs1 rl1 rv o1 => ⟨φ1, st1, vs, rs1, rv, o1⟩
    · exact pe_no (tR_no fun ρ => by
        show bnd (argsP E (e :: r) ρ) _ = _
        rw [all_star hs] <;> rfl)
/-- a class without __init__ is made -/
theorem run_bare {pins : List (Addr × Obj)} {σ : St} {H : Hp} {s : Shared} {Q : VK} {C : Addr} (M : Mk0 X.K C) (I : Inv X pins σ H s)
    (h : ∀ x dx, H x = none → H dx = none → dx ≠ x → Q (.ref x) (upd (upd H dx (.own x)) x (.ins C dx []))) :
    wpAny (model X.prog X.w) X.A (call (.ref C) []) (EP X pins σ Q) X.xe s := by
  have hq := h (s.heap.objs.size + 1) s.heap.objs.size (I.hok.fresh (Nat.le_succ _)) (I.hok.fresh (Nat.le_refl _)) (Nat.ne_of_lt (Nat.lt_succ_self _))
  have I2 := Inv.made (C := C) I
  have N : ((s.heap.push PySem.W.emptyDict).push (PySem.W.instObj C s.heap.objs.size)).get? (s.heap.objs.size + 1) = some (PySem.W.instObj C s.heap.objs.size) := by
    have := Heap.get?_push_size (s.heap.push PySem.W.emptyDict) (o := PySem.W.instObj C s.heap.objs.size) rfl
    rwa [Heap.size_push] at this
  have Y := PySem.W.makes_of (M := model X.prog X.w) I.kIn M.makes
  refine wpAny_call (make_map0 I.kIn M.makes M.init (fun self => PySem.W.Looks.of_pure (PySem.W.oi_bind self)) ?_)
  have t1 : PySem.W.Looks (model X.prog X.w) ((s.heap.push PySem.W.emptyDict).push (PySem.W.instObj C s.heap.objs.size)) (typeOf (.ref (s.heap.objs.size + 1))) (.ref C) := (PySem.W.Looks.ld N).andThen .now
  have t2 : PySem.W.Looks (model X.prog X.w) ((s.heap.push PySem.W.emptyDict).push (PySem.W.instObj C s.heap.objs.size)) (isInstance (.ref (s.heap.objs.size + 1)) (.type "object")) true := t1.andThen (Y.top.keeps fun b o e => Heap.get?_push_of_some _ (Heap.get?_push_of_some _ e))
  refine codeAny_call_builtin PySem.W.oi_plain PySem.W.entry_oi (@PySem.W.check_slot (model X.prog X.w) _ _ _ "object.__init__" "object" "__init__" (.ref (s.heap.objs.size + 1)) [] [] _ PySem.W.oi_kind PySem.W.oi_split t2 (PySem.W.oi_args (.ref (s.heap.objs.size + 1))) ?_)
  rw [PySem.W.oi_run]
  exact wpAny_pure (And.intro rfl ⟨.ref (s.heap.objs.size + 1), _, I2, rfl, hq⟩)
/-- C(..), a class of the text -/
theorem ok_make (c : Ct ca fa fd L sc X W) (hE : ∀ e, PE X e (tE X ca W (E e))) {x : Str} {i : Nat} {as : List Expr} {p pos : Pos} (hi : L.T.glob.lookup x = some (.cls i)) (hg : globB sc x = true) :
    PE X (.Call (.Name x p) as [] pos) (tE X ca W (fun ρ => if ((L.T.cls[i]?).bind (·.init)).isSome = true then bnd (argsP E as ρ) fun vs => makeP L i vs else if bareB L.T i as = true then bareP i else stop)) := by
  obtain ⟨gl, gd⟩ := c.gl x hg
  cases as with
  | nil =>
    obtain ⟨kc, ki, h1, h2, h3, h4⟩ := c.room
    cases hb : (L.T.cls[i]?).bind (·.init) with
    | none =>
      by_cases hc : bareB L.T i [] = true
      · have hc' := hc
        unfold bareB at hc
        cases hC : L.T.cls[i]? with
        | none => rw [hC] at hc; cases hc
        | some C =>
          rw [hC] at hc
          obtain ⟨z1, z2⟩ := Bool.and_eq_true_iff.mp hc
          have M := c.glob.bare i C hC (Option.isNone_iff_eq_none.mp z1) (Option.isNone_iff_eq_none.mp z2)
          refine ⟨fun pins s σ H Q I ⟨φ, st, ρ, rs, rl, o⟩ => ?_⟩
          refine wpAny_Call_Name_kw (ld_glob I gl (c.glob.cls x i hi) ?_ gd)
          refine PySem.W.callWith_K0 I.kIn M.kp (run_bare M I fun y dx hy hdx hne => ?_)
          have hy' : upd H dx (.own y) y = none := by rw [upd_ne (Ne.symm hne)]; exact hy
          dsimp only at o
          rw [if_neg (by decide), if_pos hc'] at o
          exact o (φ ++ [y]) _ _ ((ext_new hdx).trans (ext_push hy')) ((rs.new hdx).push hy' ⟨dx, [], upd_same, .nil⟩) (.ref (new_ref rs))
      · exact pe_no (tR_no fun _ => by rw [if_neg (by decide), if_neg hc])
    | some f =>
      cases hc : L.T.cls[i]? with
      | none => rw [hc] at hb; cases hb
      | some C =>
        rw [hc] at hb
        obtain ⟨M, F, hF⟩ := c.glob.ini i C f hc hb
        obtain ⟨g1, g2⟩ := c.glob.fnK f F hF
        refine peW (pe_make0 (E := fun _ _ _ => False) M (h4 f F hF) h2 gl (c.glob.cls x i hi) g2 .nil (fun _ _ _ _ _ _ _ h => by
          obtain ⟨_, _, _, _, _, _, _, _, _, _, _, _, h⟩ := h
          exact h.elim) gd) fun σ H Q ⟨φ, st, ρ, rs, rl, o⟩ => ?_
        intro y dx hy hdx hne
        have hy' : upd H dx (.own y) y = none := by rw [upd_ne (Ne.symm hne)]; exact hy
        have rs2 : SR X.K ca (φ ++ [y]) (st ++ [.ins i []]) (upd (upd H dx (.own y)) y (.ins (ca i) dx [])) := (rs.new hdx).push hy' ⟨dx, [], upd_same, .nil⟩
        have ex : Ext φ H (φ ++ [y]) (upd (upd H dx (.own y)) y (.ins (ca i) dx [])) := (ext_new hdx).trans (ext_push hy')
        have hr : (φ ++ [y])[st.length]? = some y := new_ref rs
        refine ⟨φ ++ [y], st ++ [.ins i []], [.ref st.length], rs2, .cons (.ref hr) .nil, ?_⟩
        replace o : Out X.K ca (Rv X.K) (fun cls d H' => W cls d σ H') φ H Q (makeP L i [] st) := o
        unfold makeP at o
        have hb' : (L.T.cls[i]?).bind (·.init) = some f := by rw [hc]; exact hb
        rw [hb'] at o
        try dsimp only at o
        split at o
        · rename_i s' e2
          rw [e2]
          intro φ2 H2 u e3 rs3 rn
          cases rn
          exact ⟨rfl, o φ2 H2 _ (ex.trans e3) rs3 (.ref (e3.get hr))⟩
        · exact o.elim
  | cons e r =>
    by_cases hs : (e :: r).all noStar = true
    · have hs' := hs
      simp only [List.all_cons, Bool.and_eq_true] at hs'
      obtain ⟨kc, ki, h1, h2, h3, h4⟩ := c.room
      have nop : ∀ (f : Nat) (C : ClI) (F : FnI), L.T.cls[i]? = some C → C.init = some f → L.T.fns[f]? = some F → PE X (.Call (.Name x p) (e :: r) [] pos) (tE X ca W (fun ρ => bnd (argsP E (e :: r) ρ) fun vs => makeP L i vs)) := fun f C F hc hf hF => by
        obtain ⟨M, _⟩ := c.glob.ini i C f hc hf
        obtain ⟨g1, g2⟩ := c.glob.fnK f F hF
        refine peW (pe_make (E := fun _ _ _ => False) M (h4 f F hF) h2 gl (c.glob.cls x i hi) g2 .nil (fun _ _ _ _ _ _ _ h => by
          obtain ⟨_, _, _, _, _, _, _, _, _, _, _, _, h⟩ := h
          exact h.elim) (ok_args hE (e :: r)) gd (star_no r _ hs'.1) (star_all hs'.2)) fun σ H Q ⟨φ, st, ρ, rs, rl, o⟩ => ?_
        refine tR_seq rs rl o fun xs H1 φ1 st1 vs e1 rs1 rl1 rv o1 => ?_
        intro y dx hy hdx hne
        have hy' : upd H1 dx (.own y) y = none := by rw [upd_ne (Ne.symm hne)]; exact hy
        have rs2 : SR X.K ca (φ1 ++ [y]) (st1 ++ [.ins i []]) (upd (upd H1 dx (.own y)) y (.ins (ca i) dx [])) := (rs1.new hdx).push hy' ⟨dx, [], upd_same, .nil⟩
        have ex : Ext φ1 H1 (φ1 ++ [y]) (upd (upd H1 dx (.own y)) y (.ins (ca i) dx [])) := (ext_new hdx).trans (ext_push hy')
        have hr : (φ1 ++ [y])[st1.length]? = some y := new_ref rs1
        refine ⟨φ1 ++ [y], st1 ++ [.ins i []], .ref st1.length :: vs, rs2, ?_, ?_⟩
        · rw [List.append_nil]
          exact .cons (.ref hr) (rv.ext ex)
        · replace o1 : Out X.K ca (Rv X.K) (fun cls d H' => W cls d σ H') φ1 H1 Q (makeP L i vs st1) := o1
          unfold makeP at o1
          have hb : (L.T.cls[i]?).bind (·.init) = some f := by rw [hc]; exact hf
          rw [hb] at o1
          try dsimp only at o1
          split at o1
          · rename_i s' e2
            rw [e2]
            intro φ2 H2 u e3 rs3 rn
            cases rn
            exact ⟨rfl, o1 φ2 H2 _ (ex.trans e3) rs3 (.ref (e3.get hr))⟩
          · exact o1.elim
      cases hb : (L.T.cls[i]?).bind (·.init) with
      | none => exact pe_no (tR_no fun ρ => rfl)
      | some f =>
        cases hc : L.T.cls[i]? with
        | none => rw [hc] at hb; cases hb
        | some C =>
          rw [hc] at hb
          obtain ⟨M, F, hF⟩ := c.glob.ini i C f hc hb
          exact nop f C F hc hb hF
    · exact pe_no (tR_no fun ρ => by
        show (if _ then bnd (argsP E (e :: r) ρ) _ else if false = true then _ else _) = _
        rw [all_star hs]
        split <;> rfl)
/-- what a method's call is -/
theorem meth_eq {o : Expr} {m : Str} {es : List Expr} {ap p : Pos} {env : Env} (h : mOk o es ap p = true) :
    eval (.Call (.Attribute o m ap) es [] p) env = (do
      let ov ← eval o env
      standAt ap.atName
      let (f, first) ← holding [ov] (getMethod ov m (do return (← importBound o env).getD true))
      callWith p f first (backTo p (starEach es env)) (backToKw p (keywordEach [] env))) := by
  unfold mOk at h
  simp only [Bool.and_eq_true, decide_eq_true_eq] at h
  obtain ⟨h1, h2, h4, h5⟩ := h
  have h0 : eval (.Call (.Attribute o m ap) es [] p) env = (do
    let ov ← attributeBase o m env (eval o env)
    standAt ap.atName
    methodCall o m ap p env ov (es.length + 0) (backTo p (starEach es env)) (backToKw p (keywordEach [] env))) := rfl
  rw [h0, base_eq h1]
  have hf : methodCallForm (es.length + 0) (backTo p (starEach es env)) (backToKw p (keywordEach [] env)) = true := by
    have ha : ∀ (l : List Expr), l.all noStar = true → (backTo p (starEach l env)).all (fun x => !x.1) = true := fun l hl => by
      have q := star_all (env := env) (p := p) hl
      rw [List.any_eq_false] at q
      rw [List.all_eq_true]
      intro x hx
      simpa using q x hx
    unfold methodCallForm
    rw [ha _ h2]
    show (true && true && decide (es.length + 0 + 0 < 30)) = true
    rw [decide_eq_true (by omega)] <;> rfl
  have hp : methodCallPos true o env ap p = pure p := by
    unfold methodCallPos
    rw [h5] <;> rfl
  unfold methodCall
  rw [hf, hp]
  rfl
/-- a method of a list or a dict -/
theorem bm_ok (hu : X.A.units + 1 < cLine) {m : Str} {ob : SO} {t : Mt} {a : Addr} {φ : List Addr} {st : Store} {H : Hp} {s : Shared} {σ : St} {n : Nat} {pins : List (Addr × Obj)} (I : Inv X pins σ H s) (rs : SR X.K ca φ st H) (ha : φ[n]? = some a) (e1 : st[n]? = some ob) (ht : mtOf ob m = some t) :
    ∃ T id, PlainAttrs T ∧ Slot T m id ∧ typeOf (.builtin id) = pure (.type "method_descriptor") ∧ s.TypeIs (.ref a) T ∧ (∀ b, Value.ref a = .ref b → ∃ o, s.heap.get? b = some o ∧ o.dict = none) ∧
      ∀ (pins : List (Addr × Obj)) (s : Shared) (σ : St) (H : Hp) (φ : List Addr) (st : Store) (vs : List PV) (xs : List V) (us : List Value) (Q : VK) (Ex : XK), Inv X pins σ H s → Vals xs us → SR X.K ca φ st H → φ[n]? = some a → RvL X.K φ H vs xs → Out X.K ca (Rv X.K) Ex φ H Q (mtP t (.ref n) vs st) →
        wpAny (model X.prog X.w) X.A (call (.builtin id) (.ref a :: us)) (EP X pins σ Q) X.xe s := by
  have getL : ∀ l, dctOf st n = some l → m = "get" → t = .get → ∃ T id, PlainAttrs T ∧ Slot T m id ∧ typeOf (.builtin id) = pure (.type "method_descriptor") ∧ s.TypeIs (.ref a) T ∧ (∀ b, Value.ref a = .ref b → ∃ o, s.heap.get? b = some o ∧ o.dict = none) ∧
      ∀ (pins : List (Addr × Obj)) (s : Shared) (σ : St) (H : Hp) (φ : List Addr) (st : Store) (vs : List PV) (xs : List V) (us : List Value) (Q : VK) (Ex : XK), Inv X pins σ H s → Vals xs us → SR X.K ca φ st H → φ[n]? = some a → RvL X.K φ H vs xs → Out X.K ca (Rv X.K) Ex φ H Q (mtP t (.ref n) vs st) →
        wpAny (model X.prog X.w) X.A (call (.builtin id) (.ref a :: us)) (EP X pins σ Q) X.xe s := fun l hl hm htt => by
    subst hm htt
    obtain ⟨ks, q, _⟩ := rs.dict ha hl
    have g : DGet H a (kV (.inl 0)) (valV ks (.inl 0)) := .inl ⟨ks, .inl 0, q, rfl, rfl⟩
    refine ⟨"dict", "dict.get", PySem.F.plainAttrs_dict, PySem.F.slot_dict_get, PySem.F.type_dict_get, dict_typeIs I g, dict_noDict I g, ?_⟩
    intro pins s σ H φ st vs xs us Q Ex I rv rs ha rl o
    replace o : Out X.K ca (Rv X.K) Ex φ H Q (getP (.ref n) vs st) := o
    unfold getP at o
    split at o
    · rename_i k v
      obtain ⟨x, y, rfl, h1, h2⟩ := rl.two_inv
      try dsimp only at o
      split at o
      · rename_i l k' e2 e3
        obtain ⟨ks, q, tk⟩ := rs.dict ha e2
        have ex := h1.key e3
        subst ex
        cases rv with
        | cons ru rv =>
          cases rv with
          | cons rd rn =>
            cases rn
            have g : DGet H a (kV k') (valV ks k') := .inl ⟨ks, k', q, rfl, rfl⟩
            refine d_get2 hu I g ru rd fun w' s' I' rw => ?_
            refine ⟨_, H, I', rw, o.ok rs ?_⟩
            rcases tk.dget k' with ⟨z', zx, z1, z2, z3⟩ | ⟨z1, z2⟩
            · rw [z1, z2]; exact z3
            · rw [z1, z2]; exact h2
      · exact o.elim
    · exact o.elim
  unfold mtOf at ht
  split at ht
  · rename_i l m'
    split at ht
    · rename_i em
      cases ht
      subst em
      obtain ⟨ys, q, _⟩ := rs.at ha e1
      obtain ⟨h1, h2⟩ := tyV_is (T := "list") I (x := .ref a) (v := .ref a) rfl (.inl ⟨rfl, _, SqL.of q⟩)
      refine ⟨"list", "list.append", PySem.F.plainAttrs_list, PySem.F.slot_list_append, PySem.F.type_list_append, h1, h2, ?_⟩
      intro pins s σ H φ st vs xs us Q Ex I rv rs ha rl o
      exact mt_append pins s σ H (.ref a) xs (.ref a) us Q I rfl rv (mt_app rs (.ref ha) rl o)
    · cases ht
  · rename_i l m'
    split at ht
    · rename_i em
      cases ht
      exact getL _ (by unfold dctOf; rw [e1]) em rfl
    · cases ht
  · rename_i l m'
    split at ht
    · rename_i em
      cases ht
      exact getL _ (by unfold dctOf; rw [e1]) em rfl
    · cases ht
  · cases ht
/-- o.m(..), a method of the text, or of a list or a dict -/
theorem ok_meth (c : Ct ca fa fd L sc X W) (hE : ∀ e, PE X e (tE X ca W (E e))) {o : Expr} {m : Str} {as : List Expr} {ap p : Pos} :
    PE X (.Call (.Attribute o m ap) as [] p) (tE X ca W (fun ρ => if mOk o as ap p = true then bnd (E o ρ) fun x => methP L x m (evEs E as ρ) else stop)) := by
  by_cases h : mOk o as ap p = true
  · have hs := h
    unfold mOk at hs
    simp only [Bool.and_eq_true, decide_eq_true_eq] at hs
    obtain ⟨_, hall, _⟩ := hs
    refine ⟨fun pins s σ H Q I ⟨φ, st, ρ, rs, rl, o⟩ => ?_⟩
    dsimp only at o
    rw [if_pos h] at o
    refine PySem.W.methodCall_KW (thn ((hE _).run pins s σ H _ I (tR_seq (Q := fun x H1 => ∃ φ1 st1 v, SR X.K ca φ1 st1 H1 ∧ RL X.K φ1 H1 ρ σ ∧ Rv X.K φ1 H1 v x ∧ Out X.K ca (Rv X.K) (fun cls d H' => W cls d σ H') φ1 H1 Q (methP L v m (evEs E as ρ) st1)) rs rl o
      fun x H1 φ1 st1 v e1 rs1 rl1 rv o1 => ⟨φ1, st1, v, rs1, rl1, rv, o1⟩)) fun u s1 ⟨x, H1, I1, rx, φ1, st1, v, rs1, rl1, rv, o1⟩ => ?_) (meth_eq h)
    unfold methP at o1
    cases rv with
    | @ref n a ha =>
      obtain rfl : u = Value.ref a := rx
      try dsimp only at o1
      split at o1
      · rename_i k l e1
        obtain ⟨dx, fs, q, rk⟩ := rs1.at ha e1
        split at o1
        · rename_i C e2 e3
          split at o1
          · rename_i f e4
            obtain ⟨g1, g2, F, hF⟩ := c.glob.me k C m f e2 e4
            obtain ⟨kc, ki, h1, h2, h3, h4⟩ := c.room
            obtain ⟨g3, g4⟩ := c.glob.fnK f F hF
            have hlk : fs.lookup m = none := by
              rcases rk.lookup m with ⟨v', u, z1, _, _⟩ | ⟨_, z2⟩
              · rw [e3] at z1; cases z1
              · exact z2
            refine getmeth_ok I1 q g1 g2 hlk ?_
            cases as with
            | nil => exact PySem.W.callWith_K0 (first := [.ref a]) I1.kIn g2.kp (run_fnS (us := [.ref a]) (vs := [.ref a]) (E := WE W) (h3 f F hF) h1 g4 (c.takes.pass σ) I1 (.cons rfl .nil) ⟨φ1, st1, [.ref n], rs1, .cons (.ref ha) .nil, o1⟩)
            | cons e r =>
              have hs1 := hall
              simp only [Bool.and_eq_true, List.all_cons] at hs1
              have hA : tA X ca W (evEs E (e :: r)) σ H1 (fun xs H2 => spC X.K ca L.call f (.ref a :: xs) H2 Q (WE W σ)) :=
                tR_seq rs1 rl1 o1 fun xs H2 φ2 st2 vs e5 rs2 rl2 rvs o2 => ⟨φ2, st2, .ref n :: vs, rs2, .cons (.ref (e5.get ha)) rvs, o2⟩
              refine PySem.W.callWith_K (first := [.ref a]) (h₀ := X.base) I.ok.mod.kin g2.kp (thn ((ok_evs hE (e :: r) hall).run p pins s1 σ H1 _ I1 hA) fun us s2 ⟨vs, H2, I2, r2, q2⟩ => ⟨I2.kIn, ?_⟩) (star_no r _ hs1.1) (star_all hs1.2)
              exact run_fnS (us := .ref a :: us) (vs := .ref a :: vs) (E := WE W) (h3 f F hF) h1 g4 (c.takes.pass σ) I2 (.cons rfl r2) q2
          · exact o1.elim
        · exact o1.elim
      · rename_i ob hni e1
        split at o1
        · rename_i t ht
          obtain ⟨T, id, pa, slot, hty, t1, t2, run⟩ := bm_ok (by have := c.un; omega) I1 rs1 ha e1 ht
          refine getMethod_builtin t1 pa slot hty t2 ?_
          cases as with
          | nil => exact Calls.callWith_builtin rfl (PySem.evalArgs_none (run pins s1 σ H1 φ1 st1 [] [] [] Q _ I1 .nil rs1 ha .nil o1))
          | cons e r =>
            have hs1 := hall
            simp only [Bool.and_eq_true, List.all_cons] at hs1
            have hA : tA X ca W (evEs E (e :: r)) σ H1 (fun xs H2 => ∃ φ2 st2 vs, SR X.K ca φ2 st2 H2 ∧ φ2[n]? = some a ∧ RvL X.K φ2 H2 vs xs ∧ Out X.K ca (Rv X.K) (fun cls d H' => W cls d σ H') φ2 H2 Q (mtP t (.ref n) vs st2)) :=
              tR_seq rs1 rl1 o1 fun xs H2 φ2 st2 vs e5 rs2 rl2 rvs o2 => ⟨φ2, st2, vs, rs2, e5.get ha, rvs, o2⟩
            have hB := (ok_evs hE (e :: r) hall).run p pins s1 σ H1 _ I1 hA
            rw [star_no r _ hs1.1] at hB ⊢
            refine Calls.callWith_builtin (by show (false || (backTo p (starEach r X.env)).any (·.1)) = false; rw [star_all hs1.2] <;> rfl) (Calls.evalArgs_plain ?_)
            exact thn hB fun us s2 ⟨xs, H2, I2, r2, φ2, st2, vs, rs2, ha2, rvs, o2⟩ => run pins s2 σ H2 φ2 st2 vs xs us Q _ I2 r2 rs2 ha2 rvs o2
        · exact o1.elim
      · exact o1.elim
    | _ => exact False.elim o1
  · exact pe_no (tR_no fun ρ => by rw [if_neg h])
/-- a call of a name -/
theorem ok_call (c : Ct ca fa fd L sc X W) (hE : ∀ e, PE X e (tE X ca W (E e))) {x : Str} {as : List Expr} {p pos : Pos} :
    PE X (.Call (.Name x p) as [] pos) (tE X ca W (fun ρ => callP L E sc x as ρ)) := by
  by_cases hg : globB sc x = true
  · cases hl : L.T.glob.lookup x with
    | some g =>
      cases g with
      | fn i =>
        have e : (fun ρ => callP L E sc x as ρ) = fun ρ => bnd (argsP E as ρ) fun vs => L.call i vs := by
          funext ρ; unfold callP; rw [if_pos hg, hl]
        rw [e]
        exact ok_fn c hE hl hg
      | cls i =>
        have e : (fun ρ => callP L E sc x as ρ) = fun ρ => if ((L.T.cls[i]?).bind (·.init)).isSome = true then bnd (argsP E as ρ) fun vs => makeP L i vs else if bareB L.T i as = true then bareP i else stop := by
          funext ρ; unfold callP; rw [if_pos hg, hl]
        rw [e]
        exact ok_make c hE hl hg
      | cst v => exact pe_no (tR_no fun ρ => by unfold callP; rw [if_pos hg, hl])
    | none =>
      by_cases hi : x = "isinstance"
      · subst hi
        unfold callP
        simp only [if_pos hg, hl, if_true]
        split
        · rename_i a t pt
          cases ht : tyName t with
          | none => exact pe_no (tR_no fun ρ => rfl)
          | some u => exact ok_isi c hE hg ht
        · exact pe_no (tR_no fun ρ => rfl)
      · cases hb : bltName x with
        | none => exact pe_no (tR_no fun ρ => by unfold callP; rw [if_pos hg, hl]; dsimp only; rw [if_neg hi, hb])
        | some b =>
          have e : (fun ρ => callP L E sc x as ρ) = fun ρ => bnd (args1 E as ρ) fun vs => bltP b vs := by
            funext ρ; unfold callP; rw [if_pos hg, hl]; dsimp only; rw [if_neg hi, hb]
          rw [e]
          exact ok_blt c hE hb hg
  · exact pe_no (tR_no fun ρ => by unfold callP; rw [if_neg hg])
end
end Z

namespace Z
open PySem L2 PyProof.Rows
set_option maxHeartbeats 1000000 in
theorem new_enumT {v : Value} {ob : Obj} {P : Heap → Prop} (B : Begins v ob P) :
    Meets (Builtin.«enumerate.__new__» ⟨[.type "enumerate", v], []⟩) (fun _ R st => P st.heap ∧
      R (.ok (.ret (.ref (st.heap.push ob).objs.size))) { st with heap := (st.heap.push ob).push { cls := .type "enumerate", data := .fields #[.none, .bool false, .ref st.heap.objs.size, rawInt 0, .none, .none] } }) :=
  .of_wp fun pg wd Ar R st h => by
    obtain ⟨hp, gg, dd, tt, oo⟩ := st
    obtain ⟨ha, hb⟩ := h
    have hsub := sub_enumerate
    have it1 : ∀ {Ar' : Around} {Ex : Value → Shared → Prop} {Qn : Value → Shared → Prop}, Qn (.ref hp.objs.size) ⟨hp.push ob, gg, dd, tt, oo⟩ → wpAny (model pg wd) Ar' (pyIter v) Qn Ex ⟨hp, gg, dd, tt, oo⟩ :=
      fun q => B.iter pg wd _ _ ⟨hp, gg, dd, tt, oo⟩ _ ha q
    wp_walk using it1
    refine wpAny_stack_any fun st => wpAny_pure ?_
    split
    · rename_i cc _ _ _ _ _
      cases (cc == Value.type "enumerate")
      · wp_walk using it1
        exact ⟨_, rfl, hb⟩
      · wp_walk using it1
        exact ⟨_, rfl, hb⟩
    · wp_walk using it1
      exact ⟨_, rfl, hb⟩
/-- enumerate(a tuple): the two new cells -/
theorem call_enumT {pg : Program} {wd : World} {Ar : Around} {Ex : Value → Shared → Prop} {st : Shared} {t : Addr} {its : Array Value} {Qn : Value → Shared → Prop} (ht : st.heap.IsTuple t its)
    (h : ∀ h2, IsEnum h2 (st.heap.objs.size + 1) st.heap.objs.size 0 .none → h2.IsTupleIter st.heap.objs.size t 0 →
      (∀ b ob, st.heap.get? b = some ob → h2.get? b = some ob) → Qn (.ref (st.heap.objs.size + 1)) { st with heap := h2 }) :
    wpAny (model pg wd) Ar (call (.type "enumerate") [.ref t]) Qn Ex st := by
  refine callType_new F.called_enumerate (by decide) (F.typeCall_enumerate_1 _) (F.newCall_enumerate_1 _) (fun ob => F.args_object_init_2 ob _) F.entry_enumerate_new (new_enumT (begins_tuple t its)) ⟨ht, ?_⟩
  generalize ho : ({ cls := .type "tuple_iterator", data := .fields #[.ref t, .int 0 0] } : Obj) = ob
  have hz : (st.heap.push ob).objs.size = st.heap.objs.size + 1 := Heap.size_push ..
  have hf : ob.isFreed = false := by rw [← ho] <;> rfl
  show _ ∧ _
  rw [hz]
  have he : IsEnum ((st.heap.push ob).push { cls := .type "enumerate", data := .fields #[.none, .bool false, .ref st.heap.objs.size, rawInt 0, .none, .none] }) (st.heap.objs.size + 1) st.heap.objs.size 0 .none := by
    have q := Heap.get?_push_size (st.heap.push ob) (o := { cls := .type "enumerate", data := .fields #[.none, .bool false, .ref st.heap.objs.size, rawInt 0, .none, .none] }) rfl
    rw [hz] at q
    exact q
  refine ⟨⟨_, he, rfl⟩, h _ he ⟨ob, Heap.get?_push_of_some _ (Heap.get?_push_size _ hf), by rw [← ho], by rw [← ho] <;> rfl⟩ fun b x hx => Heap.get?_push_of_some _ (Heap.get?_push_of_some _ hx)⟩
/-- the tuple's items with their places, each in a new pair -/
def Itq (K : PySem.W.Frag) (a : Addr) : It where
  go := fun i H => ∃ (xs : List V) (x : V), SqT K H a xs ∧ xs[i]? = some x
  yld := fun i H v H2 => ∃ p x, v = .ref p ∧ H p = none ∧ H2 = upd H p (.tup [.int (i : Nat), x]) ∧ ∀ xs, SqT K H a xs → xs[i]? = some x
  stop := fun i H => ∃ xs : List V, SqT K H a xs ∧ xs.length ≤ i
theorem turn_q {P : Program} {w : World} {K : PySem.W.Frag} {el : List Expr} {kk : Nat} {tp : Pos} (a e it : Addr) :
    Turn P w K (.Tuple el kk tp) (Itq K a) [e, it] e (fun i h => (∃ old, IsEnum h e it ((i : Nat) : Int) old) ∧ h.IsTupleIter it a i ∧ e ≠ it) where
  mem := by simp
  obj := fun i h st b hb => by
    obtain ⟨⟨old, he⟩, ⟨o, ho, hc, hd⟩, _⟩ := st
    rcases List.mem_cons.mp hb with rfl | hb
    · exact ⟨_, he, fun v q => nomatch q⟩
    · obtain rfl : b = it := by simpa using hb
      exact ⟨o, ho, fun v q => by rw [hd] at q; cases q⟩
  keep := fun i h h2 st k => by
    obtain ⟨⟨old, he⟩, hi, hne⟩ := st
    exact ⟨⟨old, k e (by simp) _ he⟩, hi.at fun o q => k it (by simp) o q, hne⟩
  item := by
    intro X hP hw hK hc i pins s σ H E I hf st hg
    subst hP hw hK
    obtain ⟨⟨old, he⟩, hit, hne⟩ := st
    obtain ⟨xs, x, hq, hx⟩ := hg
    obtain ⟨its, rv, ⟨ot, hot, hoc, hod⟩, hz⟩ := I.tuple hq
    obtain ⟨u, hu, ru⟩ := rv.get hx
    have hel : e < s.heap.objs.size := Heap.lt_size he
    have hil : it < s.heap.objs.size := by obtain ⟨_, q, _⟩ := hit; exact Heap.lt_size q
    have hai : a ≠ it := by
      rintro rfl
      obtain ⟨o2, q, qc, _⟩ := hit
      rw [hot] at q
      cases q
      rw [hoc] at qc
      exact absurd qc (by decide)
    have hea : e ≠ a := by
      rintro rfl
      rw [he] at hot
      cases hot
      exact absurd hoc (show ¬(Value.type "enumerate" = Value.type "tuple") by decide)
    have hT : s.heap.IsTuple a its.toArray := ⟨ot, hot, hoc, hod⟩
    have hin : i < its.toArray.size := by
      have := (List.getElem?_eq_some_iff.mp hu).1
      simpa using this
    refine wpAny_pyNext_enum_itemD (Draws.tuple (A := X.A.in1) (I.ok.hd hc) it a hai its.toArray) he ⟨hit, hT⟩ hin hne (by simp; exact ⟨hne, hea⟩) fun z h1 tk hz1 ho hst hTn hsz hk => ?_
    have ezu : z = u := by
      have q : its[i]? = some z := by simpa using hz1
      rw [hu] at q
      exact (Option.some.inj q).symm
    subst ezu
    refine ⟨_, rfl, wpAny_letOwnedTupleGo_enum (s := { s with heap := h1, toks := tk + 1 }) ho fun h2 he2 sb => ?_⟩
    have hT2 : h2.get? s.heap.objs.size = some { cls := .type "tuple", data := .seq #[.int i tk, z] } := (sb.2 _ (Nat.ne_of_gt hel)).trans hTn
    have new : ObjOk X.prog X.w (upd H s.heap.objs.size (.tup [.int (i : Nat), x])) h2 s.heap.objs.size (.tup [.int (i : Nat), x]) :=
      ⟨by show 2 ≤ sizeLine; decide, [.int i tk, z], .cons ⟨_, rfl⟩ (.cons ru .nil), ⟨_, hT2, rfl, _, rfl⟩⟩
    have I1 : Inv X pins σ (upd H s.heap.objs.size (.tup [.int (i : Nat), x])) { s with heap := h2, toks := tk + 1 } :=
      I.turnedNew (ch := [e, it]) (fun b ob hb q => (sb.2 b (fun z => hb (by simp [z]))).trans (hk b ob (fun z => hb (by simp [z])) (fun z => hb (by simp [z])) q)) hf (Nat.le_refl _) new
    refine ⟨.ref s.heap.objs.size, _, I1, rfl, ⟨_, x, rfl, I.hok.fresh (Nat.le_refl _), rfl, fun ys hy => by rw [I.tuple_inj hy hq]; exact hx⟩, ⟨⟨z, ?_⟩, hst.1.at fun o q => (sb.2 it (Ne.symm hne)).trans q, hne⟩, fun b hb => ?_⟩
    · have e1 : ((i + 1 : Nat) : Int) = (i : Int) + 1 := by omega
      rw [e1]
      exact he2
    · have hlt : b < s.heap.objs.size := by
        rcases List.mem_cons.mp hb with rfl | hb
        · exact hel
        · obtain rfl : b = it := by simpa using hb
          exact hil
      rw [upd_ne (Nat.ne_of_lt hlt)]
      exact (hf b hb).1
  done := by
    intro X hP hw hK hc i pins s σ H E I hf st hg
    subst hP hw hK
    obtain ⟨⟨old, he⟩, hit, hne⟩ := st
    obtain ⟨xs, hq, hx⟩ := hg
    obtain ⟨its, rv, ⟨ot, hot, hoc, hod⟩, hz⟩ := I.tuple hq
    obtain ⟨f0, f1, f2, f3, f4, f5⟩ := hf it (by simp)
    have hT : s.heap.IsTuple a its.toArray := ⟨ot, hot, hoc, hod⟩
    have hT0 : s.TypeIs (.ref e) "enumerate" := ⟨_, he, rfl⟩
    have hl := rv.length
    unfold pyNext
    refine wpAny_bind (wpAny_attempt (wpAny_callSpecial?_slot (name := Str.ofString "__next__") hT0 F.slot_enumerate_next (wpAny_call_entry F.slot_enumerate_next hT0 F.entry_enumerate_next ?_ (F.args_enumerate_next_1 _))))
    show wpAny _ _ (field (.ref e) 2 >>= _) _ _ _
    refine wpAny_bind (wpAny_field he rfl (x := .ref it) rfl ?_)
    refine wpAny_bind (wpAny_nextOf_tuple_end (I.ok.hd hc) hit hT (by simp; omega) fun h2 y heb hy => ?_)
    obtain ⟨o, ho, hoc2⟩ := hy
    refine wpAny_bind (wpAny_isInstance (T := "StopIteration") (b := true) ⟨o, ho, hoc2⟩ isSubtype_stop ?_)
    exact wpAny_pure ⟨rfl, I.turned (t' := s.toks) (fun b o hb q => heb b o hb q) f0 f1 f3 f4 f5⟩
  self := fun Ar i st Qn Ex hst h => by
    obtain ⟨⟨_, he⟩, _⟩ := hst
    exact wpAny_pyIter_enum he h
def iEnq (K : PySem.W.Frag) (ta : TA) : TI := fun σ H R => ta σ H fun vs H1 => ∃ a xs, vs = [.ref a] ∧ SqT K H1 a xs ∧ R (Itq K a) H1
theorem pi_enq {X : Cx} {e : Expr} {ta : TA} {p pos tp : Pos} {el : List Expr} {kk : Nat} (hg : Gl X "enumerate") (hm : X.mg "enumerate" = none) (ha : PA X [e] ta) (hs : starEach [e] X.env = [(false, eval e X.env)]) :
    PI X (.Tuple el kk tp) (.Call (.Name "enumerate" p) [e] [] pos) (iEnq X.K ta) := by
  refine ⟨fun pins s σ H R I h => ?_⟩
  refine Call_ (ld_blt I hg hm boot_enumerate (PyProof.Rows.callWith_type1 (thn (ha.run pos pins s σ H _ I h) fun us s1 ⟨vs, H1, I1, r1, q1⟩ => ?_) hs rfl))
  obtain ⟨a, xs, rfl, hq, q⟩ := q1
  cases r1 with
  | cons r rr =>
    cases rr
    cases r
    obtain ⟨its, rv, ⟨ot, hot, hoc, hod⟩, hz⟩ := I1.tuple hq
    refine call_enumT (its := its.toArray) ⟨ot, hot, hoc, hod⟩ fun h2 he hit hk => wpAny_pyIter_enum he ?_
    have I2 : Inv X pins σ H1 { s1 with heap := h2 } := I1.kept (t' := s1.toks) hk
    refine ⟨s1.heap.objs.size + 1, [s1.heap.objs.size + 1, s1.heap.objs.size], _, _, H1, rfl, I2, turn_q a (s1.heap.objs.size + 1) s1.heap.objs.size, ⟨⟨.none, he⟩, hit, Nat.succ_ne_self _⟩, fun b hb => ?_, q⟩
    have hle : s1.heap.objs.size ≤ b := by
      rcases List.mem_cons.mp hb with rfl | hb
      · exact Nat.le_add_right _ _
      · obtain rfl : b = s1.heap.objs.size := by simpa using hb
        exact Nat.le_refl _
    exact I1.fpOk hle (I1.hok.fresh hle)
end Z

namespace Z
open PySem L2
section
variable {X : Cx} {ca : Nat → Addr} {W : WX} {fa : Nat → Addr} {fd : Nat → FuncData} {L : Lk} {sc : Scope} {E : EM} {tg : Expr}

def RS1 (X : Cx) (ca : Nat → Addr) (φ0 : List Addr) (H0 : Hp) (src : Sc) (J : It) : Prop := ∀ φ H st i, Ext φ0 H0 φ H → SR X.K ca φ st H →
  (getI st src i = some none → J.stop i H) ∧ ∀ v, getI st src i = some (some v) → J.go i H ∧ ∀ x H', J.yld i H x H' → Ext φ H φ H' ∧ SR X.K ca φ st H' ∧ Rv X.K φ H' v x
abbrev tI (X : Cx) (ca : Nat → Addr) (W : WX) (m : Sl → M Sc) : TI := tR (RS1 X ca) X ca W m
theorem piW {e : Expr} {t t' : TI} (h : PI X tg e t) (k : ∀ σ H Q, t' σ H Q → t σ H Q) : PI X tg e t' := ⟨fun pins s σ H R I q => h.run pins s σ H R I (k _ _ _ q)⟩
theorem pi_no {e : Expr} {t : TI} (k : ∀ σ H Q, ¬t σ H Q) : PI X tg e t := ⟨fun _ _ _ _ _ _ q => (k _ _ _ q).elim⟩
theorem src_tup {φ : List Addr} {H : Hp} {a : Addr} {l : List PV} {xs : List V} (q : SqT X.K H a xs) (r : RvL X.K φ H l xs) : RS1 X ca φ H (.items l) (Itt X.K a) := fun φ1 H1 st i e rs => by
  have q1 := SqT.ext e q
  have r1 := RvL.ext e r
  refine ⟨fun h => ⟨xs, q1, r1.get_none (Option.some.inj h)⟩, fun v h => ?_⟩
  obtain ⟨x, h1, h2⟩ := r1.get (i := i) (v := v) (Option.some.inj h)
  refine ⟨⟨xs, x, q1, h1⟩, fun y H' hy => ?_⟩
  obtain ⟨rfl, hy⟩ := hy
  have e2 := hy xs q1
  rw [h1] at e2
  cases e2
  exact ⟨.refl, rs, h2⟩
theorem src_live {φ : List Addr} {H : Hp} {a : Addr} {n : Nat} (h : φ[n]? = some a) : RS1 X ca φ H (.live n) (Itl X.K a) := fun φ1 H1 st i e rs => by
  have ha := e.get h
  simp only [getI]
  cases hl : lstOf st n with
  | none => exact ⟨fun h => (by cases h), fun v h => (by cases h)⟩
  | some l =>
    obtain ⟨xs, q, r⟩ := rs.list ha hl
    simp only [Option.map_some, Option.some.injEq]
    refine ⟨fun h => ⟨xs, q, r.get_none h⟩, fun v h => ?_⟩
    obtain ⟨x, h1, h2⟩ := r.get (i := i) (v := v) h
    refine ⟨⟨xs, x, q, h1⟩, fun y H' hy => ?_⟩
    obtain ⟨rfl, hy⟩ := hy
    have e2 := hy xs q
    rw [h1] at e2
    cases e2
    exact ⟨.refl, rs, h2⟩
theorem pair_rel {φ : List Addr} {H : Hp} {st : Store} {p : Addr} {i : Nat} {v : PV} {x : V} (rs : SR X.K ca φ st H) (hp : H p = none) (r : Rv X.K φ H v x) :
    Ext φ H φ (upd H p (.tup [.int (i : Nat), x])) ∧ SR X.K ca φ st (upd H p (.tup [.int (i : Nat), x])) ∧ Rv X.K φ (upd H p (.tup [.int (i : Nat), x])) (.tup [.int (i : Int), v]) (.ref p) :=
  ⟨ext_new hp, rs.new hp, .tup (SqT.of upd_same) (.cons (.int _) (.cons (r.ext (ext_new hp)) .nil))⟩
theorem src_liveE {φ : List Addr} {H : Hp} {a : Addr} {n : Nat} (h : φ[n]? = some a) : RS1 X ca φ H (.liveE n) (Ite X.K a) := fun φ1 H1 st i e rs => by
  have ha := e.get h
  simp only [getI]
  cases hl : lstOf st n with
  | none => exact ⟨fun h => (by cases h), fun v h => (by cases h)⟩
  | some l =>
    obtain ⟨xs, q, r⟩ := rs.list ha hl
    simp only [Option.map_some]
    cases hi : l[i]? with
    | none => exact ⟨fun h => ⟨xs, q, r.get_none hi⟩, fun v h => (by cases h)⟩
    | some w =>
      refine ⟨fun h => (by cases h), fun v h => ?_⟩
      cases h
      obtain ⟨x, h1, h2⟩ := r.get hi
      refine ⟨⟨xs, x, q, h1⟩, fun y H' hy => ?_⟩
      obtain ⟨p, x2, rfl, hp, rfl, hy⟩ := hy
      have e2 := hy xs q
      rw [h1] at e2
      cases e2
      exact pair_rel rs hp h2
theorem enumL_get : ∀ (l : List PV) (k i : Nat), (enumL k l)[i]? = (l[i]?).map fun v => .tup [.int ((k + i : Nat) : Int), v]
  | [], _, _ => by simp [enumL]
  | v :: r, k, 0 => by simp [enumL]
  | v :: r, k, i + 1 => by
    have ih := enumL_get r (k + 1) i
    simp only [enumL, List.getElem?_cons_succ]
    rw [ih, show k + 1 + i = k + (i + 1) by omega]
theorem src_enq {φ : List Addr} {H : Hp} {a : Addr} {l : List PV} {xs : List V} (q : SqT X.K H a xs) (r : RvL X.K φ H l xs) : RS1 X ca φ H (.items (enumL 0 l)) (Itq X.K a) := fun φ1 H1 st i e rs => by
  have q1 := SqT.ext e q
  have r1 := RvL.ext e r
  simp only [getI]
  rw [enumL_get, Nat.zero_add]
  cases hi : l[i]? with
  | none => exact ⟨fun h => ⟨xs, q1, r1.get_none hi⟩, fun v h => (by cases h)⟩
  | some w =>
    refine ⟨fun h => (by cases h), fun v h => ?_⟩
    cases h
    obtain ⟨x, h1, h2⟩ := r1.get hi
    refine ⟨⟨xs, x, q1, h1⟩, fun y H' hy => ?_⟩
    obtain ⟨p, x2, rfl, hp, rfl, hy⟩ := hy
    have e2 := hy xs q1
    rw [h1] at e2
    cases e2
    exact pair_rel rs hp h2
theorem rangeL_get : ∀ (n : Nat) (lo : Int) (i : Nat), (rangeL n lo)[i]? = if i < n then some (.int (lo + i)) else none
  | 0, lo, i => by simp [rangeL]
  | n + 1, lo, 0 => by simp [rangeL]
  | n + 1, lo, i + 1 => by
    have ih := rangeL_get n (lo + 1) i
    simp only [rangeL, List.getElem?_cons_succ]
    rw [ih]
    by_cases h : i < n
    · rw [if_pos h, if_pos (by omega), show lo + 1 + (i : Int) = lo + ((i + 1 : Nat) : Int) by omega]
    · rw [if_neg h, if_neg (by omega)]
theorem src_range {φ : List Addr} {H : Hp} {n : Nat} {lo : Int} : RS1 X ca φ H (.items (rangeL n lo)) (Itr lo n) := fun φ1 H1 st i e rs => by
  simp only [getI]
  rw [rangeL_get]
  by_cases h : i < n
  · rw [if_pos h]
    refine ⟨fun h => (by cases h), fun v hv => ?_⟩
    cases hv
    refine ⟨h, fun y H' hy => ?_⟩
    obtain ⟨rfl, rfl⟩ := hy
    exact ⟨.refl, rs, .int _⟩
  · rw [if_neg h]
    exact ⟨fun _ => Nat.le_of_not_lt h, fun v hv => (by cases hv)⟩
theorem key_kv {φ : List Addr} {H : Hp} (k : Key) : Rv X.K φ H (keyP k) (kV k) := by
  cases k with
  | inl i => exact .int i
  | inr x => exact .str x
theorem Rk.get {κ : Type} {φ : List Addr} {H : Hp} : ∀ {l : List (κ × PV)} {ks : List (κ × V)} {i : Nat}, Rk X.K φ H l ks → (l[i]? = none → ks.length ≤ i) ∧ ∀ p, l[i]? = some p → ∃ x, ks[i]? = some (p.1, x)
  | [], _, i, .nil => And.intro (fun _ => Nat.zero_le _) (fun p h => by simp at h)
  | (k, v) :: l, _, 0, .cons r t => And.intro (fun h => by simp at h) (fun p h => by
      simp only [List.getElem?_cons_zero, Option.some.injEq] at h
      subst h
      exact ⟨_, rfl⟩)
  | (k, v) :: l, _, i + 1, .cons r t => by
    obtain ⟨h1, h2⟩ := Rk.get (i := i) t
    refine ⟨fun h => ?_, fun p h => ?_⟩
    · have := h1 (by simpa using h)
      simpa using this
    · obtain ⟨x, e⟩ := h2 p (by simpa using h)
      exact ⟨x, by simpa using e⟩
theorem src_keys {φ : List Addr} {H : Hp} {a : Addr} {n : Nat} {o : Obj} {kvs : List (Key × V)} (h : φ[n]? = some a) (q : H a = some (.frz o (.dK kvs))) : RS1 X ca φ H (.keys n) (Itk a o kvs) := fun φ1 H1 st i e rs => by
  have ha := e.get h
  have q1 := e.frz _ _ _ q
  simp only [getI]
  cases hl : st[n]? with
  | none => exact ⟨fun h => (by cases h), fun v h => (by cases h)⟩
  | some ob =>
    cases ob with
    | rod l =>
      obtain ⟨ks, ⟨o', z⟩, r⟩ := rs.at ha hl
      rw [q1] at z
      cases z
      obtain ⟨h1, h2⟩ := Rk.get (i := i) r
      simp only [Option.some.injEq]
      refine ⟨fun h => ⟨q1, h1 (by simpa using h)⟩, fun v h => ?_⟩
      obtain ⟨p, e1, e2⟩ := Option.map_eq_some_iff.mp h
      obtain ⟨x, e3⟩ := h2 p e1
      refine ⟨⟨q1, (List.getElem?_eq_some_iff.mp e3).1⟩, fun y H' hy => ?_⟩
      obtain ⟨rfl, k, w, e4, rfl⟩ := hy
      rw [e3] at e4
      cases e4
      subst e2
      exact ⟨.refl, rs, key_kv _⟩
    | _ => exact ⟨fun h => (by cases h), fun v h => (by cases h)⟩
/-- a dict's keys; it is locked from here on -/
theorem pi_keysL {e : Expr} {td : TE} (he : PE X e td) : PI X tg e (fun σ H R => td σ H fun x H1 => ∃ d kvs, x = .ref d ∧ ((∃ o, H1 d = some (.frz o (.dK kvs)) ∧ R (Itk d o kvs) H1) ∨ (H1 d = some (.dK kvs) ∧ ∀ o, R (Itk d o kvs) (upd H1 d (.frz o (.dK kvs)))))) := by
  refine ⟨fun pins s σ H R I h => ?_⟩
  refine thn (he.run pins s σ H _ I h) fun u s1 ⟨x, H1, I1, rx, d, kvs, ex, q⟩ => ?_
  subst ex
  obtain rfl : u = Value.ref d := rx
  rcases q with ⟨o, hd, q⟩ | ⟨hd, q⟩
  · obtain ⟨hs, hgd, hx, es, ep, vs, hdt, hsz, kv, hm⟩ := I1.frzK hd
    refine iter_keys hs hgd hx hdt (pi_one (tk := s1.toks) I1 _ (turn_keys _ hdt) ⟨_, Heap.get?_push_size _ rfl, rfl, ?_⟩ q)
    rw [hsz] <;> rfl
  · obtain ⟨o, I2⟩ := I1.lock hd trivial
    have hd2 : upd H1 d (.frz o (.dK kvs)) d = some (.frz o (.dK kvs)) := upd_same
    obtain ⟨hs, hgd, hx, es, ep, vs, hdt, hsz, kv, hm⟩ := I2.frzK hd2
    refine iter_keys hs hgd hx hdt (pi_one (tk := s1.toks) I2 _ (turn_keys _ hdt) ⟨_, Heap.get?_push_size _ rfl, rfl, ?_⟩ (q o))
    rw [hsz] <;> rfl
/-- a value that is walked -/
theorem ok_walk (hE : ∀ e, PE X e (tE X ca W (E e))) (e : Expr) : PI X tg e (tI X ca W (fun ρ => bnd (E e ρ) walkP)) := by
  refine ⟨fun pins s σ H R I ⟨φ, st, ρ, rs, rl, o⟩ => ?_⟩
  dsimp only at o
  unfold bnd at o
  cases hz : E e ρ st with
  | bad => rw [hz] at o; exact False.elim o
  | exc kx fs st2 =>
    rw [hz] at o
    refine (pi_list (hE e)).run pins s σ H R I ⟨φ, st, ρ, rs, rl, ?_⟩
    rw [hz]
    exact o
  | ok v st' =>
    rw [hz] at o
    try dsimp only at o
    cases v with
    | tup l =>
      refine (pi_tup (hE e)).run pins s σ H R I ⟨φ, st, ρ, rs, rl, ?_⟩
      rw [hz]
      intro φ2 H2 u e2 rs2 rv
      cases rv with
      | tup q ra => exact ⟨_, rfl, ⟨_, q⟩, o φ2 H2 _ e2 rs2 (src_tup q ra)⟩
    | ref n =>
      unfold walkP at o
      try dsimp only at o
      cases hl : lstOf st' n with
      | some l =>
        rw [hl] at o
        refine (pi_list (hE e)).run pins s σ H R I ⟨φ, st, ρ, rs, rl, ?_⟩
        rw [hz]
        intro φ2 H2 u e2 rs2 rv
        cases rv with
        | @ref _ a ha =>
          obtain ⟨xs, q, r⟩ := rs2.list ha hl
          exact ⟨a, rfl, ⟨xs, q⟩, o φ2 H2 _ e2 rs2 (src_live ha)⟩
      | none =>
        rw [hl] at o
        try dsimp only at o
        refine (pi_keysL (hE e)).run pins s σ H R I ⟨φ, st, ρ, rs, rl, ?_⟩
        rw [hz]
        intro φ2 H2 u e2 rs2 rv
        cases rv with
        | @ref _ a ha =>
          cases hb : st'[n]? with
          | none => rw [hb] at o; exact False.elim o
          | some ob =>
            rw [hb] at o
            cases ob with
            | dct l =>
              obtain ⟨ks, q, r⟩ := rs2.at ha hb
              have mu : Mut (H2 a) := by rw [q]; trivial
              refine ⟨a, ks, rfl, .inr ⟨q, fun oo => ?_⟩⟩
              have ex : Ext φ2 H2 φ2 (upd H2 a (.frz oo (.dK ks))) := ext_set mu
              exact o φ2 _ _ (e2.trans ex) (rs2.put ha hb rfl ⟨ks, ⟨oo, upd_same⟩, r.ext ex⟩) (src_keys (ex.get ha) upd_same)
            | rod l =>
              obtain ⟨ks, ⟨oo, q⟩, r⟩ := rs2.at ha hb
              exact ⟨a, ks, rfl, .inl ⟨oo, q, o φ2 H2 _ e2 rs2 (src_keys ha q)⟩⟩
            | _ => exact False.elim o
    | _ => exact False.elim o
theorem star1 {a : Expr} {env : Env} (h : noStar a = true) : starEach [a] env = [(false, eval a env)] := star_no [] env h
theorem args_no {a : Expr} {as : List Expr} {ρ : Sl} (h : ¬noStar a = true) : argsP E (a :: as) ρ = stop := by
  unfold argsP
  rw [if_neg]
  intro q
  simp only [List.all_cons, Bool.and_eq_true] at q
  exact h q.1
theorem ok_enum (c : Ct ca fa fd L sc X W) (hE : ∀ e, PE X e (tE X ca W (E e))) {a : Expr} {p pos : Pos} (hg : globB sc "enumerate" = true) (ht : isTupE tg = true) :
    PI X tg (.Call (.Name "enumerate" p) [a] [] pos) (tI X ca W (fun ρ => bnd (argsP E [a] ρ) fun vs => match vs with
      | [v] => enumP v
      | _ => stop)) := by
  cases tg with
  | Tuple el kk tp =>
    obtain ⟨gl, gd⟩ := c.gl _ hg
    by_cases hs : noStar a = true
    · refine ⟨fun pins s σ H R I ⟨φ, st, ρ, rs, rl, o⟩ => ?_⟩
      dsimp only at o
      unfold bnd at o
      cases hz : argsP E [a] ρ st with
      | bad => rw [hz] at o; exact False.elim o
      | exc kx fs st2 =>
        rw [hz] at o
        refine (pi_enum gl (c.glob.non _ (by rfl)) (ok_args hE [a]) (star1 hs)).run pins s σ H R I ⟨φ, st, ρ, rs, rl, ?_⟩
        rw [hz]
        exact o
      | ok vs st' =>
        rw [hz] at o
        try dsimp only at o
        split at o
        · rename_i v
          cases v with
          | tup l =>
            refine (pi_enq gl (c.glob.non _ (by rfl)) (ok_args hE [a]) (star1 hs)).run pins s σ H R I ⟨φ, st, ρ, rs, rl, ?_⟩
            rw [hz]
            intro φ2 H2 us e2 rs2 rv
            obtain ⟨x, rfl, rx⟩ := RvL.one_inv rv
            cases rx with
            | tup q ra => exact ⟨_, _, rfl, q, o φ2 H2 _ e2 rs2 (src_enq q ra)⟩
          | ref n =>
            refine (pi_enum gl (c.glob.non _ (by rfl)) (ok_args hE [a]) (star1 hs)).run pins s σ H R I ⟨φ, st, ρ, rs, rl, ?_⟩
            rw [hz]
            intro φ2 H2 us e2 rs2 rv
            obtain ⟨x, rfl, rx⟩ := RvL.one_inv rv
            cases rx with
            | @ref _ ad ha =>
              unfold enumP at o
              try dsimp only at o
              split at o
              · rename_i l hl
                obtain ⟨xs, q, r⟩ := rs2.list ha hl
                exact ⟨ad, xs, rfl, q, o φ2 H2 _ e2 rs2 (src_liveE ha)⟩
              · exact False.elim o
          | _ => exact False.elim o
        · exact False.elim o
    · exact pi_no (tR_no fun ρ => by rw [args_no hs] <;> rfl)
  | _ => cases ht
theorem inRange_iff {i : Int} : inRange i = true ↔ -(2 ^ 62) ≤ i ∧ i < 2 ^ 62 := by
  unfold inRange
  simp only [Bool.and_eq_true, decide_eq_true_eq]
theorem ok_range1 (c : Ct ca fa fd L sc X W) (hE : ∀ e, PE X e (tE X ca W (E e))) {a : Expr} {p pos : Pos} (hg : globB sc "range" = true) :
    PI X tg (.Call (.Name "range" p) [a] [] pos) (tI X ca W (fun ρ => bnd (argsP E [a] ρ) fun vs => match vs with
      | [.int n] => if inRange n = true then ret (.items (rangeL n.toNat 0)) else stop
      | _ => stop)) := by
  obtain ⟨gl, gd⟩ := c.gl _ hg
  by_cases hs : noStar a = true
  · refine piW (pi_range1 gl (c.glob.non _ (by rfl)) (ok_args hE [a]) (star1 hs)) fun σ H Q ⟨φ, st, ρ, rs, rl, o⟩ => ?_
    refine tR_seq rs rl o fun xs H1 φ1 st1 vs e1 rs1 rl1 rv o1 => ?_
    split at o1
    · rename_i n
      obtain ⟨x, rfl, rx⟩ := RvL.one_inv rv
      cases rx
      by_cases hr : inRange n = true
      · rw [if_pos hr] at o1
        obtain ⟨h1, h2⟩ := inRange_iff.mp hr
        exact ⟨n, rfl, h1, h2, Out.ret o1 rs1 src_range⟩
      · rw [if_neg hr] at o1
        exact False.elim o1
    · exact False.elim o1
  · exact pi_no (tR_no fun ρ => by rw [args_no hs] <;> rfl)
theorem ok_range2 (c : Ct ca fa fd L sc X W) (hE : ∀ e, PE X e (tE X ca W (E e))) {a b : Expr} {p pos : Pos} (hg : globB sc "range" = true) :
    PI X tg (.Call (.Name "range" p) [a, b] [] pos) (tI X ca W (fun ρ => bnd (argsP E [a, b] ρ) fun vs => match vs with
      | [.int i, .int j] => if (inRange i && inRange j) = true then ret (.items (rangeL (j - i).toNat i)) else stop
      | _ => stop)) := by
  obtain ⟨gl, gd⟩ := c.gl _ hg
  by_cases hs : [a, b].all noStar = true
  · have hs' := hs
    simp only [List.all_cons, Bool.and_eq_true] at hs'
    refine piW (pi_range2 gl (c.glob.non _ (by rfl)) (ok_args hE [a, b]) (by rw [star_no _ _ hs'.1, star1 hs'.2.1]) (star1 hs'.2.1)) fun σ H Q ⟨φ, st, ρ, rs, rl, o⟩ => ?_
    refine tR_seq rs rl o fun xs H1 φ1 st1 vs e1 rs1 rl1 rv o1 => ?_
    split at o1
    · rename_i i j
      obtain ⟨x, y, rfl, rx, ry⟩ := RvL.two_inv rv
      cases rx
      cases ry
      by_cases hr : (inRange i && inRange j) = true
      · rw [if_pos hr] at o1
        have hr' := Bool.and_eq_true_iff.mp hr
        obtain ⟨h1, h2⟩ := inRange_iff.mp hr'.1
        obtain ⟨h3, h4⟩ := inRange_iff.mp hr'.2
        exact ⟨i, j, rfl, ⟨h1, h2, h3, h4⟩, Out.ret o1 rs1 src_range⟩
      · rw [if_neg hr] at o1
        exact False.elim o1
    · exact False.elim o1
  · exact pi_no (tR_no fun ρ => by rw [all_star hs] <;> rfl)
theorem ok_src (c : Ct ca fa fd L sc X W) (hE : ∀ e, PE X e (tE X ca W (E e))) (iter : Expr) : PI X tg iter (tI X ca W (srcP E sc tg iter)) := by
  unfold srcP
  split
  · rename_i f p a pos
    by_cases h1 : f = "range" ∧ globB sc f = true
    · simp only [if_pos h1]
      obtain ⟨rfl, hg⟩ := h1
      exact ok_range1 c hE hg
    · simp only [if_neg h1]
      by_cases h2 : f = "enumerate" ∧ globB sc f = true
      · simp only [if_pos h2]
        obtain ⟨rfl, hg⟩ := h2
        by_cases h3 : isTupE tg = true
        · simp only [if_pos h3]
          exact ok_enum c hE hg h3
        · simp only [if_neg h3]
          exact pi_no (tR_no fun _ => rfl)
      · simp only [if_neg h2]
        exact ok_walk hE _
  · rename_i f p a b pos
    by_cases h1 : f = "range" ∧ globB sc f = true
    · simp only [if_pos h1]
      obtain ⟨rfl, hg⟩ := h1
      exact ok_range2 c hE hg
    · simp only [if_neg h1]
      exact ok_walk hE _
  · exact ok_walk hE _
  · exact ok_walk hE _
  · exact ok_walk hE _
  · exact ok_walk hE _
  · exact ok_walk hE _
  · exact ok_walk hE _
  · exact pi_no (tR_no fun _ => rfl)

/-- a slot that a target may write -/
def Tch (N : List Str) (sc : Scope) (i : Nat) : Prop := ∃ y, locB sc y = true ∧ slotOf N y = some i
def tG (X : Cx) (ca : Nat → Addr) (N : List Str) (sc : Scope) (tg : Expr) : TG := fun x σ H Q => ∃ φ ρ v ρ', RL X.K φ H ρ σ ∧ Rv X.K φ H v x ∧ asgP N sc tg v ρ = some ρ' ∧
  ∀ σ', RL X.K φ H ρ' σ' → (∀ vs : List Nat, (∀ i, Tch N sc i → i ∈ vs) → L2.wipe σ' vs = L2.wipe σ vs) → Q σ' H
theorem pg_no {t : TG} (k : ∀ x σ H Q, ¬t x σ H Q) : PG X tg t := ⟨fun _ _ _ _ _ _ _ _ _ q => (k _ _ _ _ q).elim⟩
theorem pgW {t t' : TG} (h : PG X tg t) (k : ∀ x σ H Q, t' x σ H Q → t x σ H Q) : PG X tg t' := ⟨fun pins s σ H v u Q I r q => h.run pins s σ H v u Q I r (k _ _ _ _ q)⟩
theorem wipe_set {σ : St} {i : Nat} {y : Option V} : ∀ {vs : List Nat}, i ∈ vs → L2.wipe (σ.set i y) vs = L2.wipe σ vs
  | v :: r, h => by
    show (L2.wipe (σ.set i y) r).set v none = (L2.wipe σ r).set v none
    by_cases hr : i ∈ r
    · rw [wipe_set hr]
    · have e : i = v := by
        rcases List.mem_cons.mp h with e | e
        · exact e
        · exact absurd e hr
      subst e
      have z : ∀ (l : List Nat) (j : Nat), L2.wipe (σ.set j y) l = (L2.wipe σ l) ∨ L2.wipe (σ.set j y) l = (L2.wipe σ l).set j y := fun l j => by
        induction l with
        | nil => exact .inr rfl
        | cons w l ih =>
          show (L2.wipe (σ.set j y) l).set w none = (L2.wipe σ l).set w none ∨ (L2.wipe (σ.set j y) l).set w none = ((L2.wipe σ l).set w none).set j y
          rcases ih with ih | ih
          · exact .inl (by rw [ih])
          · by_cases hw : w = j
            · subst hw
              exact .inl (by rw [ih, List.set_set])
            · exact .inr (by rw [ih, List.set_comm _ _ (Ne.symm hw)])
      rcases z r i with q | q
      · rw [q]
      · rw [q, List.set_set]
def tGt (X : Cx) (ca : Nat → Addr) (N : List Str) (sc : Scope) (t : Tgt) : TG := fun x σ H Q => ∃ φ ρ v ρ', RL X.K φ H ρ σ ∧ Rv X.K φ H v x ∧ t.run v ρ = some ρ' ∧
  ∀ σ', RL X.K φ H ρ' σ' → (∀ vs : List Nat, (∀ i, Tch N sc i → i ∈ vs) → L2.wipe σ' vs = L2.wipe σ vs) → Q σ' H
def tGl (X : Cx) (ca : Nat → Addr) (N : List Str) (sc : Scope) (t : List Tgt) : TGs := fun x σ H Q => ∃ φ ρ v ρ', RL X.K φ H ρ σ ∧ RvL X.K φ H v x ∧ Tgt.runL t v ρ = some ρ' ∧
  ∀ σ', RL X.K φ H ρ' σ' → (∀ vs : List Nat, (∀ i, Tch N sc i → i ∈ vs) → L2.wipe σ' vs = L2.wipe σ vs) → Q σ' H
theorem pgsW {es : List Expr} {t t' : TGs} (h : PGs X es t) (k : ∀ x σ H Q, t' x σ H Q → t x σ H Q) : PGs X es t' := ⟨fun pins s σ H v u Q I r q => h.run pins s σ H v u Q I r (k _ _ _ _ q)⟩
def NoSt (e : Expr) : Prop := ∀ r env, assignEach (e :: r) env = (false, assign e env) :: assignEach r env
theorem nost_of {N : List Str} {sc : Scope} {n : Nat} {e : Expr} {t : Tgt} (h : tgO N sc n e = some t) : NoSt e := by
  cases n with
  | zero => cases h
  | succ n =>
    unfold tgO at h
    cases e with
    | Name x p => exact fun r env => rfl
    | Tuple es k p => exact fun r env => rfl
    | _ => cases h
theorem ok_tgL (c : Ct ca fa fd L sc X W) {f : Expr → Option Tgt} (hf : ∀ e t, f e = some t → NoSt e ∧ PG X e (tGt X ca L.N sc t)) : ∀ (es : List Expr) (l : List Tgt), tgL f es = some l → PGs X es (tGl X ca L.N sc l) ∧ (assignEach es X.env).length = l.length ∧ (assignEach es X.env).findIdx? (·.1) = none
  | [], l, h => by
    cases h
    refine ⟨pgsW pgs_nil fun xs σ H Q ⟨φ, ρ, v, ρ', rl, rv, ha, k⟩ => ?_, rfl, rfl⟩
    cases v with
    | nil => cases ha; cases rv; exact ⟨rfl, k σ rl fun _ _ => rfl⟩
    | cons _ _ => cases ha
  | e :: r, l, h => by
    unfold tgL at h
    cases h1 : f e with
    | none => rw [h1] at h; cases h
    | some t =>
      cases h2 : tgL f r with
      | none => rw [h1, h2] at h; cases h
      | some lr =>
        rw [h1, h2] at h
        cases h
        obtain ⟨ih, il, ifx⟩ := ok_tgL c hf r lr h2
        have ns := (hf e t h1).1 r X.env
        refine ⟨pgsW (pgs_cons (hf e t h1).2 ih (by rw [ns]; rfl)) fun xs σ H Q ⟨φ, ρ, v, ρ', rl, rv, ha, k⟩ => ?_, by rw [ns, List.length_cons, List.length_cons, il], by rw [ns, List.findIdx?_cons]; simp [ifx]⟩
        cases v with
        | nil => cases ha
        | cons v0 vr =>
          cases rv with
          | cons r0 rr =>
            unfold Tgt.runL at ha
            cases hr : t.run v0 ρ with
            | none => rw [hr] at ha; cases ha
            | some ρ1 =>
              rw [hr] at ha
              exact ⟨_, _, rfl, φ, ρ, v0, ρ1, rl, r0, hr, fun σ1 rl1 w1 => ⟨φ, ρ1, vr, ρ', rl1, rr, ha, fun σ2 rl2 w2 => k σ2 rl2 fun vs hv => (w2 vs hv).trans (w1 vs hv)⟩⟩
theorem ok_tgO (c : Ct ca fa fd L sc X W) : ∀ (n : Nat) (tg : Expr) (t : Tgt), tgO L.N sc n tg = some t → PG X tg (tGt X ca L.N sc t)
  | 0, _, _, h => by cases h
  | n + 1, tg, t, h => by
    unfold tgO at h
    cases tg with
    | Name x p =>
      dsimp only at h
      by_cases hl : locB sc x = true
      · rw [if_pos hl] at h
        cases hi : slotOf L.N x with
        | none => rw [hi] at h; cases h
        | some i =>
          rw [hi] at h
          cases h
          refine pgW (pg_name (by rw [c.N]; exact c.nd) (by rw [c.N]; exact slotOf_get hi) (c.loc x hl).1 (c.loc x hl).2) fun y σ H Q ⟨φ, ρ, v, ρ', rl, rv, ha, k⟩ => ?_
          unfold Tgt.run at ha
          cases ha
          exact k _ (rl.set i rv) fun vs hv => wipe_set (hv i ⟨x, hl, hi⟩)
      · rw [if_neg hl] at h
        cases h
    | Tuple es k p =>
      dsimp only at h
      cases hg : tgL (tgO L.N sc n) es with
      | none => rw [hg] at h; cases h
      | some l =>
        rw [hg] at h
        cases h
        obtain ⟨hp, hl, hx⟩ := ok_tgL c (fun e t he => ⟨nost_of he, ok_tgO c n e t he⟩) es l hg
        refine pgW (pg_tup (n := l.length) c.calm hp hl hx) fun z σ H Q ⟨φ, ρ, v, ρ', rl, rv, ha, k⟩ => ?_
        cases v with
        | tup vs =>
          cases rv with
          | tup q ra =>
            unfold Tgt.run at ha
            have hn : ∀ (l : List Tgt) (vs : List PV) (ρ ρ' : Sl), Tgt.runL l vs ρ = some ρ' → vs.length = l.length := by
              intro l
              induction l with
              | nil => intro vs ρ ρ' h; cases vs with
                | nil => rfl
                | cons _ _ => cases h
              | cons t r ih => intro vs ρ ρ' h; cases vs with
                | nil => cases h
                | cons v vr =>
                  unfold Tgt.runL at h
                  cases hr : t.run v ρ with
                  | none => rw [hr] at h; cases h
                  | some ρ1 =>
                    rw [hr] at h
                    rw [List.length_cons, List.length_cons, ih vr ρ1 ρ' h]
            exact ⟨_, _, rfl, q, by rw [← ra.len]; exact hn _ _ _ _ ha, φ, ρ, vs, ρ', rl, ra, ha, k⟩
        | _ => cases ha
    | _ => cases h
/-- a tuple of targets takes a list's items -/
theorem ok_tgU (c : Ct ca fa fd L sc X W) {es : List Expr} {k : Nat} {p : Pos} {t : Tgt} (h : tgO L.N sc 4 (.Tuple es k p) = some t) : PG X (.Tuple es k p) (fun x σ H Q => ∃ φ ρ l xs a ρ', x = .ref a ∧ RL X.K φ H ρ σ ∧ SqL X.K H a xs ∧ RvL X.K φ H l xs ∧ t.run (.tup l) ρ = some ρ' ∧
    ∀ σ', RL X.K φ H ρ' σ' → Q σ' H) := by
  unfold tgO at h
  dsimp only at h
  cases hg : tgL (tgO L.N sc 3) es with
  | none => rw [hg] at h; cases h
  | some l =>
    rw [hg] at h
    cases h
    obtain ⟨hp, hl, hx⟩ := ok_tgL c (fun e t he => ⟨nost_of he, ok_tgO c 3 e t he⟩) es l hg
    refine pgW (pg_unl (n := l.length) c.calm hp hl hx) fun z σ H Q ⟨φ, ρ, vs, xs, a, ρ', ez, rl, q, ra, ha, k⟩ => ?_
    unfold Tgt.run at ha
    have hn : vs.length = l.length := by
      refine Decidable.byContradiction fun hne => ?_
      rw [runL_len hne] at ha
      cases ha
    exact ⟨a, xs, ez, q, by rw [← ra.len]; exact hn, φ, ρ, vs, ρ', rl, ra, ha, fun σ' r _ => k σ' r⟩
theorem ok_tg (c : Ct ca fa fd L sc X W) (tg : Expr) : PG X tg (tG X ca L.N sc tg) := by
  cases h : tgO L.N sc 4 tg with
  | none =>
    refine pg_no fun x σ H Q ⟨φ, ρ, v, ρ', _, _, ha, _⟩ => ?_
    unfold asgP at ha
    rw [h] at ha
    cases ha
  | some t =>
    refine pgW (ok_tgO c 4 tg t h) fun x σ H Q ⟨φ, ρ, v, ρ', rl, rv, ha, k⟩ => ⟨φ, ρ, v, ρ', rl, rv, ?_, k⟩
    unfold asgP at ha
    rw [h] at ha
    exact ha
end
end Z

namespace Z
open PySem L2
section
variable {X : Cx} {ca : Nat → Addr} {W : WX} {fa : Nat → Addr} {fd : Nat → FuncData} {L : Lk} {sc : Scope} {E : EM} {tg : Expr}
theorem lookup_map {f : Str × NameKind → Str × NameKind} {g : Str → NameKind → NameKind} (hf : ∀ p, f p = (p.1, g p.1 p.2)) (x : Str) : ∀ l : List (Str × NameKind), (l.map f).lookup x = (l.lookup x).map (g x)
  | [] => rfl
  | (n, k) :: r => by
    rw [List.map_cons, hf, List.lookup_cons, List.lookup_cons]
    cases hx : x == n with
    | true =>
      have e : x = n := by simpa using hx
      subst e
      rfl
    | false => exact lookup_map hf x r
theorem lookup_relabel {scope : Scope} {env : Env} (x : Str) : (relabel scope env).names.lookup x = (scope.names.lookup x).map fun k => if (k == .free && env.scope.kind == .function && env.kindOf x == some .cell) = true then .cell else k :=
  lookup_map (g := fun x k => if (k == .free && env.scope.kind == .function && env.kindOf x == some .cell) = true then .cell else k) (fun p => by
    obtain ⟨n, k⟩ := p
    dsimp only
    split <;> rfl) x scope.names
/-- within a comprehension's block -/
theorem Ct.blk (c : Ct ca fa fd L sc X W) (scope : Scope) (s : Shared) (H : Hp) (C : Addr) (cl : List (Str × Addr)) (fp : List Addr) (xe : Value → Shared → Prop) (σ : L2.St) (tk : TakesF (blkX X s H scope (compEnvC scope cl C X.env) fp xe) (Wat W σ)) : Ct ca fa fd L scope (blkX X s H scope (compEnvC scope cl C X.env) fp xe) (Wat W σ) where
  N := c.N
  nd := c.nd
  nb := c.nb
  calm := c.calm
  takes := tk
  room := c.room
  un := c.un
  vis := fun x h => by
    show Vis (relabel scope X.env) x
    unfold Vis
    rw [lookup_relabel]
    unfold visB at h
    split at h
    · rename_i e; rw [e]; exact .inl rfl
    · rename_i e; rw [e]; exact .inr (.inl rfl)
    · rename_i e
      rw [e]
      simp only [Option.map_some]
      split
      · exact .inr (.inl rfl)
      · exact .inr (.inr rfl)
    · cases h
  loc := fun x h => by
    show L2.Loc (relabel scope X.env) x ∧ ((scope.names.lookup x == some .cell) = true ∨ (relabel scope X.env).names.lookup x = some .local)
    unfold L2.Loc
    rw [lookup_relabel]
    unfold locB at h
    split at h
    · rename_i e; rw [e]; exact ⟨.inl rfl, .inr rfl⟩
    · rename_i e; rw [e]; exact ⟨.inr rfl, .inl rfl⟩
    · cases h
  gl := fun x h => by
    show (relabel scope X.env).names.lookup x = some .globalImplicit ∧ _
    rw [lookup_relabel]
    unfold globB at h
    split at h
    · rename_i e
      rw [e]
      exact ⟨rfl, by simpa using h⟩
    · cases h
  blkf := fun x h => by
    show (relabel scope X.env).names.lookup x = some .cell ∨ (relabel scope X.env).names.lookup x = some .free
    rw [lookup_relabel]
    rcases h with h | h
    · rw [h]; exact .inl rfl
    · rw [h]
      simp only [Option.map_some]
      split
      · exact .inl rfl
      · exact .inr rfl
  glob := c.glob
theorem own_mem {N : List Str} {x : Str} {i : Nat} (hi : slotOf N x = some i) : ∀ {l : List (Str × NameKind)}, (l.lookup x = some .local ∨ l.lookup x = some .cell) → i ∈ (ownOf N l).map (·.2)
  | [], h => by rcases h with h | h <;> cases h
  | (y, k) :: r, h => by
    simp only [List.lookup_cons] at h
    cases hx : x == y with
    | true =>
      rw [hx] at h
      have e : x = y := by simpa using hx
      subst e
      rcases h with h | h
      · cases h
        simp [ownOf, hi]
      · cases h
        simp [ownOf, hi]
    | false =>
      rw [hx] at h
      have ih := own_mem hi (l := r) h
      cases k <;> simp only [ownOf] <;> first
        | exact ih
        | (split
           · exact List.mem_cons_of_mem _ ih
           · exact ih)
theorem tch_own {N : List Str} {scope : Scope} {i : Nat} (h : Tch N scope i) : i ∈ (ownOf N scope.names).map (·.2) := by
  obtain ⟨y, h1, h2⟩ := h
  refine own_mem h2 ?_
  unfold locB at h1
  split at h1
  · rename_i e; exact .inl e
  · rename_i e; exact .inr e
  · cases h1
theorem wipe_wipe {σ : St} {vs : List Nat} : ∀ {ws : List Nat}, (∀ i ∈ ws, i ∈ vs) → L2.wipe (L2.wipe σ ws) vs = L2.wipe σ vs
  | [], _ => rfl
  | w :: r, h => by
    show L2.wipe ((L2.wipe σ r).set w none) vs = _
    rw [wipe_set (h w (List.mem_cons_self ..))]
    exact wipe_wipe fun i hi => h i (List.mem_cons_of_mem _ hi)
theorem fold_no {iter : Expr} {env : Env} : (∀ x, foldedSetIterable iter env x = pure x) ∨ ∀ ρ, srcP E sc tg iter ρ = stop := by
  cases iter <;> first | exact .inl fun _ => rfl | exact .inr fun _ => rfl
theorem pts_tsts (c : Ct ca fa fd L sc X W) (hE : ∀ e, PE X e (tE X ca W (E e))) (ifs : List Expr) : PTs X ifs (tT X ca W (tstsP E ifs)) := by
  match ifs with
  | [] => exact ⟨fun pins s σ H Q I ⟨φ, st, ρ, rs, rl, o⟩ => pts_nil.run pins s σ H Q I (Out.ret o rs rfl)⟩
  | [cd] => exact pts_one (ok_tst c hE 20 cd)
  | _ :: _ :: _ => exact ⟨fun pins s σ H Q I h => (tR_no (fun _ => rfl) _ _ _ h).elim⟩
/-- a comprehension's reading, from the machine's run -/
theorem lc_read {E' : EM} {elt iter : Expr} {ifs : List Expr} {scope : Scope} {σ : St} {H : Hp} {Q : VK} (hb : blkC L.N sc scope (ownOf L.N scope.names) = true)
    (h : tE X ca W (fun ρ => if blkC L.N sc scope (ownOf L.N scope.names) = true then
        bnd (srcP E sc tg iter ρ) fun src s => lcP E' L.N scope tg elt ifs src s.length (wipeP ρ ((ownOf L.N scope.names).map (·.2))) (lenI s src + 1) 0 (s ++ [.lst []])
      else stop) σ H Q) : tLc (tI X ca W (srcP E sc tg iter)) (tG X ca L.N scope tg) (tT X ca (Wat W σ) (tstsP E' ifs)) (tE X ca (Wat W σ) (E' elt)) ((ownOf L.N scope.names).map (·.2)) σ H Q := by
  obtain ⟨φ, st, ρ, rs, rl, o⟩ := h
  dsimp only at o
  rw [if_pos hb] at o
  have hvs : ∀ i, Tch L.N scope i → i ∈ (ownOf L.N scope.names).map (·.2) := fun i hi => tch_own hi
  generalize (ownOf L.N scope.names).map (·.2) = vs at o hvs ⊢
  refine tR_seq rs rl o fun J H1 φ1 st1 src e1 rs1 rl1 hsrc o1 => ?_
  intro D hD
  have exD : Ext φ1 H1 (φ1 ++ [D]) (upd H1 D (.lst [])) := ext_push hD
  have rsD : SR X.K ca (φ1 ++ [D]) (st1 ++ [.lst []]) (upd H1 D (.lst [])) := rs1.push hD ⟨[], upd_same, .nil⟩
  have hDn : (φ1 ++ [D])[st1.length]? = some D := new_ref rs1
  generalize hdn : st1.length = dn at o1 hDn
  refine ⟨fun i m H => ∃ φ st, Ext φ1 H1 φ H ∧ SR X.K ca φ st H ∧ RL X.K φ H (wipeP ρ vs) (L2.wipe σ vs) ∧ φ[dn]? = some D ∧
    Out X.K ca (Rv X.K) (fun cls d H' => W cls d σ H') φ H Q (lcP E' L.N scope tg elt ifs src dn (wipeP ρ vs) m i st),
    ⟨lenI st1 src + 1, _, _, exD, rsD, (rl1.wipe vs).ext exD, hDn, o1.base exD⟩, fun i m H ⟨φ, st, ex, rs, rl, hd, o⟩ => ?_⟩
  cases m with
  | zero => exact False.elim o
  | succ m =>
    have hs := hsrc φ H st i ex rs
    unfold lcP lcC at o
    cases hg : getI st src i with
    | none => rw [hg] at o; exact False.elim o
    | some g =>
      rw [hg] at o
      cases g with
      | none => exact .inl ⟨hs.1 hg, Out.ok o rs (.ref hd)⟩
      | some v =>
        obtain ⟨go, yl⟩ := hs.2 v hg
        refine .inr ⟨go, fun H' => ∃ m', m' < m + 1 ∧ ∃ φ st, Ext φ1 H1 φ H' ∧ SR X.K ca φ st H' ∧ RL X.K φ H' (wipeP ρ vs) (L2.wipe σ vs) ∧ φ[dn]? = some D ∧
          Out X.K ca (Rv X.K) (fun cls d H' => W cls d σ H') φ H' Q (lcP E' L.N scope tg elt ifs src dn (wipeP ρ vs) m' (i + 1) st), fun H' h => h, fun x H' y => ?_⟩
        obtain ⟨ey, rsy, rvy⟩ := yl x H' y
        try dsimp only at o
        cases ha : asgP L.N scope tg v (wipeP ρ vs) with
        | none => rw [ha] at o; exact False.elim o
        | some ρ' =>
          rw [ha] at o
          try dsimp only at o
          refine ⟨φ, wipeP ρ vs, v, ρ', rl.ext ey, rvy, ha, fun σ2 rl2 hw => ⟨(hw vs hvs).trans (wipe_wipe (fun i h => h)), ?_⟩⟩
          refine ⟨φ, st, ρ', rsy, rl2, ?_⟩
          cases ht : tstsP E' ifs ρ' st with
          | bad => rw [ht] at o; exact False.elim o
          | exc k fs s3 => rw [ht] at o; exact fun φ2 H2 d e2 rs2 rx => o φ2 H2 d (ey.trans e2) rs2 rx
          | ok b s3 =>
            rw [ht] at o
            intro φ3 H3 b' e3 rs3 hb3
            obtain rfl : b' = b := hb3
            cases b' with
            | false =>
              exact ⟨m, Nat.lt_succ_self m, φ3, s3, ex.trans (ey.trans e3), rs3, (rl.ext ey).ext e3, e3.get hd, Out.base (ey.trans e3) o⟩
            | true =>
              refine ⟨φ3, s3, ρ', rs3, rl2.ext e3, ?_⟩
              try dsimp only at o
              cases he : E' elt ρ' s3 with
              | bad => rw [he] at o; exact False.elim o
              | exc k fs s4 => rw [he] at o; exact fun φ2 H2 d e2 rs2 rx => o φ2 H2 d (ey.trans (e3.trans e2)) rs2 rx
              | ok y s4 =>
                rw [he] at o
                intro φ4 H4 u e4 rs4 rv4
                try dsimp only at o
                have hd4 := e4.get (e3.get hd)
                split at o
                · rename_i acc hacc
                  obtain ⟨xs, q, ra⟩ := rs4.at hd4 hacc
                  split at o
                  · rename_i hlen
                    have mu : Mut (H4 D) := by rw [q]; trivial
                    have e5 : Ext φ4 H4 φ4 (upd H4 D (.lst (xs ++ [u]))) := ext_set mu
                    refine ⟨xs, q, by rw [← ra.len]; exact hlen, m, Nat.lt_succ_self m, φ4, _, ex.trans (ey.trans (e3.trans (e4.trans e5))), rs4.set (u := .lst (acc ++ [y])) hd4 hacc rfl rfl ⟨_, upd_same, (ra.app (.one rv4)).ext e5⟩, (((rl.ext ey).ext e3).ext e4).ext e5, hd4, Out.base (ey.trans (e3.trans (e4.trans e5))) o⟩
                  · exact False.elim o
                · exact False.elim o

theorem lc_parts (c : Ct ca fa fd L sc X W) {E' : EM} {elt : Expr} {ifs : List Expr} {scope : Scope} (hB : ∀ (X' : Cx) (W' : WX), X'.K = X.K → Ct ca fa fd L scope X' W' → ∀ e, PE X' e (tE X' ca W' (E' e))) (σ : L2.St) :
    LcParts X W scope σ (tG X ca L.N scope tg) (tT X ca (Wat W σ) (tstsP E' ifs)) (tE X ca (Wat W σ) (E' elt)) tg elt ifs :=
  ⟨fun s H C cl fp xe tk => by
    have cb := c.blk scope s H C cl fp xe σ tk
    have hE' := hB (blkX X s H scope (compEnvC scope cl C X.env) fp xe) (Wat W σ) rfl cb
    exact ⟨ok_tg cb tg, pts_tsts (X := blkX X s H scope (compEnvC scope cl C X.env) fp xe) cb hE' ifs, hE' elt⟩⟩
theorem ok_lc (c : Ct ca fa fd L sc X W) (hE : ∀ e, PE X e (tE X ca W (E e))) {E' : EM} {elt iter : Expr} {ifs : List Expr} {scope : Scope} {pos : Pos}
    (hB : ∀ (X' : Cx) (W' : WX), X'.K = X.K → Ct ca fa fd L scope X' W' → ∀ e, PE X' e (tE X' ca W' (E' e))) :
    PE X (.ListComp elt [⟨tg, iter, ifs, 0⟩] scope pos) (tE X ca W (fun ρ => if blkC L.N sc scope (ownOf L.N scope.names) = true then
        bnd (srcP E sc tg iter ρ) fun src s => lcP E' L.N scope tg elt ifs src s.length (wipeP ρ ((ownOf L.N scope.names).map (·.2))) (lenI s src + 1) 0 (s ++ [.lst []])
      else stop)) := by
  by_cases hb : blkC L.N sc scope (ownOf L.N scope.names) = true
  · rcases fold_no (E := E) (sc := sc) (tg := tg) (iter := iter) (env := X.env) with hf | hf
    · have bk0 := blkOk_by hb
      have bk : BlkOk X.N X.env.scope scope (ownOf L.N scope.names) := by
        refine ⟨bk0.kind, bk0.uniq, fun p hp => by rw [c.N]; exact bk0.ix p hp, fun y hy e => c.blkf _ (bk0.free y hy e), fun y hy e => ?_⟩
        rw [c.N]
        exact bk0.own y hy e
      refine peW (pe_lcx (g := tG X ca L.N scope tg) (tt := fun σ => tT X ca (Wat W σ) (tstsP E' ifs)) (te := fun σ => tE X ca (Wat W σ) (E' elt)) c.calm (by rw [c.N]; exact c.nd) c.takes (ok_src c hE iter) bk (lc_parts c hB) hf) fun σ H Q h => lc_read hb h
    · exact pe_no (tR_no fun ρ => by rw [if_pos hb, hf ρ] <;> rfl)
  · exact pe_no (tR_no fun ρ => by rw [if_neg hb])
/-- every expression is read as the machine runs it -/
theorem ok_evE : ∀ (n : Nat) (X : Cx) (sc : Scope) (W : WX), Ct ca fa fd L sc X W → ∀ e, PE X e (tE X ca W (evE L n sc e))
  | 0, X, sc, W, c, e => pe_no (tR_no fun _ => rfl)
  | n + 1, X, sc, W, c, e => by
    have hE := ok_evE n X sc W c
    unfold evE
    split
    · exact ok_const
    · exact ok_name c
    · exact ok_tup hE
    · exact ok_lst hE
    · exact ok_dict0
    · exact ok_dict hE
    · exact ok_bin hE
    · exact ok_neg hE
    · exact ok_not hE
    · exact ok_cmp c hE
    · exact ok_andV hE
    · exact ok_orV hE
    · exact ok_andV3 hE
    · exact ok_orV3 hE
    · exact ok_ifE c hE
    · exact ok_slice hE
    · rename_i hb
      exact ok_ix c hE fun lo hi p2 e => hb lo hi p2 e
    · exact ok_fld c hE
    · exact ok_call c hE
    · exact ok_meth c hE
    · exact ok_lc c hE fun X' W' hK cb => ok_evE n X' _ W' cb
    · exact pe_no (tR_no fun _ => rfl)
end
end Z

namespace Z
open PySem L2
/-- C(..), C an exception's class with fields fl -/
def tMk2 (C : Addr) (fl : List Str) (t : TA) : St → Hp → XK → Prop := fun σ H Q => t σ H fun xs H1 => xs.length = fl.length ∧ ∀ d us, H1 d = none → (∀ f x, (fl.zip xs).lookup f = some x → us.lookup f = some x) → Q (.ref C) (some d) (upd H1 d (.xd us))
structure CtS (ca fa : Nat → Addr) (fd : Nat → FuncData) (L : Lk) (sc : Scope) (X : Cx) (W : WX) : Prop extends Ct ca fa fd L sc X W where
  tks : Takes X W
  sceq : X.env.scope = sc
  fkind : sc.kind = .function
  passes : PassesOwn (model X.prog X.w) X.A X.env X.xe
  stk : X.stack = X.env :: X.outer
  frm : X.env.frame = some X.env.locals
  mk1 : ∀ pn xe x c m j p p2 pos, L.T.glob.lookup x = some (.cls c) → (L.T.cls[c]?).bind (·.exc) = some none → globB sc x = true → PMk (X.tr pn xe) (.Call (.Name x p) [.Constant (.str m) j p2] [] pos) (fun _ H Q => Q (.ref (ca c)) none H)
  mk2 : ∀ pn xe x c fl e es t p pos, L.T.glob.lookup x = some (.cls c) → (L.T.cls[c]?).bind (·.exc) = some (some fl) → globB sc x = true → (e :: es).all noStar = true → PA (X.tr pn xe) (e :: es) t → PMk (X.tr pn xe) (.Call (.Name x p) (e :: es) [] pos) (tMk2 (ca c) fl t)
  sub : ∀ c c', (excF L.T c).isSome = true → (excF L.T c').isSome = true → PySem.W.exmOne X.K (.ref (ca c)) (.ref (ca c')) = some (L.T.sub c c')
  xf : ∀ c fl f, excF L.T c = some fl → fl.contains f = true → XfC X.K (ca c) ∧ PySem.W.findIn X.K (.ref (ca c)) f = some none

section
variable {X : Cx} {ca : Nat → Addr} {W : WX} {fa : Nat → Addr} {fd : Nat → FuncData} {L : Lk} {sc : Scope} {E : EM}
/-- how a statement's run ends -/
def OutS (K : PySem.W.Frag) (ca : Nat → Addr) (W : WX) (φ : List Addr) (H : Hp) (D : Ends) : RS → Prop
  | .ok .next ρ st => ∀ φ' H' σ', Ext φ H φ' H' → SR K ca φ' st H' → RL K φ' H' ρ σ' → D.nx σ' H'
  | .ok .brk ρ st => ∀ φ' H' σ', Ext φ H φ' H' → SR K ca φ' st H' → RL K φ' H' ρ σ' → D.bk σ' H'
  | .ok .cont ρ st => ∀ φ' H' σ', Ext φ H φ' H' → SR K ca φ' st H' → RL K φ' H' ρ σ' → D.ct σ' H'
  | .ok (.ret v) ρ st => ∀ φ' H' u, Ext φ H φ' H' → SR K ca φ' st H' → Rv K φ' H' v u → D.rt u H'
  | .exc c fs ρ st => ∀ φ' H' σ' d, Ext φ H φ' H' → SR K ca φ' st H' → RL K φ' H' ρ σ' → Rx K φ' H' fs d → W (.ref (ca c)) d σ' H'
  | .bad => False
theorem OutS.base {K : PySem.W.Frag} {φ φ' : List Addr} {H H' : Hp} {D : Ends} {r : RS} (e : Ext φ H φ' H') (o : OutS K ca W φ H D r) : OutS K ca W φ' H' D r := by
  cases r with
  | ok f ρ st =>
    cases f with
    | next => exact fun φ2 H2 σ2 e2 rs rl => o φ2 H2 σ2 (e.trans e2) rs rl
    | brk => exact fun φ2 H2 σ2 e2 rs rl => o φ2 H2 σ2 (e.trans e2) rs rl
    | cont => exact fun φ2 H2 σ2 e2 rs rl => o φ2 H2 σ2 (e.trans e2) rs rl
    | ret v => exact fun φ2 H2 u e2 rs rv => o φ2 H2 u (e.trans e2) rs rv
  | exc c fs ρ st => exact fun φ2 H2 σ2 d e2 rs rl rx => o φ2 H2 σ2 d (e.trans e2) rs rl rx
  | bad => exact o
def tS (X : Cx) (ca : Nat → Addr) (W : WX) (m : SM) : TS := fun D σ H => ∃ φ st ρ, SR X.K ca φ st H ∧ RL X.K φ H ρ σ ∧ OutS X.K ca W φ H D (m ρ st)
theorem psW {s : Stmt} {t t' : TS} (h : PS X s t) (k : ∀ D σ H, t' D σ H → t D σ H) : PS X s t' := ⟨fun pins s σ H D I q => h.run pins s σ H D I (k _ _ _ q)⟩
theorem pssW {s : List Stmt} {t t' : TS} (h : PSs X s t) (k : ∀ D σ H, t' D σ H → t D σ H) : PSs X s t' := ⟨fun pins s σ H D I q => h.run pins s σ H D I (k _ _ _ q)⟩
theorem ps_no {s : Stmt} {t : TS} (k : ∀ D σ H, ¬t D σ H) : PS X s t := ⟨fun _ _ _ _ _ _ q => (k _ _ _ q).elim⟩
theorem tS_no {m : SM} (h : ∀ ρ st, m ρ st = .bad) (D : Ends) (σ : St) (H : Hp) : ¬tS X ca W m D σ H := fun ⟨φ, st, ρ, _, _, o⟩ => by
  rw [h] at o
  exact o
/-- a part that is an expression, then the rest -/
theorem tS_seq {α β : Type} {R : List Addr → Hp → α → β → Prop} {m : Sl → M α} {f : α → Store → RS} {φ : List Addr} {st : Store} {ρ : Sl} {σ : St} {H : Hp} {D : Ends} {Q : β → Hp → Prop}
    (rs : SR X.K ca φ st H) (rl : RL X.K φ H ρ σ) (o : OutS X.K ca W φ H D (bndS (m ρ) ρ f st))
    (k : ∀ u H1 φ1 st1 v, Ext φ H φ1 H1 → SR X.K ca φ1 st1 H1 → RL X.K φ1 H1 ρ σ → R φ1 H1 v u → OutS X.K ca W φ1 H1 D (f v st1) → Q u H1) : tR R X ca W m σ H Q := by
  refine ⟨φ, st, ρ, rs, rl, ?_⟩
  unfold bndS at o
  cases hz : m ρ st with
  | bad => rw [hz] at o; exact o
  | exc c fs s1 => rw [hz] at o; exact fun φ1 H1 d e1 rs1 rx => o φ1 H1 σ d e1 rs1 (rl.ext e1) rx
  | ok v s1 => rw [hz] at o; exact fun φ1 H1 u e1 rs1 rv => k u H1 φ1 s1 v e1 rs1 (rl.ext e1) rv (o.base e1)
theorem OutS.nx {φ : List Addr} {st : Store} {ρ : Sl} {σ : St} {H : Hp} {D : Ends} (o : OutS X.K ca W φ H D (.ok .next ρ st)) (rs : SR X.K ca φ st H) (rl : RL X.K φ H ρ σ) : D.nx σ H := o φ H σ .refl rs rl

theorem ok_pass {p : Pos} : PS X (.Pass p) (tS X ca W fun ρ s => .ok .next ρ s) := psW ps_pass fun D σ H ⟨φ, st, ρ, rs, rl, o⟩ => OutS.nx o rs rl
theorem ok_brk {p : Pos} : PS X (.Break p) (tS X ca W fun ρ s => .ok .brk ρ s) := psW ps_break fun D σ H ⟨φ, st, ρ, rs, rl, o⟩ => o φ H σ .refl rs rl
theorem ok_cont {p : Pos} : PS X (.Continue p) (tS X ca W fun ρ s => .ok .cont ρ s) := psW ps_continue fun D σ H ⟨φ, st, ρ, rs, rl, o⟩ => o φ H σ .refl rs rl
theorem ok_retN {p : Pos} : PS X (.Return none p) (tS X ca W fun ρ s => .ok (.ret .non) ρ s) := psW ps_retN fun D σ H ⟨φ, st, ρ, rs, rl, o⟩ => o φ H .non .refl rs .non
theorem ok_ret (hE : ∀ e, PE X e (tE X ca W (E e))) {e : Expr} {p : Pos} : PS X (.Return (some e) p) (tS X ca W fun ρ s => bndS (E e ρ) ρ (fun v s => .ok (.ret v) ρ s) s) := by
  refine psW (ps_ret (hE e)) fun D σ H ⟨φ, st, ρ, rs, rl, o⟩ => ?_
  exact tS_seq rs rl o fun x H1 φ1 st1 v e1 rs1 rl1 rv o1 => o1 φ1 H1 x .refl rs1 rv
theorem ok_expr (hE : ∀ e, PE X e (tE X ca W (E e))) {f : Expr} {as : List Expr} {ks : List Keyword} {p p2 : Pos} : PS X (.Expr (.Call f as ks p) p2) (tS X ca W fun ρ s => bndS (E (.Call f as ks p) ρ) ρ (fun _ s => .ok .next ρ s) s) := by
  refine psW (ps_expr (hE _)) fun D σ H ⟨φ, st, ρ, rs, rl, o⟩ => ?_
  exact tS_seq rs rl o fun x H1 φ1 st1 v e1 rs1 rl1 rv o1 => OutS.nx o1 rs1 rl1

theorem ok_blk {S : Stmt → SM} (hS : ∀ s, PS X s (tS X ca W (S s))) : ∀ l : List Stmt, PSs X l (tS X ca W (blk S l))
  | [] => pssW pss_nil fun D σ H ⟨φ, st, ρ, rs, rl, o⟩ => OutS.nx o rs rl
  | s :: r => by
    refine pssW (pss_cons (hS s) (ok_blk hS r)) fun D σ H ⟨φ, st, ρ, rs, rl, o⟩ => ?_
    refine ⟨φ, st, ρ, rs, rl, ?_⟩
    unfold blk at o
    cases hz : S s ρ st with
    | bad => rw [hz] at o; exact o
    | exc c fs ρ1 s1 => rw [hz] at o; exact o
    | ok f ρ1 s1 =>
      rw [hz] at o
      cases f with
      | next => exact fun φ1 H1 σ1 e1 rs1 rl1 => ⟨φ1, s1, ρ1, rs1, rl1, o.base e1⟩
      | brk => exact o
      | cont => exact o
      | ret v => exact o
theorem ok_if (c : Ct ca fa fd L sc X W) (hE : ∀ e, PE X e (tE X ca W (E e))) {S : Stmt → SM} (hS : ∀ s, PS X s (tS X ca W (S s))) {t : Expr} {a b : List Stmt} {p : Pos} :
    PS X (.If t a b p) (tS X ca W fun ρ s => bndS (tst E 20 t ρ) ρ (fun t s => if t = true then blk S a ρ s else blk S b ρ s) s) := by
  refine psW (ps_if (ok_tst c hE 20 t) (ok_blk hS a) (ok_blk hS b)) fun D σ H ⟨φ, st, ρ, rs, rl, o⟩ => ?_
  refine tS_seq rs rl o fun x H1 φ1 st1 v e1 rs1 rl1 rv o1 => ?_
  cases rv
  cases x with
  | true => exact ⟨φ1, st1, ρ, rs1, rl1, o1⟩
  | false => exact ⟨φ1, st1, ρ, rs1, rl1, o1⟩

theorem ok_while (c : CtS ca fa fd L sc X W) (hE : ∀ e, PE X e (tE X ca W (E e))) {S : Stmt → SM} (hS : ∀ s, PS X s (tS X ca W (S s))) {t : Expr} {b : List Stmt} {n : Nat} {p : Pos} :
    PS X (.While t b [] p) (tS X ca W (whl (blk S b) (tst E 20 t) n)) := by
  refine psW (ps_while c.passes (ok_tst c.toCt hE 20 t) (ok_blk hS b)) fun D σ H h => ?_
  refine ⟨fun m σ H => tS X ca W (whl (blk S b) (tst E 20 t) m) D σ H, ⟨n, h⟩, fun m σ H ⟨φ, st, ρ, rs, rl, o⟩ => ?_⟩
  cases m with
  | zero => exact False.elim o
  | succ m =>
    unfold whl at o
    refine ⟨φ, st, ρ, rs, rl, ?_⟩
    cases hz : tst E 20 t ρ st with
    | bad => rw [hz] at o; exact o
    | exc k fs s1 => rw [hz] at o; exact fun φ1 H1 d e1 rs1 rx => o φ1 H1 σ d e1 rs1 (rl.ext e1) rx
    | ok v s1 =>
      rw [hz] at o
      intro φ1 H1 u e1 rs1 hu
      obtain rfl : u = v := hu
      cases u with
      | false => exact o φ1 H1 σ e1 rs1 (rl.ext e1)
      | true =>
        refine ⟨fun σ' H' => ∃ m', m' < m + 1 ∧ tS X ca W (whl (blk S b) (tst E 20 t) m') D σ' H', fun _ _ h => h, φ1, s1, ρ, rs1, rl.ext e1, ?_⟩
        try dsimp only at o
        cases hb : blk S b ρ s1 with
        | bad => rw [hb] at o; exact o
        | exc k fs ρ2 s2 => rw [hb] at o; exact o.base e1
        | ok f ρ2 s2 =>
          rw [hb] at o
          cases f with
          | next => exact fun φ2 H2 σ2 e2 rs2 rl2 => ⟨m, Nat.lt_succ_self m, φ2, s2, ρ2, rs2, rl2, OutS.base (e1.trans e2) o⟩
          | cont => exact fun φ2 H2 σ2 e2 rs2 rl2 => ⟨m, Nat.lt_succ_self m, φ2, s2, ρ2, rs2, rl2, OutS.base (e1.trans e2) o⟩
          | brk => exact fun φ2 H2 σ2 e2 rs2 rl2 => o φ2 H2 σ2 (e1.trans e2) rs2 rl2
          | ret v => exact fun φ2 H2 u e2 rs2 rv => o φ2 H2 u (e1.trans e2) rs2 rv
theorem ok_for (c : CtS ca fa fd L sc X W) (hE : ∀ e, PE X e (tE X ca W (E e))) {S : Stmt → SM} (hS : ∀ s, PS X s (tS X ca W (S s))) {tg iter : Expr} {b : List Stmt} {p : Pos} :
    PS X (.For tg iter b [] p) (tS X ca W fun ρ s => bndS (srcP E sc tg iter ρ) ρ (fun src s => forP (blk S b) (asgP L.N sc tg) src (lenI s src + 1) 0 ρ s) s) := by
  rcases fold_no (E := E) (sc := sc) (tg := tg) (iter := iter) (env := X.env) with hf | hf
  · refine psW (ps_for c.passes c.calm (ok_src c.toCt hE iter) (ok_tg c.toCt tg) (ok_blk hS b) hf) fun D σ H ⟨φ, st, ρ, rs, rl, o⟩ => ?_
    refine tS_seq rs rl o fun J H1 φ1 st1 src e1 rs1 rl1 hsrc o1 => ?_
    refine ⟨fun i m σ H => ∃ φ st ρ, Ext φ1 H1 φ H ∧ SR X.K ca φ st H ∧ RL X.K φ H ρ σ ∧ OutS X.K ca W φ H D (forP (blk S b) (asgP L.N sc tg) src m i ρ st), ⟨lenI st1 src + 1, φ1, st1, ρ, .refl, rs1, rl1, o1⟩, fun i m σ H ⟨φ, st, ρ, ex, rs, rl, o⟩ => ?_⟩
    cases m with
    | zero => exact False.elim o
    | succ m =>
      have hs := hsrc φ H st i ex rs
      unfold forP at o
      cases hg : getI st src i with
      | none => rw [hg] at o; exact False.elim o
      | some g =>
        rw [hg] at o
        cases g with
        | none => exact .inl ⟨hs.1 hg, OutS.nx o rs rl⟩
        | some v =>
          obtain ⟨go, yl⟩ := hs.2 v hg
          refine .inr ⟨go, fun σ' H' => ∃ m', m' < m + 1 ∧ ∃ φ st ρ, Ext φ1 H1 φ H' ∧ SR X.K ca φ st H' ∧ RL X.K φ H' ρ σ' ∧ OutS X.K ca W φ H' D (forP (blk S b) (asgP L.N sc tg) src m' (i + 1) ρ st), fun _ _ h => h, fun x H' y => ?_⟩
          obtain ⟨ey, rsy, rvy⟩ := yl x H' y
          try dsimp only at o
          cases ha : asgP L.N sc tg v ρ with
          | none => rw [ha] at o; exact False.elim o
          | some ρ' =>
            rw [ha] at o
            try dsimp only at o
            refine ⟨φ, ρ, v, ρ', rl.ext ey, rvy, ha, fun σ2 rl2 _ => ⟨φ, st, ρ', rsy, rl2, ?_⟩⟩
            cases hb : blk S b ρ' st with
            | bad => rw [hb] at o; exact o
            | exc k fs ρ2 s2 => rw [hb] at o; exact o.base ey
            | ok f ρ2 s2 =>
              rw [hb] at o
              cases f with
              | next => exact fun φ2 H2 σ2 e2 rs2 rl2 => ⟨m, Nat.lt_succ_self m, φ2, s2, ρ2, ex.trans (ey.trans e2), rs2, rl2, OutS.base (ey.trans e2) o⟩
              | cont => exact fun φ2 H2 σ2 e2 rs2 rl2 => ⟨m, Nat.lt_succ_self m, φ2, s2, ρ2, ex.trans (ey.trans e2), rs2, rl2, OutS.base (ey.trans e2) o⟩
              | brk => exact fun φ2 H2 σ2 e2 rs2 rl2 => o φ2 H2 σ2 (ey.trans e2) rs2 rl2
              | ret v => exact fun φ2 H2 u e2 rs2 rv => o φ2 H2 u (ey.trans e2) rs2 rv
  · exact ps_no (tS_no fun ρ st => by rw [hf ρ] <;> rfl)
end
end Z

namespace Z
open PySem L2
section
variable {X : Cx} {ca : Nat → Addr} {W : WX} {fa : Nat → Addr} {fd : Nat → FuncData} {L : Lk} {sc : Scope} {E : EM}

theorem swaps {e : Expr} {x : Str} {p : Pos} {l : Nat} {env : Env} : swapsWith e (some (.Name x p)) l env = pure false ∨ (∃ elt gs scope pos, e = .ListComp elt gs scope pos ∧ env.scope.names.lookup x = some .local ∧ swapsWith e (some (.Name x p)) l env = pure true) ∨ (∃ a g s q, e = .SetComp a g s q) ∨ ∃ a b g s q, e = .DictComp a b g s q := by
  cases e with
  | ListComp elt gs scope pos =>
    have h : swapsWith (.ListComp elt gs scope pos) (some (.Name x p)) l env = pure (env.blockKind == .function && env.kindOf x == some .local && p.line == pos.line && !(scope.names.any fun (n, k) => n == x && (k == .local || k == .cell))) := rfl
    cases hb : (env.blockKind == .function && env.kindOf x == some .local && p.line == pos.line && !(scope.names.any fun (n, k) => n == x && (k == .local || k == .cell))) with
    | false => rw [hb] at h; exact .inl h
    | true =>
      rw [hb] at h
      simp only [Bool.and_eq_true] at hb
      exact .inr (.inl ⟨elt, gs, scope, pos, rfl, by
        have q := hb.1.1.2
        have z : env.kindOf x = some .local := by simpa using q
        exact z, h⟩)
  | SetComp a g s q => exact .inr (.inr (.inl ⟨a, g, s, q, rfl⟩))
  | DictComp a b g s q => exact .inr (.inr (.inr ⟨a, b, g, s, q, rfl⟩))
  | _ => exact .inl rfl
theorem ok_set (c : CtS ca fa fd L sc X W) {x : Str} {e : Expr} {px p : Pos} {n : Nat} :
    PS X (.Assign [.Name x px] e p) (tS X ca W fun ρ s => if locB sc x = true then match slotOf L.N x with
        | some i => bndS (evE L (n + 1) sc e ρ) ρ (fun v s => .ok .next (ρ.set i (some v)) s) s
        | none => .bad
      else .bad) := by
  by_cases hl : locB sc x = true
  · cases hi : slotOf L.N x with
    | none => exact ps_no (tS_no fun ρ st => by simp only [if_pos hl])
    | some i =>
      have hE := ok_evE (ca := ca) (fa := fa) (fd := fd) (L := L) (n + 1) X sc W c.toCt
      have hN : X.N.Nodup := by rw [c.N]; exact c.nd
      have hx : X.N[i]? = some x := by rw [c.N]; exact slotOf_get hi
      obtain ⟨l1, l2⟩ := c.loc x hl
      rcases swaps (e := e) (x := x) (p := px) (l := p.line) (env := X.env) with hs | ⟨elt, gs, scope, pos, rfl, hloc, hs⟩ | ⟨a, g, s, q, rfl⟩ | ⟨a, b, g, s, q, rfl⟩
      · refine psW (ps_set hN hx l1 (hE e) hs l2) fun D σ H ⟨φ, st, ρ, rs, rl, o⟩ => ?_
        simp only [if_pos hl] at o
        exact tS_seq rs rl o fun y H1 φ1 st1 v e1 rs1 rl1 rv o1 => OutS.nx o1 rs1 (rl1.set i rv)
      · match gs with
        | [⟨tg, iter, ifs, .ofNat 0⟩] =>
          by_cases hb : blkC L.N sc scope (ownOf L.N scope.names) = true
          · rcases fold_no (E := evE L n sc) (sc := sc) (tg := tg) (iter := iter) (env := X.env) with hf | hf
            · have hE' := ok_evE (ca := ca) (fa := fa) (fd := fd) (L := L) n X sc W c.toCt
              have bk0 := blkOk_by hb
              have bk : BlkOk X.N X.env.scope scope (ownOf L.N scope.names) := by
                refine ⟨bk0.kind, bk0.uniq, fun p hp => by rw [c.N]; exact bk0.ix p hp, fun y hy e => c.blkf _ (bk0.free y hy e), fun y hy e => ?_⟩
                rw [c.N]
                exact bk0.own y hy e
              refine psW (ps_setLcx (g := tG X ca L.N scope tg) (tt := fun σ => tT X ca (Wat W σ) (tstsP (evE L n scope) ifs)) (te := fun σ => tE X ca (Wat W σ) (evE L n scope elt)) c.calm hN hx hloc hs c.takes (ok_src c.toCt hE' iter) bk
                (lc_parts c.toCt fun X' W' _ cb => ok_evE n X' _ W' cb) hf) fun D σ H ⟨φ, st, ρ, rs, rl, o⟩ => ?_
              simp only [if_pos hl] at o
              show tLc (tI X ca W (srcP (evE L n sc) sc tg iter)) (tG X ca L.N scope tg) (tT X ca (Wat W σ) (tstsP (evE L n scope) ifs)) (tE X ca (Wat W σ) (evE L n scope elt)) ((ownOf L.N scope.names).map (·.2)) σ H (fun x H1 => gName i x σ H1 D.nx)
              refine lc_read (X := X) (ca := ca) (W := W) (σ := σ) (E := evE L n sc) (E' := evE L n scope) (tg := tg) (elt := elt) (ifs := ifs) hb ?_
              exact tS_seq (m := evE L (n + 1) sc (.ListComp elt [⟨tg, iter, ifs, 0⟩] scope pos)) rs rl o fun y H1 φ1 st1 v e1 rs1 rl1 rv o1 => OutS.nx o1 rs1 (rl1.set i rv)
            · refine ps_no (tS_no fun ρ st => ?_)
              simp only [if_pos hl]
              show bndS (if _ then bnd (srcP (evE L n sc) sc tg iter ρ) _ else stop) _ _ _ = _
              rw [if_pos hb, hf ρ]
              rfl
          · refine ps_no (tS_no fun ρ st => ?_)
            simp only [if_pos hl]
            show bndS (if _ then bnd (srcP (evE L n sc) sc tg iter ρ) _ else stop) _ _ _ = _
            rw [if_neg hb]
            rfl
        | [] => exact ps_no (tS_no fun ρ st => by simp only [if_pos hl]; rfl)
        | ⟨tg, iter, ifs, .ofNat (k + 1)⟩ :: _ => exact ps_no (tS_no fun ρ st => by simp only [if_pos hl]; rfl)
        | ⟨tg, iter, ifs, .negSucc k⟩ :: _ => exact ps_no (tS_no fun ρ st => by simp only [if_pos hl]; rfl)
        | ⟨tg, iter, ifs, .ofNat 0⟩ :: _ :: _ => exact ps_no (tS_no fun ρ st => by simp only [if_pos hl]; rfl)
      · exact ps_no (tS_no fun ρ st => by simp only [if_pos hl]; rfl)
      · exact ps_no (tS_no fun ρ st => by simp only [if_pos hl]; rfl)
  · exact ps_no (tS_no fun ρ st => by rw [if_neg hl])

theorem sw_sub {e o i : Expr} {q : Pos} {l : Nat} {env : Env} : swapsWith e (some (.Subscript o i q)) l env = pure false := by cases e <;> rfl
theorem sw_fld {e o : Expr} {f : Str} {q : Pos} {l : Nat} {env : Env} : swapsWith e (some (.Attribute o f q)) l env = pure false := by cases e <;> rfl
theorem ok_sub (c : Ct ca fa fd L sc X W) (hE : ∀ e, PE X e (tE X ca W (E e))) {o i e : Expr} {q p : Pos} :
    PS X (.Assign [.Subscript o i q] e p) (tS X ca W fun ρ s => bndS (E e ρ) ρ (fun v s => bndS (E o ρ) ρ (fun x s => bndS (E i ρ) ρ (fun j s => bndS (ixSet x j v) ρ (fun _ s => .ok .next ρ s) s) s) s) s) := by
  refine psW (ps_dput (by have := c.un; omega) (hE o) (hE i) (hE e) sw_sub) fun D σ H ⟨φ, st, ρ, rs, rl, out⟩ => ?_
  refine tS_seq rs rl out fun y H1 φ1 st1 v e1 rs1 rl1 rv o1 => ?_
  refine tS_seq rs1 rl1 o1 fun x H2 φ2 st2 w e2 rs2 rl2 rx o2 => ?_
  refine tS_seq rs2 rl2 o2 fun z H3 φ3 st3 u e3 rs3 rl3 rz o3 => ?_
  unfold bndS ixSet at o3
  cases rx.ext e3 with
  | @ref n a ha =>
    try dsimp only at o3
    cases h1 : st3[n]? with
    | none => rw [h1] at o3; exact False.elim o3
    | some ob =>
      cases h2 : keyOf u with
      | none =>
        rw [h1, h2] at o3
        cases ob <;> exact False.elim o3
      | some k =>
        rw [h1, h2] at o3
        cases ob with
        | dct l =>
          try dsimp only at o3
          by_cases hz : l.length < sizeLine
          · rw [if_pos hz] at o3
            obtain ⟨ks, q1, q2⟩ := rs3.at ha h1
            have mu : Mut (H3 a) := by rw [q1]; trivial
            have ex : Ext φ3 H3 φ3 (upd H3 a (.dK (putK ks k y))) := ext_set mu
            refine ⟨a, _, rfl, .inl ⟨ks, k, q1, rz.key h2, by rw [← q2.len]; exact hz, rfl⟩, ?_⟩
            exact o3 φ3 _ σ ex (rs3.set ha h1 rfl rfl ⟨_, upd_same, (q2.dput k ((rv.ext e2).ext e3)).ext ex⟩) (rl3.ext ex)
          · rw [if_neg hz] at o3
            exact False.elim o3
        | _ => exact False.elim o3
  | _ => exact False.elim o3
/-- a field is written -/
theorem set_rel (c : Ct ca fa fd L sc X W) {D : Ends} {φ : List Addr} {st : Store} {ρ : Sl} {σ : St} {H : Hp} {x y : V} {v w : PV} {f : Str} (rs : SR X.K ca φ st H) (rl : RL X.K φ H ρ σ) (rx : Rv X.K φ H v x) (ry : Rv X.K φ H w y)
    (o : OutS X.K ca W φ H D (bndS (fldSet L v f w) ρ (fun _ s => .ok .next ρ s) st)) :
    ∃ a k dx fs, x = .ref a ∧ H a = some (.ins (ca k) dx fs) ∧ Cls X.K (ca k) ∧ NoAttr X.K (ca k) f ∧ clsP st v = some k ∧ fs.length < 1000 ∧ D.nx σ (upd H a (.ins (ca k) dx (putF f y fs))) := by
  unfold bndS fldSet at o
  cases rx with
  | @ref n a ha =>
    try dsimp only at o
    cases h1 : st[n]? with
    | none => rw [h1] at o; exact False.elim o
    | some ob =>
      rw [h1] at o
      cases ob with
      | ins k l =>
        try dsimp only at o
        cases h2 : L.T.cls[k]? with
        | none => rw [h2] at o; exact False.elim o
        | some C =>
          rw [h2] at o
          try dsimp only at o
          by_cases h3 : (C.fields.contains f && decide (l.length < 1000)) = true
          · rw [if_pos h3] at o
            have h3' := Bool.and_eq_true_iff.mp h3
            obtain ⟨g1, g2⟩ := c.glob.fl k C f h2 h3'.1
            obtain ⟨dx, fs, q1, q2⟩ := rs.at ha h1
            have mu : Mut (H a) := by rw [q1]; trivial
            have ex : Ext φ H φ (upd H a (.ins (ca k) dx (putF f y fs))) := ext_set mu
            refine ⟨a, k, dx, fs, rfl, q1, g1, g2, by unfold clsP; dsimp only; rw [h1], by rw [← q2.len]; exact of_decide_eq_true h3'.2, ?_⟩
            exact o φ _ σ ex (rs.set ha h1 rfl rfl ⟨dx, _, upd_same, (q2.putF f ry).ext ex⟩) (rl.ext ex)
          · rw [if_neg h3] at o
            exact False.elim o
      | _ => exact False.elim o
  | _ => exact False.elim o
theorem ok_fset (c : Ct ca fa fd L sc X W) (hE : ∀ e, PE X e (tE X ca W (E e))) {o e : Expr} {f : Str} {q p : Pos} :
    PS X (.Assign [.Attribute o f q] e p) (tS X ca W fun ρ s => bndS (E e ρ) ρ (fun v s => bndS (E o ρ) ρ (fun x s => bndS (fldSet L x f v) ρ (fun _ s => .ok .next ρ s) s) s) s) := by
  refine psW (ps_fld (hE o) (hE e) sw_fld) fun D σ H ⟨φ, st, ρ, rs, rl, out⟩ => ?_
  refine tS_seq rs rl out fun y H1 φ1 st1 v e1 rs1 rl1 rv o1 => ?_
  refine tS_seq rs1 rl1 o1 fun x H2 φ2 st2 w e2 rs2 rl2 rx o2 => ?_
  obtain ⟨a, k, dx, fs, h1, h2, h3, h4, _, h5, h6⟩ := set_rel c rs2 rl2 rx (rv.ext e2) o2
  exact ⟨a, ca k, dx, fs, h1, h2, h3, h4, h5, h6⟩
/-- a field is read, then the rest -/
theorem get_rel (c : Ct ca fa fd L sc X W) {D : Ends} {φ : List Addr} {st : Store} {ρ : Sl} {H : Hp} {x : V} {v : PV} {f : Str} {g : PV → Store → RS} (rs : SR X.K ca φ st H) (rx : Rv X.K φ H v x)
    (o : OutS X.K ca W φ H D (bndS (fldP L v f) ρ g st)) :
    ∃ a k dx fs u w, x = .ref a ∧ H a = some (.ins (ca k) dx fs) ∧ Cls X.K (ca k) ∧ NoAttr X.K (ca k) f ∧ clsP st v = some k ∧ fs.lookup f = some u ∧ Rv X.K φ H w u ∧ OutS X.K ca W φ H D (g w st) := by
  unfold bndS fldP at o
  cases rx with
  | @ref n a ha =>
    try dsimp only at o
    cases h1 : st[n]? with
    | none => rw [h1] at o; exact False.elim o
    | some ob =>
      rw [h1] at o
      cases ob with
      | ins k l =>
        try dsimp only at o
        cases h2 : L.T.cls[k]? with
        | none => rw [h2] at o; exact False.elim o
        | some C =>
          rw [h2] at o
          try dsimp only at o
          by_cases h3 : C.fields.contains f = true
          · rw [if_pos h3] at o
            obtain ⟨g1, g2⟩ := c.glob.fl k C f h2 h3
            obtain ⟨dx, fs, q1, q2⟩ := rs.at ha h1
            cases h4 : l.lookup f with
            | none => rw [h4] at o; exact False.elim o
            | some w =>
              rw [h4] at o
              rcases q2.lookup f with ⟨v', u, z1, z2, z3⟩ | ⟨z1, _⟩
              · rw [h4] at z1
                cases z1
                exact ⟨a, k, dx, fs, u, w, rfl, q1, g1, g2, by unfold clsP; dsimp only; rw [h1], z2, z3, o⟩
              · rw [h4] at z1
                cases z1
          · rw [if_neg h3] at o
            exact False.elim o
      | _ => exact False.elim o
  | _ => exact False.elim o
theorem ok_augA (c : Ct ca fa fd L sc X W) (hE : ∀ e, PE X e (tE X ca W (E e))) {o e : Expr} {f : Str} {q p : Pos} :
    PS X (.AugAssign (.Attribute o f q) .Add e p) (tS X ca W fun ρ s => bndS (E o ρ) ρ (fun x s => bndS (fldP L x f) ρ (fun v s => bndS (E e ρ) ρ (fun w s' => if clsP s x = clsP s' x then bndS (match v, w with
      | .int i, .int j => fldSet L x f (.int (i + j))
      | _, _ => stop) ρ (fun _ s => .ok .next ρ s) s' else .bad) s) s) s) := by
  refine psW (ps_fldaug (hE o) (hE e) in_add) fun D σ H ⟨φ, st, ρ, rs, rl, out⟩ => ?_
  refine tS_seq rs rl out fun x H1 φ1 st1 v e1 rs1 rl1 rx o1 => ?_
  obtain ⟨a, k, dx, fs, u, w, rfl, q1, g1, g2, k1, q2, ru, o2⟩ := get_rel c rs1 rx o1
  refine ⟨a, ca k, dx, fs, u, rfl, q1, g1, g2, q2, ?_⟩
  refine tS_seq rs1 rl1 o2 fun y H2 φ2 st2 z e2 rs2 rl2 ry o3 => ?_
  by_cases hk : clsP st1 v = clsP st2 v
  · rw [if_pos hk] at o3
    cases ru.ext e2 with
    | int i =>
      cases ry with
      | int j =>
        obtain ⟨a', k', dx', fs', ea, q3, g3, g4, k2, q4, fin⟩ := set_rel c rs2 rl2 (rx.ext e2) (.int (i + j)) o3
        cases ea
        rw [hk, k2] at k1
        cases k1
        exact ⟨i, j, rfl, rfl, dx', fs', q3, q4, fin⟩
      | _ => exact False.elim o3
    | _ => exact False.elim o3
  · rw [if_neg hk] at o3
    exact False.elim o3
theorem ok_augS (c : Ct ca fa fd L sc X W) (hE : ∀ e, PE X e (tE X ca W (E e))) {o e : Expr} {f : Str} {q p : Pos} :
    PS X (.AugAssign (.Attribute o f q) .Sub e p) (tS X ca W fun ρ s => bndS (E o ρ) ρ (fun x s => bndS (fldP L x f) ρ (fun v s => bndS (E e ρ) ρ (fun w s' => if clsP s x = clsP s' x then bndS (match v, w with
      | .int i, .int j => fldSet L x f (.int (i - j))
      | _, _ => stop) ρ (fun _ s => .ok .next ρ s) s' else .bad) s) s) s) := by
  refine psW (ps_fldaug (hE o) (hE e) in_sub) fun D σ H ⟨φ, st, ρ, rs, rl, out⟩ => ?_
  refine tS_seq rs rl out fun x H1 φ1 st1 v e1 rs1 rl1 rx o1 => ?_
  obtain ⟨a, k, dx, fs, u, w, rfl, q1, g1, g2, k1, q2, ru, o2⟩ := get_rel c rs1 rx o1
  refine ⟨a, ca k, dx, fs, u, rfl, q1, g1, g2, q2, ?_⟩
  refine tS_seq rs1 rl1 o2 fun y H2 φ2 st2 z e2 rs2 rl2 ry o3 => ?_
  by_cases hk : clsP st1 v = clsP st2 v
  · rw [if_pos hk] at o3
    cases ru.ext e2 with
    | int i =>
      cases ry with
      | int j =>
        obtain ⟨a', k', dx', fs', ea, q3, g3, g4, k2, q4, fin⟩ := set_rel c rs2 rl2 (rx.ext e2) (.int (i - j)) o3
        cases ea
        rw [hk, k2] at k1
        cases k1
        exact ⟨i, j, rfl, rfl, dx', fs', q3, q4, fin⟩
      | _ => exact False.elim o3
    | _ => exact False.elim o3
  · rw [if_neg hk] at o3
    exact False.elim o3
end
end Z

namespace Z
open PySem L2
section
variable {X : Cx} {ca : Nat → Addr} {W : WX} {fa : Nat → Addr} {fd : Nat → FuncData} {L : Lk} {sc : Scope} {E : EM}
/-- a tuple of names, an expression that is no written tuple -/
theorem ok_tset (c : Ct ca fa fd L sc X W) (hE : ∀ e, PE X e (tE X ca W (E e))) {ts : List Expr} {k : Nat} {q p : Pos} {e : Expr} :
    PS X (.Assign [.Tuple ts k q] e p) (tS X ca W fun ρ s => if tupB e = true then .bad else bndS (E e ρ) ρ (fun v s => bndS (unlP v) ρ (fun v s => match asgP L.N sc (.Tuple ts k q) v ρ with
      | some ρ' => .ok .next ρ' s
      | none => .bad) s) s) := by
  by_cases ht : tupB e = true
  · exact ps_no (tS_no fun ρ st => by rw [if_pos ht])
  · have hw : swappedStores [.Tuple ts k q] e X.env = pure none := by
      cases e <;> first | rfl | exact absurd rfl ht
    have hs : ∀ {t : TG}, PG X (.Tuple ts k q) t → PS X (.Assign [.Tuple ts k q] e p) (tAsg (tE X ca W (E e)) t) := fun hg => ps_asg (hE e) hg (by cases e <;> rfl) hw
    refine ⟨fun pins s σ H D I ⟨φ, st, ρ, rs, rl, o⟩ => ?_⟩
    simp only [if_neg ht] at o
    have plain : (∀ v st', E e ρ st = .ok v st' → unlP v st' = .ok v st') → wpAny (model X.prog X.w) X.A (exec (.Assign [.Tuple ts k q] e p) X.env) (SP X pins D) X.xe s := fun hv => by
      refine (hs (ok_tg c (.Tuple ts k q))).run pins s σ H D I ?_
      show tE X ca W (E e) σ H (fun x H1 => tG X ca L.N sc (.Tuple ts k q) x σ H1 D.nx)
      refine tS_seq (D := D) (f := fun v s => match asgP L.N sc (.Tuple ts k q) v ρ with
        | some ρ' => .ok .next ρ' s
        | none => .bad) rs rl ?_ fun y H1 φ1 st1 v e1 rs1 rl1 rv o1 => ?_
      · unfold bndS at o ⊢
        cases hz : E e ρ st with
        | bad => rw [hz] at o; exact o
        | exc c fs s1 => rw [hz] at o; exact o
        | ok v s1 =>
          rw [hz] at o
          try dsimp only at o ⊢
          rw [hv v s1 hz] at o
          exact o
      · cases ha : asgP L.N sc (.Tuple ts k q) v ρ with
        | none => rw [ha] at o1; exact False.elim o1
        | some ρ' =>
          rw [ha] at o1
          exact ⟨φ1, ρ, v, ρ', rl1, rv, ha, fun σ' rl' _ => OutS.nx o1 rs1 rl'⟩
    cases hz : E e ρ st with
    | bad => exact plain fun v st' h => by rw [hz] at h; cases h
    | exc c fs s1 => exact plain fun v st' h => by rw [hz] at h; cases h
    | ok v s1 =>
      cases v with
      | ref n =>
        unfold bndS at o
        rw [hz] at o
        try dsimp only at o
        unfold unlP at o
        try dsimp only at o
        cases hl : lstOf s1 n with
        | none => rw [hl] at o; exact False.elim o
        | some l =>
          rw [hl] at o
          try dsimp only at o
          cases hg : tgO L.N sc 4 (.Tuple ts k q) with
          | none =>
            unfold asgP at o
            rw [hg] at o
            exact False.elim o
          | some t =>
            refine (hs (ok_tgU c hg)).run pins s σ H D I ?_
            refine ⟨φ, st, ρ, rs, rl, ?_⟩
            rw [hz]
            intro φ1 H1 u e1 rs1 rv
            cases rv with
            | @ref _ a ha =>
              obtain ⟨xs, qx, rx⟩ := rs1.list ha hl
              unfold asgP at o
              rw [hg] at o
              try dsimp only at o
              cases hr : t.run (.tup l) ρ with
              | none => rw [hr] at o; exact False.elim o
              | some ρ' =>
                rw [hr] at o
                exact ⟨φ1, ρ, l, xs, a, ρ', rfl, rl.ext e1, qx, rx, hr, fun σ' rl' => OutS.nx (OutS.base e1 o) rs1 rl'⟩
      | _ => exact plain fun v st' h => by rw [hz] at h; cases h; rfl
def starB : Expr → Bool := fun e => match e with
  | .Starred .. => true
  | _ => false
theorem star_any : ∀ {es : List Expr}, es.all noStar = true → es.any starB = false
  | [], _ => rfl
  | e :: r, h => by
    simp only [List.all_cons, Bool.and_eq_true] at h
    simp only [List.any_cons, star_any h.2, Bool.or_false]
    cases e <;> first | rfl | cases h.1
theorem swap_eq {ts vs : List Expr} {k k2 : Nat} {q q2 : Pos} {env : Env} : swappedStores [.Tuple ts k q] (.Tuple vs k2 q2) env =
    if (!(ts.length == 2 || ts.length == 3) || vs.length != ts.length || env.blockKind != .function) = true then pure none else
    if vs.any starB = true then pure none else
    if ((parN env.scope ts).length != ts.length || (parN env.scope ts).eraseDups.length != (parN env.scope ts).length) = true then pure none else
    if vs.all (foldedForSure 8) = true then pure none else
    if vs.all (constantsAlone 8) = true then (do unsupported "assign.tuple-of-constant-expressions:order-of-the-stores"; return some (parN env.scope ts)) else pure (some (parN env.scope ts)) := by rfl
theorem swap_yes {ts vs : List Expr} {k k2 : Nat} {q q2 : Pos} {env : Env} (hs : env.scope = sc) (hk : sc.kind = .function) (hn : (ts.length == 2 || ts.length == 3) = true) (hl : vs.length = ts.length) (hst : vs.all noStar = true) (hp : parLoc sc ts vs = true) :
    swappedStores [.Tuple ts k q] (.Tuple vs k2 q2) env = pure (some (parN sc ts)) := by
  unfold parLoc at hp
  simp only [Bool.and_eq_true, decide_eq_true_eq, Bool.not_eq_true'] at hp
  obtain ⟨h1, h2, h3, h4⟩ := hp
  have hb : env.blockKind = .function := by unfold Env.blockKind; rw [hs, hk]; rfl
  have h2' : (parN sc ts).eraseDups.length = ts.length := by simpa using h2
  rw [swap_eq, hs, hn, hl, hb, if_neg (by simp), star_any hst, if_neg (by simp), h2', h1, if_neg (by simp), h3, if_neg (by simp), h4, if_neg (by simp)]
theorem swap_no {ts vs : List Expr} {k k2 : Nat} {q q2 : Pos} {env : Env} (hs : env.scope = sc) (h : ¬(parN sc ts).length = ts.length) : swappedStores [.Tuple ts k q] (.Tuple vs k2 q2) env = pure none := by
  rw [swap_eq, hs]
  split
  · rfl
  · split
    · rfl
    · rw [if_pos]
      simp only [Bool.or_eq_true, bne_iff_ne, ne_eq]
      exact .inl h
theorem par_cons {ts : List Expr} {x : Str} {p : Pos} {l : Nat} : (Expr.Name x p :: ts).filterMap (parF sc l) = if (sc.names.lookup x == some NameKind.local && p.line == l) = true then x :: ts.filterMap (parF sc l) else ts.filterMap (parF sc l) := by
  rw [List.filterMap_cons]
  unfold parF
  by_cases h : (sc.names.lookup x == some NameKind.local && p.line == l) = true
  · simp only [if_pos h]
  · simp only [if_neg h]
theorem loc_of {x : Str} {b : Bool} (h : (sc.names.lookup x == some NameKind.local && b) = true) : sc.names.lookup x = some .local := by
  have h' := Bool.and_eq_true_iff.mp h
  simpa using h'.1
theorem par2 {x y : Str} {px py : Pos} (h : (parN sc [.Name x px, .Name y py]).length = 2) : sc.names.lookup x = some .local ∧ sc.names.lookup y = some .local ∧ parN sc [.Name x px, .Name y py] = [x, y] := by
  have e : parN sc [.Name x px, .Name y py] = ([Expr.Name x px, .Name y py]).filterMap (parF sc px.line) := rfl
  rw [e, par_cons, par_cons] at h
  rw [e, par_cons, par_cons]
  by_cases h1 : (sc.names.lookup x == some NameKind.local && px.line == px.line) = true
  · by_cases h2 : (sc.names.lookup y == some NameKind.local && py.line == px.line) = true
    · rw [if_pos h1, if_pos h2]
      exact ⟨loc_of h1, loc_of h2, rfl⟩
    · rw [if_pos h1, if_neg h2] at h
      cases h
  · rw [if_neg h1] at h
    split at h <;> cases h
theorem par3 {x y z : Str} {px py pz : Pos} (h : (parN sc [.Name x px, .Name y py, .Name z pz]).length = 3) :
    sc.names.lookup x = some .local ∧ sc.names.lookup y = some .local ∧ sc.names.lookup z = some .local ∧ parN sc [.Name x px, .Name y py, .Name z pz] = [x, y, z] := by
  have e : parN sc [.Name x px, .Name y py, .Name z pz] = ([Expr.Name x px, .Name y py, .Name z pz]).filterMap (parF sc px.line) := rfl
  rw [e, par_cons, par_cons, par_cons] at h
  rw [e, par_cons, par_cons, par_cons]
  by_cases h1 : (sc.names.lookup x == some NameKind.local && px.line == px.line) = true
  · by_cases h2 : (sc.names.lookup y == some NameKind.local && py.line == px.line) = true
    · by_cases h3 : (sc.names.lookup z == some NameKind.local && pz.line == px.line) = true
      · rw [if_pos h1, if_pos h2, if_pos h3]
        exact ⟨loc_of h1, loc_of h2, loc_of h3, rfl⟩
      · rw [if_pos h1, if_pos h2, if_neg h3] at h
        cases h
    · rw [if_pos h1, if_neg h2] at h
      split at h <;> cases h
  · rw [if_neg h1] at h
    split at h <;> (try split at h) <;> cases h
theorem dup2 {x y : Str} (h : ([x, y].eraseDups.length == 2) = true) : x ≠ y := by
  rintro rfl
  simp [List.eraseDups_cons] at h
theorem dup3 {x y z : Str} (h : ([x, y, z].eraseDups.length == 3) = true) : x ≠ y ∧ x ≠ z ∧ y ≠ z := by
  refine ⟨?_, ?_, ?_⟩
  · rintro rfl
    by_cases e : z = x <;> simp [List.eraseDups_cons, e] at h
  · rintro rfl
    by_cases e : y = x <;> simp [List.eraseDups_cons, e] at h
  · rintro rfl
    by_cases e : y = x <;> simp [List.eraseDups_cons, e] at h
theorem slot_ne {N : List Str} {x y : Str} {i j : Nat} (hi : slotOf N x = some i) (hj : slotOf N y = some j) (h : x ≠ y) : i ≠ j := by
  rintro rfl
  have a := slotOf_get hi
  rw [slotOf_get hj] at a
  exact h (Option.some.inj a).symm
theorem evs_len : ∀ {es : List Expr} {ρ : Sl} {st st' : Store} {vs : List PV}, evEs E es ρ st = .ok vs st' → vs.length = es.length
  | [], _, _, _, _, h => by cases h; rfl
  | e :: r, ρ, st, st', vs, h => by
    unfold evEs bnd at h
    cases h1 : E e ρ st with
    | bad => rw [h1] at h; cases h
    | exc k fs s => rw [h1] at h; cases h
    | ok v s1 =>
      rw [h1] at h
      try dsimp only at h
      cases h2 : evEs E r ρ s1 with
      | bad => rw [h2] at h; cases h
      | exc k fs s => rw [h2] at h; cases h
      | ok vs2 s2 =>
        rw [h2] at h
        cases h
        simp [evs_len h2]
theorem tg_inv {N : List Str} {x : Str} {p : Pos} {r : List Expr} (h : tgOk N sc (.Name x p :: r) = true) : locB sc x = true ∧ (∃ i, slotOf N x = some i) ∧ tgOk N sc r = true := by
  unfold tgOk at h
  simp only [List.all_cons, Bool.and_eq_true] at h
  exact ⟨h.1.1, Option.isSome_iff_exists.mp h.1.2, h.2⟩
theorem ok_par (c : CtS ca fa fd L sc X W) (hE : ∀ e, PE X e (tE X ca W (E e))) {x y : Str} {px py q q2 p : Pos} {k k2 : Nat} {a b : Expr} :
    PS X (.Assign [.Tuple [.Name x px, .Name y py] k q] (.Tuple [a, b] k2 q2) p) (tS X ca W fun ρ s =>
      if (parOk sc [.Name x px, .Name y py] [a, b] && tgOk L.N sc [.Name x px, .Name y py]) = true then bndS (evEs E [a, b] ρ) ρ (fun vs s => match asgP L.N sc (.Tuple [.Name x px, .Name y py] k q) (.tup vs) ρ with
        | some ρ' => .ok .next ρ' s
        | none => .bad) s
      else .bad) := by
  by_cases hp : (parOk sc [.Name x px, .Name y py] [a, b] && tgOk L.N sc [.Name x px, .Name y py]) = true
  · obtain ⟨hp', hg⟩ := Bool.and_eq_true_iff.mp hp
    obtain ⟨b1, ⟨i, hi⟩, hg⟩ := tg_inv hg
    obtain ⟨b2, ⟨j, hj⟩, _⟩ := tg_inv hg
    unfold parOk at hp'
    obtain ⟨hst, hp2⟩ := Bool.and_eq_true_iff.mp hp'
    have asg : ∀ {v w : PV} {ρ : Sl}, asgP L.N sc (.Tuple [.Name x px, .Name y py] k q) (.tup [v, w]) ρ = some ((ρ.set i (some v)).set j (some w)) := fun {v w ρ} => by
      have hb : (locB sc x && locB sc y) = true := by rw [b1, b2]; rfl
      exact asgP_two hb hi hj
    rcases Bool.or_eq_true_iff.mp hp2 with hl | hl
    · have hsw := swap_yes (k := k) (q := q) (k2 := k2) (q2 := q2) c.sceq c.fkind (by rfl) (by rfl) hst hl
      have hl' := hl
      unfold parLoc at hl'
      simp only [Bool.and_eq_true, decide_eq_true_eq] at hl'
      obtain ⟨l1, l2, l4⟩ := par2 hl'.1
      have hd := hl'.2.1
      rw [l4] at hd hsw
      have hne := dup2 hd
      refine psW (ps_par c.calm (by rw [c.N]; exact c.nd) (by rw [c.N]; exact slotOf_get hi) (by rw [c.N]; exact slotOf_get hj) (slot_ne hi hj hne) (by rw [c.sceq]; exact l1) (by rw [c.sceq]; exact l2) (ok_evs hE [a, b] hst) hsw) fun D σ H ⟨φ, st, ρ, rs, rl, o⟩ => ?_
      simp only [if_pos hp] at o
      refine tS_seq rs rl o fun xs H1 φ1 st1 vs e1 rs1 rl1 rv o1 => ?_
      match vs, rv, o1 with
      | [v, w], rv, o1 =>
        obtain ⟨y1, y2, rfl, r1, r2⟩ := RvL.two_inv rv
        rw [asg] at o1
        exact ⟨y1, y2, rfl, OutS.nx o1 rs1 ((rl1.set i r1).set j r2)⟩
      | [], _, o1 => (rw [asgP_len (by simp only [List.length_cons, List.length_nil]; omega)] at o1; exact False.elim o1)
      | [_], _, o1 => (rw [asgP_len (by simp only [List.length_cons, List.length_nil]; omega)] at o1; exact False.elim o1)
      | _ :: _ :: _ :: _, _, o1 => (rw [asgP_len (by simp only [List.length_cons, List.length_nil]; omega)] at o1; exact False.elim o1)
    · have hl2 : ¬(parN sc [.Name x px, .Name y py]).length = ([.Name x px, .Name y py] : List Expr).length := by simpa using hl
      refine psW (ps_asg (ok_tup hE) (ok_tg c.toCt (.Tuple [.Name x px, .Name y py] k q)) (by rfl) (swap_no c.sceq hl2)) fun D σ H ⟨φ, st, ρ, rs, rl, o⟩ => ?_
      simp only [if_pos hp] at o
      refine tS_seq (W := W) (D := D) (st := st) (m := fun ρ => bnd (argsP E [a, b] ρ) fun vs => if vs.length ≤ sizeLine then ret (.tup vs) else stop) (f := fun v s => match asgP L.N sc (.Tuple [.Name x px, .Name y py] k q) v ρ with
        | some ρ' => .ok .next ρ' s
        | none => .bad) rs rl ?_ fun z H1 φ1 st1 v e1 rs1 rl1 rv o1 => ?_
      · unfold bndS bnd argsP at *
        rw [if_pos hst]
        cases hz : evEs E [a, b] ρ st with
        | bad => rw [hz] at o; exact o
        | exc kk fs s1 => rw [hz] at o; exact o
        | ok vs s1 =>
          rw [hz] at o
          have hlen := evs_len hz
          try dsimp only
          rw [if_pos (by rw [hlen]; show 2 ≤ sizeLine; decide)]
          exact o
      · cases ha : asgP L.N sc (.Tuple [.Name x px, .Name y py] k q) v ρ with
        | none => rw [ha] at o1; exact False.elim o1
        | some ρ' =>
          rw [ha] at o1
          exact ⟨φ1, ρ, v, ρ', rl1, rv, ha, fun σ' rl' _ => OutS.nx o1 rs1 rl'⟩
  · exact ps_no (tS_no fun ρ st => by rw [if_neg hp])
theorem ok_par3 (c : CtS ca fa fd L sc X W) (hE : ∀ e, PE X e (tE X ca W (E e))) {x y z : Str} {px py pz q q2 p : Pos} {k k2 : Nat} {a b d : Expr} :
    PS X (.Assign [.Tuple [.Name x px, .Name y py, .Name z pz] k q] (.Tuple [a, b, d] k2 q2) p) (tS X ca W fun ρ s =>
      if (parOk sc [.Name x px, .Name y py, .Name z pz] [a, b, d] && tgOk L.N sc [.Name x px, .Name y py, .Name z pz]) = true then bndS (evEs E [a, b, d] ρ) ρ (fun vs s => match asgP L.N sc (.Tuple [.Name x px, .Name y py, .Name z pz] k q) (.tup vs) ρ with
        | some ρ' => .ok .next ρ' s
        | none => .bad) s
      else .bad) := by
  by_cases hp : (parOk sc [.Name x px, .Name y py, .Name z pz] [a, b, d] && tgOk L.N sc [.Name x px, .Name y py, .Name z pz]) = true
  · obtain ⟨hp', hg⟩ := Bool.and_eq_true_iff.mp hp
    obtain ⟨b1, ⟨i, hi⟩, hg⟩ := tg_inv hg
    obtain ⟨b2, ⟨j, hj⟩, hg⟩ := tg_inv hg
    obtain ⟨b3, ⟨m, hm⟩, _⟩ := tg_inv hg
    unfold parOk at hp'
    obtain ⟨hst, hp2⟩ := Bool.and_eq_true_iff.mp hp'
    have asg : ∀ {v w u : PV} {ρ : Sl}, asgP L.N sc (.Tuple [.Name x px, .Name y py, .Name z pz] k q) (.tup [v, w, u]) ρ = some (((ρ.set i (some v)).set j (some w)).set m (some u)) := fun {v w u ρ} => by
      have hb : (locB sc x && locB sc y && locB sc z) = true := by rw [b1, b2, b3]; rfl
      exact asgP_three hb hi hj hm
    rcases Bool.or_eq_true_iff.mp hp2 with hl | hl
    · have hsw := swap_yes (k := k) (q := q) (k2 := k2) (q2 := q2) c.sceq c.fkind (by rfl) (by rfl) hst hl
      have hl' := hl
      unfold parLoc at hl'
      simp only [Bool.and_eq_true, decide_eq_true_eq] at hl'
      obtain ⟨l1, l2, l3, l4⟩ := par3 hl'.1
      have hd := hl'.2.1
      rw [l4] at hd hsw
      obtain ⟨n1, n2, n3⟩ := dup3 hd
      refine psW (ps_par3 c.calm (by rw [c.N]; exact c.nd) (by rw [c.N]; exact slotOf_get hi) (by rw [c.N]; exact slotOf_get hj) (by rw [c.N]; exact slotOf_get hm) (slot_ne hi hj n1) (slot_ne hi hm n2) (slot_ne hj hm n3) (by rw [c.sceq]; exact l1) (by rw [c.sceq]; exact l2) (by rw [c.sceq]; exact l3) (ok_evs hE [a, b, d] hst) hsw) fun D σ H ⟨φ, st, ρ, rs, rl, o⟩ => ?_
      simp only [if_pos hp] at o
      refine tS_seq rs rl o fun xs H1 φ1 st1 vs e1 rs1 rl1 rv o1 => ?_
      match vs, rv, o1 with
      | [v, w, u], .cons r1 rv, o1 =>
        obtain ⟨y2, y3, rfl, r2, r3⟩ := RvL.two_inv rv
        rw [asg] at o1
        exact ⟨_, y2, y3, rfl, OutS.nx o1 rs1 (((rl1.set i r1).set j r2).set m r3)⟩
      | [], _, o1 => (rw [asgP_len (by simp only [List.length_cons, List.length_nil]; omega)] at o1; exact False.elim o1)
      | [_], _, o1 => (rw [asgP_len (by simp only [List.length_cons, List.length_nil]; omega)] at o1; exact False.elim o1)
      | [_, _], _, o1 => (rw [asgP_len (by simp only [List.length_cons, List.length_nil]; omega)] at o1; exact False.elim o1)
      | _ :: _ :: _ :: _ :: _, _, o1 => (rw [asgP_len (by simp only [List.length_cons, List.length_nil]; omega)] at o1; exact False.elim o1)
    · have hl2 : ¬(parN sc [.Name x px, .Name y py, .Name z pz]).length = ([.Name x px, .Name y py, .Name z pz] : List Expr).length := by simpa using hl
      refine psW (ps_asg (ok_tup hE) (ok_tg c.toCt (.Tuple [.Name x px, .Name y py, .Name z pz] k q)) (by rfl) (swap_no c.sceq hl2)) fun D σ H ⟨φ, st, ρ, rs, rl, o⟩ => ?_
      simp only [if_pos hp] at o
      refine tS_seq (W := W) (D := D) (st := st) (m := fun ρ => bnd (argsP E [a, b, d] ρ) fun vs => if vs.length ≤ sizeLine then ret (.tup vs) else stop) (f := fun v s => match asgP L.N sc (.Tuple [.Name x px, .Name y py, .Name z pz] k q) v ρ with
        | some ρ' => .ok .next ρ' s
        | none => .bad) rs rl ?_ fun z' H1 φ1 st1 v e1 rs1 rl1 rv o1 => ?_
      · unfold bndS bnd argsP at *
        rw [if_pos hst]
        cases hz : evEs E [a, b, d] ρ st with
        | bad => rw [hz] at o; exact o
        | exc kk fs s1 => rw [hz] at o; exact o
        | ok vs s1 =>
          rw [hz] at o
          have hlen := evs_len hz
          try dsimp only
          rw [if_pos (by rw [hlen]; show 3 ≤ sizeLine; decide)]
          exact o
      · cases ha : asgP L.N sc (.Tuple [.Name x px, .Name y py, .Name z pz] k q) v ρ with
        | none => rw [ha] at o1; exact False.elim o1
        | some ρ' =>
          rw [ha] at o1
          exact ⟨φ1, ρ, v, ρ', rl1, rv, ha, fun σ' rl' _ => OutS.nx o1 rs1 rl'⟩
  · exact ps_no (tS_no fun ρ st => by rw [if_neg hp])

theorem RvL.zip {φ : List Addr} {H : Hp} {f : Str} {v : PV} : ∀ {fl : List Str} {vs : List PV} {xs : List V}, RvL X.K φ H vs xs → (fl.zip vs).lookup f = some v → ∃ x, (fl.zip xs).lookup f = some x ∧ Rv X.K φ H v x
  | [], _, _, _, h => by cases h
  | _ :: _, _, _, .nil, h => by cases h
  | g :: fl, _, _, .cons r t, h => by
    simp only [List.zip_cons_cons, List.lookup_cons] at h ⊢
    cases hb : f == g with
    | true => rw [hb] at h; cases h; exact ⟨_, rfl, r⟩
    | false => rw [hb] at h; exact RvL.zip t h
theorem ok_raise (c : CtS ca fa fd L sc X W) (hE : ∀ e, PE X e (tE X ca W (E e))) {e : Expr} {p : Pos} : PS X (.Raise (some e) none p) (tS X ca W (excP L E sc e)) := by
  unfold excP
  split
  · rename_i x px as pos
    by_cases hg : globB sc x = true
    · cases hl : L.T.glob.lookup x with
      | none => exact ps_no (tS_no fun ρ st => by simp only [if_pos hg])
      | some g =>
        cases g with
        | cls k =>
          cases he : (L.T.cls[k]?).bind (·.exc) with
          | none => exact ps_no (tS_no fun ρ st => by simp only [if_pos hg, he])
          | some ex =>
            cases ex with
            | none =>
              match as with
              | [.Constant (.str m) j p2] =>
                refine psW (ps_raise c.calm c.tks (c.mk1 X.pn X.xe x k m j px p2 pos hl he hg)) fun D σ H ⟨φ, st, ρ, rs, rl, o⟩ => ?_
                simp only [if_pos hg, he] at o
                exact o φ H σ none .refl rs rl fun f v h => by cases h
              | [] => exact ps_no (tS_no fun ρ st => by simp only [if_pos hg, he])
              | a :: b :: r => exact ps_no (tS_no fun ρ st => by simp only [if_pos hg, he])
              | [a] =>
                by_cases hc : ∃ m j p2, a = .Constant (.str m) j p2
                · obtain ⟨m, j, p2, rfl⟩ := hc
                  refine psW (ps_raise c.calm c.tks (c.mk1 X.pn X.xe x k m j px p2 pos hl he hg)) fun D σ H ⟨φ, st, ρ, rs, rl, o⟩ => ?_
                  simp only [if_pos hg, he] at o
                  exact o φ H σ none .refl rs rl fun f v h => by cases h
                · exact ps_no (tS_no fun ρ st => by
                    simp only [if_pos hg, he]
                    split
                    · rename_i m j p2 e2
                      exact absurd ⟨m, j, p2, (List.cons.inj e2).1⟩ hc
                    · rfl)
            | some fl =>
              cases as with
              | nil => exact ps_no (tS_no fun ρ st => by simp only [if_pos hg, he]; rfl)
              | cons a r =>
                by_cases hs : (a :: r).all noStar = true
                · refine psW (ps_raise c.calm c.tks (c.mk2 X.pn X.xe x k fl a r _ px pos hl he hg hs (ok_args hE (a :: r)))) fun D σ H ⟨φ, st, ρ, rs, rl, o⟩ => ?_
                  simp only [if_pos hg, he] at o
                  refine tS_seq (m := argsP E (a :: r)) rs rl o fun xs H1 φ1 st1 vs e1 rs1 rl1 rv o1 => ?_
                  by_cases hz : vs.length = fl.length ∧ fl.length ≤ 5
                  · rw [if_pos hz] at o1
                    refine ⟨by rw [← rv.len]; exact hz.1, fun d us hd hu => ?_⟩
                    have ex : Ext φ1 H1 φ1 (upd H1 d (.xd us)) := ext_new hd
                    refine o1 φ1 _ σ (some d) ex (rs1.new hd) (rl1.ext ex) fun f v hv => ?_
                    obtain ⟨z, z1, z2⟩ := RvL.zip (X := X) rv hv
                    exact ⟨d, us, z, rfl, upd_same, hu f z z1, z2.ext ex⟩
                  · rw [if_neg hz] at o1
                    exact False.elim o1
                · exact ps_no (tS_no fun ρ st => by
                    simp only [if_pos hg, he]
                    show bndS (argsP E (a :: r) ρ) _ _ _ = _
                    rw [all_star hs] <;> rfl)
        | fn k => exact ps_no (tS_no fun ρ st => by simp only [if_pos hg])
        | cst k => exact ps_no (tS_no fun ρ st => by simp only [if_pos hg])
    · exact ps_no (tS_no fun ρ st => by rw [if_neg hg])
  · exact ps_no (tS_no fun _ _ => rfl)
end
end Z

namespace Z
open PySem L2
section
variable {X : Cx} {ca : Nat → Addr} {W : WX} {fa : Nat → Addr} {fd : Nat → FuncData} {L : Lk} {sc : Scope} {E : EM}
/-- within a try's body -/
theorem CtS.tr (c : CtS ca fa fd L sc X W) {W' : WX} (pn : List (Addr × Obj)) (xe : Value → Shared → Prop) (tk : Takes (X.tr pn xe) W') (hp : PassesOwn (model X.prog X.w) X.A X.env xe) : CtS ca fa fd L sc (X.tr pn xe) W' where
  N := c.N
  nd := c.nd
  nb := c.nb
  calm := c.calm
  takes := .of c.stk c.frm tk
  tks := tk
  room := c.room
  un := c.un
  vis := c.vis
  loc := c.loc
  gl := c.gl
  blkf := c.blkf
  glob := c.glob
  sceq := c.sceq
  fkind := c.fkind
  passes := hp
  stk := c.stk
  frm := c.frm
  mk1 := c.mk1
  mk2 := c.mk2
  sub := c.sub
  xf := c.xf
/-- an except's suite: its reading -/
def tSui (X : Cx) (ca : Nat → Addr) (L : Lk) (nm : Option (Str × Nat)) (suite : List Stmt) (a : Addr) (cls : Value) (d : Option Addr) : TS := fun D σ H =>
  match suite with
  | [.Return (some (.Constant .none _ _)) _] => D.rt .non H
  | [.Return (some (.Constant (.bool b) _ _)) _] => D.rt (.bl b) H
  | [.Return (some (.Attribute (.Name x _) f _)) _] => ∃ y i k fl, nm = some (y, i) ∧ x = y ∧ excF L.T k = some fl ∧ fl.contains f = true ∧ tRet (tXf a cls d (ca k) f (tVar i)) D σ H
  | [.Pass _] => D.nx σ H
  | [.Continue _] => D.ct σ H
  | [.Return (some (.Tuple [.Constant (.str x) _ _] _ _)) _] => tRet (tTup (tCons (tC (.str x)) tNil)) D σ H
  | _ => False
theorem ok_sui (c : CtS ca fa fd L sc X W) {nm : Option (Str × Nat)} (hnm : ∀ y i, nm = some (y, i) → L.N[i]? = some y ∧ visB sc y = true) {suite : List Stmt} {a : Addr} {oe : Obj} {cls : Value} {d : Option Addr} {pn : List (Addr × Obj)} (hz : Zc cls d oe) (hf : ∃ vs, oe.data = .fields vs) :
    PSs (X.suite a ((a, oe) :: pn)) suite (tSui X ca L nm suite a cls d) := by
  unfold tSui
  split
  · exact pss_one (ps_ret pe_non)
  · exact pss_one (ps_ret pe_bl)
  · rename_i x px f pf pr
    refine ⟨fun pins s σ H D I ⟨y, i, k, fl, e1, e2, e3, e4, q⟩ => ?_⟩
    subst e2
    obtain ⟨h1, h2⟩ := hnm x i e1
    obtain ⟨n1, n2⟩ := c.nb x (List.mem_of_getElem? h1)
    obtain ⟨g1, g2⟩ := c.xf k fl f e3 e4
    have hv : PE (X.suite a ((a, oe) :: pn)) (.Name x px) (tVar i) := pe_var (by show X.N[i]? = _; rw [c.N]; exact h1) (c.vis x h2) n1 n2
    exact (pss_one (ps_ret (pe_xf g1 g2 hz hf hv (by rfl)))).run pins s σ H D I q
  · exact pss_one ps_pass
  · exact pss_one ps_continue
  · exact pss_one (ps_ret (pe_tup (pa_cons pe_str pa_nil)))
  · exact ⟨fun _ _ _ _ _ _ q => q.elim⟩
def goneS (nm : Option (Str × Nat)) (σ : St) : St :=
  match nm with
  | some (_, i) => σ.set i none
  | none => σ
/-- what a suite's reading wants, from the machine's answer -/
theorem sui_read {nm : Option (Str × Nat)} {nm' : Option Str} (hn : nm' = nm.map (·.1)) {suite : List Stmt} {a : Addr} {k : Nat} {d : Option Addr} {fl : List Str} {fs : List (Str × PV)} {r : Fl} {φ : List Addr} {st : Store} {ρ ρ1 : Sl} {σ1 : St} {H : Hp} {D D1 : Ends}
    (hk : excF L.T k = some fl) (hs : suiP nm' fl fs suite = some r) (rs : SR X.K ca φ st H) (rl : RL X.K φ H ρ1 σ1) (rx : Rx X.K φ H fs d) (o : OutS X.K ca W φ H D (.ok r ρ st))
    (hnx : ∀ σ' H', D1.nx σ' H' = D.nx (goneS nm σ') H') (hct : ∀ σ' H', D1.ct σ' H' = D.ct (goneS nm σ') H') (hrt : D1.rt = D.rt) (hρ : ∀ y i, nm = some (y, i) → σ1[i]? = some (some (.ref a))) (hrl : RL X.K φ H ρ (goneS nm σ1)) :
    tSui X ca L nm suite a (.ref (ca k)) d D1 σ1 H := by
  unfold suiP at hs
  unfold tSui
  split at hs
  · cases hs
    rw [hrt]
    exact o φ H .non .refl rs .non
  · cases hs
    rw [hrt]
    exact o φ H _ .refl rs (.bl _)
  · rename_i x px f pf pr
    by_cases hc : nm' = some x ∧ fl.contains f = true
    · rw [if_pos hc] at hs
      cases hl : fs.lookup f with
      | none => rw [hl] at hs; cases hs
      | some v =>
        rw [hl] at hs
        cases hs
        cases nm with
        | none => rw [hn] at hc; cases hc.1
        | some p =>
          obtain ⟨y, i⟩ := p
          rw [hn] at hc
          obtain ⟨dd, us, z, e1, e2, e3, e4⟩ := rx f v hl
          refine ⟨y, i, k, fl, rfl, (Option.some.inj hc.1).symm, hk, hc.2, ?_⟩
          refine ⟨.ref a, hρ y i rfl, rfl, rfl, dd, us, z, e1, e2, e3, ?_⟩
          rw [hrt]
          exact o φ H z .refl rs e4
    · rw [if_neg hc] at hs
      cases hs
  · cases hs
    rw [hnx]
    exact o φ H _ .refl rs hrl
  · cases hs
    show D1.ct σ1 H
    rw [hct]
    exact o φ H _ .refl rs hrl
  · cases hs
    refine ⟨(by decide : 1 ≤ sizeLine), fun p hp => ?_⟩
    show D1.rt _ _
    rw [hrt]
    exact o φ _ _ (ext_new hp) (rs.new hp) (.tup (SqT.of upd_same) (.cons (.str _) .nil))
  · cases hs
theorem ok_try (c : CtS ca fa fd L sc X W) {S : Stmt → SM} (hS : ∀ (W' : WX) (pn : List (Addr × Obj)) (xe : Value → Shared → Prop), CtS ca fa fd L sc (X.tr pn xe) W' → ∀ s, PS (X.tr pn xe) s (tS (X.tr pn xe) ca W' (S s)))
    {b suite : List Stmt} {s0 : Stmt} {x : Str} {nm : Option Str} {p p2 p3 : Pos} :
    PS X (.Try b [.ExceptHandler (some (.Name x p)) nm (s0 :: suite) p2] [] [] p3) (tS X ca W fun ρ s =>
      if (globB sc x && nmOk L.N sc nm) = true then match L.T.glob.lookup x with
        | some (.cls c') => match blk S b ρ s with
          | .exc c fs ρ' s' => match excF L.T c, excF L.T c' with
            | some fl, some _ => if L.T.sub c c' = true then match suiP nm fl fs (s0 :: suite) with
                | some r => goneP L.N nm r ρ' s'
                | none => .bad
              else .exc c fs ρ' s'
            | _, _ => .bad
          | o => o
        | _ => .bad
      else .bad) := by
  by_cases hg : (globB sc x && nmOk L.N sc nm) = true
  · obtain ⟨hgx, hnm⟩ := Bool.and_eq_true_iff.mp hg
    obtain ⟨gl, gd⟩ := c.gl x hgx
    cases hl : L.T.glob.lookup x with
    | none => exact ps_no (tS_no fun ρ st => by rw [if_pos hg])
    | some g =>
      cases g with
      | cls k' =>
        have names : Names X x (.ref (ca k')) := ⟨gl, gd, .inl (c.glob.cls x k' hl)⟩
        have body : ∀ (W' : WX) (pn : List (Addr × Obj)) (xe : Value → Shared → Prop), Takes (X.tr pn xe) W' → PassesOwn (model X.prog X.w) X.A X.env xe → PSs (X.tr pn xe) b (tS X ca W' (blk S b)) := fun W' pn xe tk hp =>
          ok_blk (X := X.tr pn xe) (hS W' pn xe (c.tr pn xe tk hp)) b
        cases nm with
        | none =>
          refine psW (ps_try_only (ts := tSui X ca L none (s0 :: suite)) c.stk c.frm names c.tks body fun a oe cls d pn hz hf => ok_sui c (fun y i e => by cases e) hz hf) fun D σ H ⟨φ, st, ρ, rs, rl, o⟩ => ?_
          simp only [if_pos hg] at o
          refine ⟨φ, st, ρ, rs, rl, ?_⟩
          cases hz : blk S b ρ st with
          | bad => rw [hz] at o; exact o
          | ok f ρ1 s1 => rw [hz] at o; cases f <;> exact o
          | exc k fs ρ1 s1 =>
            rw [hz] at o
            intro φ1 H1 σ1 d e1 rs1 rl1 rx
            try dsimp only at o
            cases h1 : excF L.T k with
            | none => rw [h1] at o; exact False.elim o
            | some fl =>
              cases h2 : excF L.T k' with
              | none => rw [h1, h2] at o; exact False.elim o
              | some fl' =>
                rw [h1, h2] at o
                try dsimp only at o
                refine ⟨L.T.sub k k', c.sub k k' (by rw [h1]; rfl) (by rw [h2]; rfl), fun hb a ha => ?_, fun hb => ?_⟩
                · rw [if_pos hb] at o
                  cases h3 : suiP none fl fs (s0 :: suite) with
                  | none => rw [h3] at o; exact False.elim o
                  | some r =>
                    rw [h3] at o
                    exact sui_read (W := W) (nm := none) rfl h1 h3 rs1 rl1 rx (OutS.base e1 o) (fun _ _ => rfl) (fun _ _ => rfl) rfl (fun y i e => by cases e) rl1
                · rw [if_neg (by rw [hb]; decide)] at o
                  exact o φ1 H1 σ1 d e1 rs1 rl1 rx
        | some y =>
          unfold nmOk at hnm
          obtain ⟨n1, n2⟩ := Bool.and_eq_true_iff.mp hnm
          have n1' : sc.names.lookup y = some .local := by simpa using n1
          obtain ⟨i, hi⟩ := Option.isSome_iff_exists.mp n2
          have hN := slotOf_get hi
          refine psW (ps_try_as (ts := tSui X ca L (some (y, i)) (s0 :: suite)) c.stk c.frm (by rw [c.N]; exact c.nd) (by rw [c.N]; exact hN) (by show X.env.scope.names.lookup y = _; rw [c.sceq]; exact n1') names c.tks body
            fun a oe cls d pn hz hf => ok_sui c (fun y' i' e => by cases e; exact ⟨hN, by unfold visB; rw [n1']⟩) hz hf) fun D σ H ⟨φ, st, ρ, rs, rl, o⟩ => ?_
          simp only [if_pos hg] at o
          refine ⟨φ, st, ρ, rs, rl, ?_⟩
          cases hz : blk S b ρ st with
          | bad => rw [hz] at o; exact o
          | ok f ρ1 s1 => rw [hz] at o; cases f <;> exact o
          | exc k fs ρ1 s1 =>
            rw [hz] at o
            intro φ1 H1 σ1 d e1 rs1 rl1 rx
            try dsimp only at o
            cases h1 : excF L.T k with
            | none => rw [h1] at o; exact False.elim o
            | some fl =>
              cases h2 : excF L.T k' with
              | none => rw [h1, h2] at o; exact False.elim o
              | some fl' =>
                rw [h1, h2] at o
                try dsimp only at o
                refine ⟨L.T.sub k k', c.sub k k' (by rw [h1]; rfl) (by rw [h2]; rfl), fun hb a ha => ?_, fun hb => ?_⟩
                · rw [if_pos hb] at o
                  cases h3 : suiP (some y) fl fs (s0 :: suite) with
                  | none => rw [h3] at o; exact False.elim o
                  | some r =>
                    rw [h3] at o
                    simp only [goneP, hi] at o
                    by_cases hlt : i < ρ1.length
                    · rw [if_pos hlt] at o
                      have hs : i < σ1.length := by rw [← rl1.1]; exact hlt
                      refine sui_read (W := W) (D := D) (nm := some (y, i)) rfl h1 h3 rs1 (ρ1 := ρ1.set i none) (rl1.del i) rx (OutS.base e1 o) (fun _ _ => rfl) (fun _ _ => rfl) rfl (fun y' i' e => by cases e; exact List.getElem?_set_self hs) ?_
                      show RL X.K φ1 H1 (ρ1.set i none) ((σ1.set i (some (.ref a))).set i none)
                      rw [List.set_set]
                      exact rl1.del i
                    · rw [if_neg hlt] at o
                      exact False.elim o
                · rw [if_neg (by rw [hb]; decide)] at o
                  exact o φ1 H1 σ1 d e1 rs1 rl1 rx
      | fn k => exact ps_no (tS_no fun ρ st => by simp only [if_pos hg])
      | cst k => exact ps_no (tS_no fun ρ st => by simp only [if_pos hg])
  · exact ps_no (tS_no fun ρ st => by rw [if_neg hg])
theorem ok_tasg (c : CtS ca fa fd L sc X W) (hE : ∀ e, PE X e (tE X ca W (E e))) {ts : List Expr} {k : Nat} {q p : Pos} {e : Expr} :
    PS X (.Assign [.Tuple ts k q] e p) (tS X ca W fun ρ s => match parOf ts e with
      | some es => if (parOk sc ts es && tgOk L.N sc ts) = true then bndS (evEs E es ρ) ρ (fun vs s => match asgP L.N sc (.Tuple ts k q) (.tup vs) ρ with
          | some ρ' => .ok .next ρ' s
          | none => .bad) s
        else .bad
      | none => if tupB e = true then .bad else bndS (E e ρ) ρ (fun v s => bndS (unlP v) ρ (fun v s => match asgP L.N sc (.Tuple ts k q) v ρ with
        | some ρ' => .ok .next ρ' s
        | none => .bad) s) s) := by
  cases h : parOf ts e with
  | none => exact ok_tset c.toCt hE
  | some es =>
    unfold parOf at h
    split at h
    · cases h
      exact ok_par c hE
    · cases h
      exact ok_par3 c hE
    · cases h
/-- every statement is read as the machine runs it -/
theorem ok_evS : ∀ (n : Nat) (X : Cx) (W : WX), CtS ca fa fd L sc X W → ∀ s, PS X s (tS X ca W (evS L sc n s))
  | 0, X, W, c, s => ps_no (tS_no fun _ _ => rfl)
  | n + 1, X, W, c, s => by
    have hS := ok_evS n X W c
    have hE := ok_evE (ca := ca) (fa := fa) (fd := fd) (L := L) 40 X sc W c.toCt
    unfold evS
    split
    · exact ok_pass
    · exact ok_brk
    · exact ok_cont
    · exact ok_expr hE
    · exact ok_retN
    · exact ok_ret hE
    · exact ok_set c
    · exact ok_sub c.toCt hE
    · exact ok_fset c.toCt hE
    · exact ok_tasg c hE
    · exact ok_augA c.toCt hE
    · exact ok_augS c.toCt hE
    · exact ok_if c.toCt hE hS
    · exact ok_while c hE hS
    · exact ok_for c hE hS
    · exact ok_raise c hE
    · exact ok_try c fun W' pn xe cc s => ok_evS n (X.tr pn xe) W' cc s
    · exact ps_no (tS_no fun _ _ => rfl)
end
end Z

namespace Z
open PySem L2
/-- a def of the text -/
structure DefOk (K : PySem.W.Frag) (F : FnI) (f : Addr) (fd : FuncData) : Prop where
  fn : ∃ x qual st, Fun K x qual st f fd ∧ F.body = defBody st ∧ F.sc = defScope st
  S : FnScope F.N F.ps F.sc
  nb : ∀ x ∈ F.N, (x == ("__debug__" : Str)) = false ∧ (x == ("__classdict__" : Str)) = false
  b : Binds K fd F.ps []
/-- what the module's written part says -/
structure ModOk (T : Tab) (P : Program) (w : World) (K : PySem.W.Frag) (mg : Str → Option Value) (base : Heap) (ca fa : Nat → Addr) (fd : Nat → FuncData) : Prop where
  glob : GlobOk T K mg ca fa fd
  defs : ∀ i F, T.fns[i]? = some F → DefOk K F (fa i) (fd i)
  mk1 : ∀ (X : Cx) x c m j p p2 pos, X.prog = P → X.w = w → X.K = K → X.mg = mg → T.glob.lookup x = some (.cls c) → (T.cls[c]?).bind (·.exc) = some none → Gl X x → (x == ("__debug__" : Str)) = false →
    PMk X (.Call (.Name x p) [.Constant (.str m) j p2] [] pos) (fun _ H Q => Q (.ref (ca c)) none H)
  mk2 : ∀ (X : Cx) x c fl e es t p pos, X.prog = P → X.w = w → X.K = K → X.mg = mg → Room 1 X.A → T.glob.lookup x = some (.cls c) → (T.cls[c]?).bind (·.exc) = some (some fl) → Gl X x → (x == ("__debug__" : Str)) = false →
    (e :: es).all noStar = true → PA X (e :: es) t → PMk X (.Call (.Name x p) (e :: es) [] pos) (tMk2 (ca c) fl t)
  sub : ∀ c c', (excF T c).isSome = true → (excF T c').isSome = true → PySem.W.exmOne K (.ref (ca c)) (.ref (ca c')) = some (T.sub c c')
  xf : ∀ c fl f, excF T c = some fl → fl.contains f = true → XfC K (ca c) ∧ PySem.W.findIn K (.ref (ca c)) f = some none

theorem start_get {α : Type} {N : List Str} {vs : List α} {i : Nat} {v : α} (h : (vs.map some ++ List.replicate (N.length - vs.length) none)[i]? = some (some v)) : vs[i]? = some v := by
  by_cases hi : i < vs.length
  · rw [List.getElem?_append_left (by simpa using hi), List.getElem?_map] at h
    cases e : vs[i]? with
    | none => rw [e] at h; cases h
    | some a => rw [e] at h; cases h; rfl
  · rw [List.getElem?_append_right (by simpa using hi), List.getElem?_replicate] at h
    split at h <;> cases h
theorem start_put {α : Type} {N : List Str} {vs : List α} {i : Nat} {v : α} (h : vs[i]? = some v) : (vs.map some ++ List.replicate (N.length - vs.length) none)[i]? = some (some v) := by
  have hi : i < vs.length := (List.getElem?_eq_some_iff.mp h).1
  rw [List.getElem?_append_left (by simpa using hi), List.getElem?_map, h]
  rfl
theorem RL.start {K : PySem.W.Frag} {φ : List Addr} {H : Hp} {N : List Str} {vs : List PV} {xs : List V} (r : RvL K φ H vs xs) : RL K φ H (Z.start N vs) (L2.start N xs) := by
  refine ⟨?_, fun i v h => ?_⟩
  · show (vs.map some ++ List.replicate (N.length - vs.length) none).length = (xs.map some ++ List.replicate (N.length - xs.length) none).length
    simp [r.len]
  · obtain ⟨x, h1, h2⟩ := r.get (start_get h)
    exact ⟨x, start_put h1, h2⟩
section
variable {T : Tab} {P : Program} {w : World} {K : PySem.W.Frag} {mg : Str → Option Value} {base : Heap} {ca fa : Nat → Addr} {fd : Nat → FuncData}
theorem fn_stop {k : Nat} {f : Addr} {fd' : FuncData} {ps : List Str} {i : Nat} : FnOk P w K mg base (L2.CX P w) k f fd' ps (spC K ca (fun _ _ => stop) i) :=
  ⟨fun vs H Q E ⟨_, _, _, _, _, o⟩ => o.elim, fun A outer s H args us vs Q E _ _ _ _ ⟨_, _, _, _, _, o⟩ => o.elim⟩
theorem fns_ok (M : ModOk T P w K mg base ca fa fd) : ∀ d : Nat, (∀ i F, T.fns[i]? = some F → FnOk P w K mg base (L2.CX P w) (d + 2) (fa i) (fd i) F.ps (spC K ca (call2 T d).1 i)) ∧
    ∀ i F, T.fns[i]? = some F → FnOk P w K mg base (L2.CX P w) (d + 1) (fa i) (fd i) F.ps (spC K ca (call2 T d).2 i)
  | 0 => ⟨fun i F _ => fn_stop, fun i F _ => fn_stop⟩
  | d + 1 => by
    obtain ⟨ih1, ih2⟩ := fns_ok M d
    refine ⟨fun i F hF => ?_, ih1⟩
    have D := M.defs i F hF
    obtain ⟨x, qual, st, FN, eb, es⟩ := D.fn
    obtain ⟨oc, od, kV, doc, pm, an, cdv, ct, osl, efd, lk, hcd⟩ := FN.ex
    have S := D.S
    show FnOk P w K mg base (L2.CX P w) (d + 1 + 2) (fa i) (fd i) F.ps (spC K ca (callB T (call2 T d).1 (call2 T d).2) i)
    have len : ∀ vs H Q E, spC K ca (callB T (call2 T d).1 (call2 T d).2) i vs H Q E → vs.length = F.ps.length := fun vs H Q E ⟨φ, st, pvs, rs, rv, o⟩ => by
      unfold callB at o
      rw [hF] at o
      try dsimp only at o
      by_cases hl : pvs.length = F.ps.length
      · rw [← rv.len]; exact hl
      · rw [if_neg hl] at o
        exact False.elim o
    rw [efd] at lk ⊢
    refine fn_of lk hcd (es ▸ S) len fun A outer s H vs Q E hr hsp => ?_
    rw [← es, ← eb] at *
    refine ⟨_, ok_blk (ca := ca) (W := fun cls d _ H => E cls d H) (S := evS ⟨T, (call2 T d).1, (call2 T d).2, F.N⟩ F.sc 20) (ok_evS (fa := fa) (fd := fd) 20 _ _ ?_) F.body, ?_⟩
    · exact {
        N := rfl
        nd := S.nd
        nb := D.nb
        calm := rfl
        takes := .of rfl rfl (takes_of rfl rfl rfl rfl)
        tks := takes_of rfl rfl rfl rfl
        room := ⟨d + 2, d + 1, hr, hr, ih1, ih2⟩
        un := by
          have hu := hr.un
          show (A.deeper (PyProof.Rows.envOfC qual F.sc s.heap.objs.size (fa i) cdv)).units + 65 < cLine
          omega
        vis := fun x h => by
          show Vis F.sc x
          unfold visB at h
          unfold Vis
          split at h
          · rename_i e; exact .inl e
          · rename_i e; exact .inr (.inl e)
          · rename_i e; exact .inr (.inr e)
          · cases h
        loc := fun x h => by
          show L2.Loc F.sc x ∧ _
          unfold locB at h
          unfold L2.Loc
          split at h
          · rename_i e; exact ⟨.inl e, .inl rfl⟩
          · rename_i e; exact ⟨.inr e, .inl rfl⟩
          · cases h
        gl := fun x h => by
          show F.sc.names.lookup x = some .globalImplicit ∧ _
          unfold globB at h
          split at h
          · rename_i e
            exact ⟨e, by simpa using h⟩
          · cases h
        blkf := fun x h => h
        glob := M.glob
        sceq := rfl
        fkind := S.kind
        passes := passes_of rfl
        stk := rfl
        frm := rfl
        mk1 := fun pn xe x c m j p p2 pos h1 h2 h3 => by
          have hg : F.sc.names.lookup x = some .globalImplicit ∧ (x == ("__debug__" : Str)) = false := by
            unfold globB at h3
            split at h3
            · rename_i e
              exact ⟨e, by simpa using h3⟩
            · cases h3
          exact M.mk1 _ x c m j p p2 pos rfl rfl rfl rfl h1 h2 hg.1 hg.2
        mk2 := fun pn xe x c fl e es t p pos h1 h2 h3 h4 h5 => by
          have hg : F.sc.names.lookup x = some .globalImplicit ∧ (x == ("__debug__" : Str)) = false := by
            unfold globB at h3
            split at h3
            · rename_i e
              exact ⟨e, by simpa using h3⟩
            · cases h3
          exact M.mk2 _ x c fl e es t p pos rfl rfl rfl rfl (hr.mono (by omega)) h1 h2 hg.1 hg.2 h4 h5
        sub := M.sub
        xf := M.xf }
    · obtain ⟨φ, st0, pvs, rs, rv, o⟩ := hsp
      refine ⟨φ, st0, Z.start F.N pvs, rs, RL.start rv, ?_⟩
      unfold callB at o
      rw [hF] at o
      try dsimp only at o
      by_cases hl : pvs.length = F.ps.length
      · rw [if_pos hl] at o
        generalize blk (evS ⟨T, (call2 T d).1, (call2 T d).2, F.N⟩ F.sc 20) F.body (Z.start F.N pvs) st0 = z at o
        cases z with
        | bad => exact o
        | exc c fs ρ s' => exact fun φ' H' σ' d e rs' rl' rx => o φ' H' d e rs' rx
        | ok f ρ s' =>
          cases f with
          | next => exact fun φ' H' σ' e rs' rl' => o φ' H' _ e rs' .non
          | ret v => exact fun φ' H' u e rs' rv' => o φ' H' u e rs' rv'
          | brk => exact False.elim o
          | cont => exact False.elim o
      · rw [if_neg hl] at o
        exact False.elim o
end
end Z

section
set_option maxHeartbeats 2000000
namespace Z
open PySem PySem.W PySem.Calls PyProof.Rows
def tpA (p1 p2 p3 : Pos) : Arguments := { posonlyargs := [], args := [{ arg := "self", annotation := none, pos := p1 }, { arg := "code", annotation := none, pos := p2 }, { arg := "path", annotation := none, pos := p3 }], vararg := none, kwonlyargs := [], kw_defaults := [], kwarg := none, defaults := [] }
def tpB (a1 a2 a3 a4 a5 a6 b1 b2 b3 b4 c1 c2 c3 c4 : Pos) : List Stmt := [.Expr (.Call (.Attribute (.Call (.Name "super" a1) [] [] a2) "__init__" a3) [.Constant (.str "the program has no type") 0 a4] [] a5) a6,
  .Assign [.Attribute (.Name "self" b1) "code" b2] (.Name "code" b3) b4, .Assign [.Attribute (.Name "self" c1) "path" c2] (.Name "path" c3) c4]
def tpS : Scope := { kind := .function, names := [(PySem.Str.ofString "self", .local), (PySem.Str.ofString "code", .local), (PySem.Str.ofString "path", .local), (PySem.Str.ofString "__class__", .free), (PySem.Str.ofString "super", .globalImplicit)], isGenerator := false, isCoroutine := false, more := [] }
/-- what the written part says of the class at C, its __init__ at fI -/
structure TpTxt (K : Frag) (prog : Program) (C fI : Addr) : Prop where
  cls : ∃ nm q N bs bm sn sub ab col dd k0 k1 k2 k3 k5, K.lookup C = some (excClassObj nm q C N bs bm true sn sub ab col dd k0 k1 k2 k3 k5 "ValueError.__new__") ∧ PySem.HandSPX.refsVE bm = true
  sa : findIn K (.ref C) "__setattr__" = some (some (.builtin "object.__setattr__"))
  noC : findIn K (.ref C) "code" = some none
  noP : findIn K (.ref C) "path" = some none
  iC : findIn K (.ref C) "__init__" = some (some (.ref fI))
  tI : typeIn K (.ref fI) = some (.type "function")
  kC : keepIn K (.ref C) = true
  exC : subIn K (.ref C) (.type "BaseException") = some true
  tyC : typeIn K (.ref C) = some (.type "type")
  veC : subIn K (.ref C) (.type "ValueError") = some true
  slf : subIn K (.ref C) (.ref C) = some true
  sup : ks_superIn K C C "__init__" = some (some (.builtin "ValueError.__init__"))
  opq : nsIn K cStatics "thirdparty.any" = some none
  noS : nsIn K mainGlobals "super" = some none
  top : (prog.main.scope.names.lookup ("super" : Str)).isSome = false
  fn : ∃ (oc : Value) (od : Option Addr) (kV doc pm : Value) (an : Option Addr) (cda cc : Addr) (ct : Value) (osl : Array (Option Value)) (p1 p2 p3 a1 a2 a3 a4 a5 a6 b1 b2 b3 b4 c1 c2 c3 c4 : Pos),
    K.lookup fI = some ⟨oc, od, .func (ksFn "__init__" "TypeProblem.__init__" (tpA p1 p2 p3) (tpB a1 a2 a3 a4 a5 a6 b1 b2 b3 b4 c1 c2 c3 c4) tpS .none kV doc pm an (.ref cda) ct cc), osl⟩ ∧ codeIn K (.ref cda) "TypeProblem.__init__" = true ∧
    (a3.endLine == a5.line) = true ∧ (∃ ccl cdd vs ccs file tf, K.lookup cda = some ⟨ccl, cdd, .fields vs, ccs⟩ ∧ vs[2]? = some (.str file tf) ∧ ((prog.main.file : Str) == file) = true) ∧
    ∃ cl cld csl, K.lookup cc = some ⟨cl, cld, .cell (some (.ref C)), csl⟩
theorem call_eq0 {o e : PySem.Expr} {m : Str} {es : List PySem.Expr} {ap p : Pos} {env : Env} (h2 : (e :: es).all noStar = true) (h4 : (e :: es).length < 20) (h5 : (ap.endLine == p.line) = true) :
    eval (.Call (.Attribute o m ap) (e :: es) [] p) env = (do
      let ov ← attributeBase o m env (eval o env)
      standAt ap.atName
      let (f, first) ← holding [ov] (getMethod ov m (do return (← importBound o env).getD true))
      callWith p f first (backTo p (starEach (e :: es) env)) []) := by
  have h0 : eval (.Call (.Attribute o m ap) (e :: es) [] p) env = (do
    let ov ← attributeBase o m env (eval o env)
    standAt ap.atName
    methodCall o m ap p env ov ((e :: es).length + 0) (backTo p (starEach (e :: es) env)) (backToKw p (keywordEach [] env))) := rfl
  rw [h0]
  have hf : methodCallForm ((e :: es).length + 0) (backTo p (starEach (e :: es) env)) (backToKw p (keywordEach [] env)) = true := by
    have ha : ∀ (l : List PySem.Expr), l.all noStar = true → (backTo p (starEach l env)).all (fun x => !x.1) = true := fun l hl => by
      have q := star_all (env := env) (p := p) hl
      rw [List.any_eq_false] at q
      rw [List.all_eq_true]
      intro x hx
      simpa using q x hx
    unfold methodCallForm
    rw [ha _ h2]
    show (true && true && decide ((e :: es).length + 0 + 0 < 30)) = true
    rw [decide_eq_true (by omega)] <;> rfl
  have hp : methodCallPos true o env ap p = pure p := by
    unfold methodCallPos
    rw [h5] <;> rfl
  unfold methodCall
  rw [hf, hp]
  rfl
theorem ns_but {h h' : Heap} {x L : Addr} {m : Str → Option Value} (hn : h.Ns L m) (hne : L ≠ x) (k : ∀ b o, b ≠ x → h.get? b = some o → h'.get? b = some o) : h'.Ns L m := by
  obtain ⟨oL, es, ep, hL, r⟩ := hn
  exact ⟨oL, es, ep, k _ _ hne hL, r⟩
/-- the method-wrapper called -/
theorem call_mw {prog : Program} {w : World} {A : Around} {E : Value → Shared → Prop} {h : Heap} {g : Array GenState} {d : Drawn} {t : Nat} {os : OsState} {nm q : Str} {C N : Addr} {bs bm : List Value} {hdct : Bool} {sn : List Str} {sub : List Value} {ab : Bool} {col : Option Bool} {dd : Option Addr} {k0 k1 k2 k3 k5 : Option Value}
    {u e t0 : Addr} {rest : List Value} {Q : Value → Shared → Prop} (hC : h.get? C = some (excClassObj nm q C N bs bm hdct sn sub ab col dd k0 k1 k2 k3 k5 "ValueError.__new__")) (he : h.get? e = some (PySem.HandSPX.excO C t0)) (hu : h.get? u = some (kxs_mw "ValueError.__init__" e)) (hrest : rest.length ≤ sizeLine)
    (hq : ∀ h' t1, (∀ b o, b ≠ e → h.get? b = some o → h'.get? b = some o) → h'.get? e = some (PySem.HandSPX.excO C t1) → Q .none ⟨h', g, d, t, os⟩) :
    wpAny (model prog w) A (call (.ref u) rest) Q E ⟨h, g, d, t, os⟩ := by
  refine wpAny_call (codeAny_of_tree ?_)
  show wpAny _ A.in1 (callAny (.ref u) ⟨rest, []⟩) _ _ ⟨h, g, d, t, os⟩
  have h1 : (Value.type "method-wrapper" == Value.type "method" || Value.type "method-wrapper" == Value.type "builtin_function_or_method" ||
    Value.type "method-wrapper" == Value.type "method-wrapper") = true := by decide
  simp only [callAny]
  refine wpAny_bind (wpAny_load hu ?_)
  simp only [kxs_mw, h1, if_true]
  refine KFB.if_so (by decide) ?_
  refine wpAny_bind (check_bound_init F.excBase_ValueError.toExcCallFacts hC he rfl (wpAny_bind (wpAny_pure (wpAny_pure ⟨plainId_quiet F.excBase_ValueError.init.plain _, codeAny_builtin F.excBase_ValueError.initEntry ?_⟩))))
  exact exc_init_tree (cls := .ref C) (t0 := t0) (dv := none) (c2 := .none) (c3 := .none) (b4 := .bool false) he hrest fun h' k e1 _ => hq h' _ k e1
/-- what __init__ leaves of a fresh exception at x -/
structure TpEnd (h h' : Heap) (x C dx t1 : Addr) (v1 v2 : Value) : Prop where
  keep : ∀ b o, b ≠ x → h.get? b = some o → h'.get? b = some o
  obj : h'.get? x = some { cls := .ref C, dict := some dx, data := .fields #[.ref t1, .none, .none, .none, .bool false, .none] }
  dbig : h.objs.size ≤ dx
  dne : dx ≠ x
  ns : h'.Ns1 dx (fun y => if y = "path" then some v2 else if y = "code" then some v1 else none)
section
variable {prog : Program} {w : World} {A : Around} {E : Value → Shared → Prop} {R : Result → Shared → Prop} {s : Shared} {K : Frag} {mg : Str → Option Value} {C fI : Addr}
theorem tp_init (T : TpTxt K prog C fI) {x t0 : Addr} {v1 v2 : Value} (X : K.In s.heap) (G : s.heap.Ns mainGlobals mg) (B : ∃ mb, s.heap.Ns builtinsNs mb ∧ ∀ y : Str, y ≠ "__name__" → mb y = bootBuiltins y) (hlim : s.heap.NoLimit)
    (hx : s.heap.get? x = some (PySem.HandSPX.excO C t0)) (hnx : K.lookup x = none) (hroom : A.depth < recursionLimit)
    (hq : ∀ h' tk dx t1, TpEnd s.heap h' x C dx t1 v1 v2 → R (.ok (.ret .none)) { s with heap := h', toks := tk }) :
    codeAny (model prog w) A (.call (.ref fI) ⟨[.ref x, v1, v2], []⟩) R s := by
  obtain ⟨oc, od, kV, doc, pm, an, cda, cc, ct, osl, p1, p2, p3, a1, a2, a3, a4, a5, a6, b1, b2, b3, b4, c1, c2, c3, c4, ho, hcd, hline, ⟨ccl, cdd, vs, ccs, file, tf, hcode, hvs, hfile⟩, cl, cld, csl, hcell⟩ := T.fn
  obtain ⟨nm, q, N, bs, bm, sn, sub, ab, col, dd, k0, k1, k2, k3, k5, hC, hbm⟩ := T.cls
  have hcl : clsIn K C = some { name := nm, bases := bs, mro := .ref C :: bm, ns := N, qualname := q, hasDict := true, slotNames := sn, subclasses := sub, abstract := ab, collection := col, hasDel := false } := by unfold clsIn; rw [hC] <;> rfl
  refine ks_codeAny_call_defAt (binds := [("self", .ref x), ("code", v1), ("path", v2)]) hroom (X _ _ ho) rfl hlim (codeRec_of X hcd) rfl (BindsTo.of_eq rfl) (show ∀ y ∈ tpS.names, y.2 ≠ .cell by decide) (fun y hy => by
    simp only [List.mem_cons, List.not_mem_nil, or_false] at hy
    rcases hy with rfl | rfl | rfl <;> rfl) fun h₁ hns hk₁ => ?_
  generalize htk : s.toks + _ = tk1
  have hxL : s.heap.objs.size ≠ x := Nat.ne_of_gt (Heap.lt_size hx)
  have X₁ : K.In h₁ := X.keeps hk₁
  have hx₁ := hk₁ _ _ hx
  obtain ⟨mb, B1, B2⟩ := B
  obtain ⟨hh, g, d, t, os⟩ := s
  dsimp only at hns hk₁ hxL hq ⊢
  refine ks_wpAt_execs_cons (ks_wpAt_Expr_any (ks_wpAt_MethodCall (ks_wpAt_super_base (by rfl) (by rfl) (by decide) (by rfl) (X₁ _ _ ho) (by rfl) (by rfl) (by rfl) (X₁ _ _ hcode) (by rfl) hvs hfile T.top ?_) (call_eq0 (by rfl) (show 1 < 20 by decide) hline)) (by rfl) (by rfl))
  have G₁ := G.keeps hk₁
  have B₁ := B1.keeps hk₁
  refine ks_loadName_global (by rfl) (by rfl) (loadGlobal_builtin G₁ (mg_none_of X G T.noS) B₁ ((B2 _ (by decide)).trans (by rfl)) ⟨rfl, ?_⟩)
  refine wpAny_loadName_free (by rfl) (by rfl) (by rfl) ⟨_, X₁ _ _ hcell, rfl⟩ ?_
  refine wpAny_loadName_local (v := .ref x) (by rfl) (by rfl) hns (by rfl) ?_
  refine ks_wpAny_isType_cls (X₁ _ _ hC) rfl ⟨rfl, ?_⟩
  refine ks_wpAny_call_super (X₁ _ _ hC) rfl hx₁ rfl (fun c e => by cases e) (looks_subIn X₁ T.slf) fun h2 hso k2 => ?_
  have X₂ : K.In h2 := X₁.keeps k2
  have hx₂ := k2 _ _ hx₁
  have hxC : x ≠ C := fun z => by rw [z, hC] at hnx; cases hnx
  have I₂ : InstAt h2 x (PySem.HandSPX.excO C t0) C none := ⟨hx₂, rfl, rfl, trivial⟩
  have hsup : alongIn K "__init__" (((Value.ref C :: bm).dropWhile (· != .ref C)).drop 1) = some (some (.builtin "ValueError.__init__")) := by
    have z := T.sup
    unfold ks_superIn at z
    rw [hcl] at z
    exact z
  refine kxs_getMethod kxs_ValueError hso (looks_opaque X₂ T.opq) (l₀ := .ref C :: bm) (fun A Q E s k q => wpAny_bind ((looks_clsIn X₂ hcl) A _ E s k (wpAny_pure q))) rfl X₂ hsup (I₂.type.andThen (looks_subIn X₂ T.veC)) hxC (by decide) ?_
  have k3 : ∀ b o, h2.get? b = some o → (h2.push (kxs_mw "ValueError.__init__" x)).get? b = some o := fun b o e => Heap.get?_push_of_some _ e
  have hu : (h2.push (kxs_mw "ValueError.__init__" x)).get? h2.objs.size = some (kxs_mw "ValueError.__init__" x) := Heap.get?_push_size _ rfl
  generalize h2.push (kxs_mw "ValueError.__init__" x) = h3 at k3 hu ⊢
  have X₃ : K.In h3 := X₂.keeps k3
  have hx₃ := k3 _ _ hx₂
  rw [star1 (by rfl)]
  refine kxs_callWith (i := "ValueError.__init__") (x := x) (by rfl) (PySem.Calls.evalArgs_plain ?_)
  refine Calls.spliced_cons ?_
  refine Calls.Constant_str (x := "the program has no type") (k := 0) (pos := a4) ?_
  refine Calls.spliced_nil ⟨hu, ?_⟩
  refine call_mw (X₃ _ _ hC) hx₃ hu (by show 1 ≤ sizeLine; rw [sizeLine_eq]; omega) fun h4 t1 k4 hx₄ => ?_
  -- self.code = code
  have X₄ : K.In h4 := fun b o e => k4 b o (fun z => by rw [z, hnx] at e; cases e) (X₃ _ _ e)
  have hn₄ : h4.Ns hh.objs.size (fun y => ([(("self" : Str), Value.ref x), ("code", v1), ("path", v2)] : List (Str × Value)).reverse.lookup y) := ns_but ((hns.keeps k2).keeps k3) hxL k4
  refine wpAt_of_wpAny ?_
  show wpAny _ _ (execs _ _) _ _ _
  refine wpAny_execs_cons (plainObj_wpAny_Assign_Attribute ?_)
  refine ldc (v := v1) (by rfl) (by rfl) hn₄ (by rfl) (ldc (v := .ref x) (by rfl) (by rfl) hn₄ (by rfl) ?_)
  refine set_plain X₄ (ox := PySem.HandSPX.excO C t1) (od := none) ⟨hx₄, rfl, rfl, trivial⟩ T.sa ?_
  refine PySem.HandSPX.exc_osa X₄ hx₄ hcl (show PySem.HandSPX.refsVE (.ref C :: bm) = true from hbm) rfl T.noC (fun h5 tk5 dx k5 dn dne hx₅ hn₅ => ?_)
  -- self.path = path
  have X₅ : K.In h5 := fun b o e => k5 b o (fun z => by rw [z, hnx] at e; cases e) (X₄ _ _ e)
  have hn₅' := ns_but hn₄ hxL k5
  show wpAny _ _ (execs _ _) _ _ _
  refine wpAny_execs_cons (plainObj_wpAny_Assign_Attribute ?_)
  refine ldc (v := v2) (by rfl) (by rfl) hn₅' (by rfl) (ldc (v := .ref x) (by rfl) (by rfl) hn₅' (by rfl) ?_)
  have hw : Within (fun y => if y = ("code" : Str) then some v1 else none) ["code"] := fun y hy => by
    by_cases e : y = ("code" : Str)
    · rw [e]; exact List.mem_cons_self ..
    · exact absurd (if_neg e) hy
  obtain ⟨oD, esD, epD, hoD, hdD, _⟩ := hn₅.count hw
  refine set_plain X₅ (ox := { cls := .ref C, dict := some dx, data := .fields #[.ref t1, .none, .none, .none, .bool false, .none] }) (od := some oD) ⟨hx₅, rfl, rfl, hoD⟩ T.sa ?_
  refine PySem.OEX.osa_old X₅ hx₅ hn₅ hw (by decide) hcl (show PySem.HandSPX.refsVE (.ref C :: bm) = true from hbm) rfl T.noP (fun h6 tk6 k6 hn₆ => ?_)
  show wpAny _ _ (execs _ _) _ _ _
  have big : hh.objs.size ≤ dx := Nat.le_trans (Nat.le_of_lt (by obtain ⟨oL, _, _, hL, _⟩ := hn₄; exact Heap.lt_size hL)) dn
  refine wpAny_execs_nil (hq h6 tk6 dx t1 ⟨fun b o hb e => ?_, k6 x _ (Ne.symm dne) hx₅, big, dne, hn₆⟩)
  refine k6 b o (fun z => ?_) (k5 b o hb (k4 b o hb (k3 _ _ (k2 _ _ (hk₁ b o e)))))
  have z1 := Heap.lt_size e
  rw [z] at z1
  exact absurd (Nat.lt_of_lt_of_le z1 big) (Nat.lt_irrefl _)
/-- what C(code, path) leaves -/
structure TpMade (h h' : Heap) (e C d : Addr) (v1 v2 : Value) : Prop where
  keep : ∀ b o, h.get? b = some o → h'.get? b = some o
  new : h.objs.size ≤ e
  obj : ∃ oe vs, h'.get? e = some oe ∧ oe.cls = .ref C ∧ oe.dict = some d ∧ oe.data = .fields vs ∧ vs[1]? = some .none
  dbig : h.objs.size ≤ d
  dne : d ≠ e
  ns : h'.Ns1 d (fun y => if y = "path" then some v2 else if y = "code" then some v1 else none)
theorem tp_made (T : TpTxt K prog C fI) {v1 v2 : Value} (X : K.In s.heap) (G : s.heap.Ns mainGlobals mg) (B : ∃ mb, s.heap.Ns builtinsNs mb ∧ ∀ y : Str, y ≠ "__name__" → mb y = bootBuiltins y) (hlim : s.heap.NoLimit) (hroom : A.depth + 1 < recursionLimit)
    (hq : ∀ h' tk e d, TpMade s.heap h' e C d v1 v2 → R (.ok (.ret (.ref e))) { s with heap := h', toks := tk }) : codeAny (model prog w) A (.call (.ref C) ⟨[v1, v2], []⟩) R s := by
  obtain ⟨nm, q, N, bs, bm, sn, sub, ab, col, dd, k0, k1, k2, k3, k5, hC, hbm⟩ := T.cls
  obtain ⟨hh, g, dr, tk, os⟩ := s
  have k : ∀ b o, hh.get? b = some o → ((hh.push (kdv_tup [v1, v2])).push (PySem.HandSPX.excO C hh.objs.size)).get? b = some o := fun b o e => Heap.get?_push_of_some _ (Heap.get?_push_of_some _ e)
  have hget : ((hh.push (kdv_tup [v1, v2])).push (PySem.HandSPX.excO C hh.objs.size)).get? (hh.objs.size + 1) = some (PySem.HandSPX.excO C hh.objs.size) := by heap_get
  have hnx : K.lookup (hh.objs.size + 1) = none := by
    cases e : K.lookup (hh.objs.size + 1) with
    | none => rfl
    | some o =>
      have z := Heap.lt_size (X _ _ e)
      exact absurd (Nat.lt_of_succ_lt z) (Nat.lt_irrefl _)
  obtain ⟨mb, B1, B2⟩ := B
  refine PySem.HandSPX.call_own F.excBase_ValueError (fun Y => PySem.HandSPX.refsVE_contains Y bm hbm) (X _ _ hC) (looks_findIn X T.iC) (fun self => bind_fn X self T.tI) (by show 2 ≤ sizeLine; rw [sizeLine_eq]; omega) ?_
  refine tp_init (s := ⟨(hh.push (kdv_tup [v1, v2])).push (PySem.HandSPX.excO C hh.objs.size), g, dr, tk, os⟩) T (X.keeps k) (G.keeps k) ⟨mb, B1.keeps k, B2⟩ (hlim.keeps k) hget hnx (show A.depth + 1 < recursionLimit from hroom) fun h' tk' dx t1 ⟨k', hx, dn, dne, hns⟩ => ?_
  have old : ∀ b o, hh.get? b = some o → h'.get? b = some o := fun b o e => k' b o (Nat.ne_of_lt (Nat.lt_succ_of_lt (Heap.lt_size e))) (k b o e)
  have z : hh.objs.size + 1 + 1 ≤ dx := by
    have z0 := dn
    rw [Heap.size_push, Heap.size_push] at z0
    exact z0
  exact ⟨rfl, hq h' tk' (hh.objs.size + 1) dx ⟨old, Nat.le_succ _, ⟨_, _, hx, rfl, rfl, rfl, rfl⟩, Nat.le_trans (Nat.le_trans (Nat.le_succ _) (Nat.le_succ _)) z, dne, hns⟩⟩
end
end Z
namespace Z
open PySem L2
/-- C(code, path) as the operand of a raise -/
theorem pmk_tp {X : Cx} {C fI : Addr} {x : Str} {e : Expr} {es : List Expr} {t : TA} {p pos : Pos} (T : TpTxt X.K X.prog C fI) (hr : Room 1 X.A) (hm : X.mg x = some (.ref C)) (hg : Gl X x) (hdb : (x == ("__debug__" : Str)) = false) (hs : (e :: es).all noStar = true) (ha : PA X (e :: es) t) :
    PMk X (.Call (.Name x p) (e :: es) [] pos) (tMk2 C ["code", "path"] t) := by
  have hs' := hs
  simp only [List.all_cons, Bool.and_eq_true] at hs'
  intro pins s σ H Q I h
  refine wpAny_Call_Name_kw (ld_glob I hg hm ?_ hdb)
  refine PySem.W.callWith_K (h₀ := X.base) I.ok.mod.kin T.kC (thn (ha.run pos pins s σ H _ I h) fun us s1 hh => ?_) (star_no es _ hs'.1) (star_all hs'.2)
  obtain ⟨vs, H1, I1, r1, hl, q1⟩ := hh
  refine ⟨I1.kIn, ?_⟩
  match vs, us, r1, hl with
  | [x1, x2], [u1, u2], .cons ra (.cons rb .nil), _ =>
    show wpAny _ _ (call (.ref C) [u1, u2]) _ _ _
    have hlim := I1.nolimit
    have hG := I1.mod.glob.keeps I1.bk
    have hB : ∃ mb, s1.heap.Ns builtinsNs mb ∧ ∀ y : Str, y ≠ "__name__" → mb y = bootBuiltins y := by
      obtain ⟨mb, b1, b2⟩ := I1.mod.blt
      exact ⟨mb, b1.keeps I1.bk, b2⟩
    obtain ⟨hp, g, dr, tk, os⟩ := s1
    refine wpAny_call (tp_made T I1.kIn hG hB hlim (by have := hr.dp; omega) fun h' tk' ea d M => ?_)
    show MkP X pins σ Q (.ref ea) ⟨h', g, dr, tk', os⟩
    obtain ⟨oe, fv, hoe, hc, hd, hdat, h1⟩ := M.obj
    have hns := M.ns
    obtain ⟨G', g1, g2⟩ := restrict h' fun b => decide (b ≠ ea)
    have gk : ∀ b, b ≠ ea → G'.get? b = h'.get? b := fun b hb => g1 b (decide_eq_true hb)
    have ge : G'.get? ea = none := g2 ea (by simp)
    have old : ∀ b o, hp.get? b = some o → G'.get? b = some o := fun b o q => (gk b (Nat.ne_of_lt (Nat.lt_of_lt_of_le (Heap.lt_size q) M.new))).trans (M.keep b o q)
    have rel : ∀ f, RelO (List.lookup f [(("path" : Str), x2), (("code" : Str), x1)]) (if f = ("path" : Str) then some u2 else if f = ("code" : Str) then some u1 else none) := fun f =>
      relO_put (f := "path") rb (fs := [(("code" : Str), x1)]) (mA := fun f => if f = ("code" : Str) then some u1 else none) (fun f => relO_put (f := "code") ra (fs := []) (mA := fun _ => none) (fun _ => True.intro) f) f
    have ob : ObjOk X.prog X.w (upd H1 d (.xd [(("path" : Str), x2), (("code" : Str), x1)])) G' d (.xd [(("path" : Str), x2), (("code" : Str), x1)]) :=
      ⟨_, hns.at (fun o q => (gk d M.dne).trans q), rel⟩
    have J : Inv X pins σ (upd H1 d (.xd [(("path" : Str), x2), (("code" : Str), x1)])) ⟨G', g, dr, tk', os⟩ := I1.laid (t' := tk') old M.dbig ob
    refine ⟨ea, oe, fv, ⟨G', g, dr, tk', os⟩, _, .ref C, some d, rfl, J, fun b o q => ?_, ge, hoe, ⟨hc, hd⟩, hdat, h1, ?_, rfl, I1.bare, raises_own T.exC T.tyC, q1 d _ (I1.hok.fresh M.dbig) fun f z hz => ?_⟩
    · by_cases hb : b = ea
      · have q' : G'.get? b = some o := q
        rw [hb, ge] at q'
        cases q'
      · exact (gk b hb).symm.trans q
    · rw [upd_ne (Ne.symm M.dne)]
      exact I1.hok.fresh M.new
    · have hz' : List.lookup f [(("code" : Str), x1), (("path" : Str), x2)] = some z := hz
      simp only [List.lookup_cons, List.lookup_nil] at hz' ⊢
      by_cases h1 : f = ("code" : Str)
      · subst h1
        have e1 : (("code" : Str) == ("code" : Str)) = true := by decide
        have e2 : (("code" : Str) == ("path" : Str)) = false := by decide
        rw [e1] at hz'
        rw [e2, e1]
        exact hz'
      · have e1 : (f == ("code" : Str)) = false := by simpa using h1
        rw [e1] at hz'
        cases h2 : (f == ("path" : Str)) with
        | true => rw [h2] at hz'; exact hz'
        | false => rw [h2] at hz'; cases hz'
end Z

end
namespace Z
open PySem L2
def AllG {α : Type} (P : α → Prop) : List α → Prop
  | [] => True
  | x :: r => P x ∧ AllG P r
theorem AllG.of {α : Type} {P : α → Prop} : ∀ {l : List α}, AllG P l → ∀ x ∈ l, P x
  | _ :: _, h, x, hx => by
    rcases List.mem_cons.mp hx with rfl | hx
    · exact h.1
    · exact AllG.of h.2 x hx
def AllI {α : Type} (P : Nat → α → Prop) : Nat → List α → Prop
  | _, [] => True
  | i, x :: r => P i x ∧ AllI P (i + 1) r
theorem AllI.of {α : Type} {P : Nat → α → Prop} : ∀ {l : List α} {k i : Nat} {x : α}, AllI P k l → l[i]? = some x → P (k + i) x
  | _ :: _, k, 0, x, h, e => by cases e; exact h.1
  | _ :: r, k, i + 1, x, h, e => by
    have z := AllI.of (i := i) (x := x) h.2 (by simpa using e)
    rw [show k + 1 + i = k + (i + 1) by omega] at z
    exact z
theorem AllI.at {α : Type} {P : Nat → α → Prop} {l : List α} {i : Nat} {x : α} (h : AllI P 0 l) (e : l[i]? = some x) : P i x := by
  have z := AllI.of h e
  rw [Nat.zero_add] at z
  exact z
theorem mem_look {β : Type} : ∀ {l : List (Str × β)} {x : Str} {v : β}, l.lookup x = some v → (x, v) ∈ l
  | (k, w) :: r, x, v, h => by
    rw [List.lookup_cons] at h
    cases hb : x == k with
    | true =>
      rw [hb] at h
      cases h
      have e : x = k := by simpa using hb
      rw [e]
      exact List.mem_cons_self ..
    | false => rw [hb] at h; exact List.mem_cons_of_mem _ (mem_look h)
/-- which errors an except catches -/
theorem exm_of {K : PySem.W.Frag} {a b : Addr} {r : Bool} (h1 : PySem.W.subIn K (.ref b) (.type "BaseException") = some true) (h2 : PySem.W.isClsIn K b = true) (h3 : PySem.W.typeIn K (.ref b) = some (.type "type")) (h4 : PySem.W.subIn K (.ref a) (.ref b) = some r) : PySem.W.exmOne K (.ref a) (.ref b) = some r := by
  have h2' : (PySem.W.clsIn K b).isSome = true := h2
  unfold PySem.W.exmOne PySem.W.kitCls
  rw [h1, if_pos (by rfl)]
  dsimp only
  rw [if_pos (by rw [h2', h3]; rfl)]
  exact h4
/-- an entry of the module -/
def GlF (T : Tab) (K : PySem.W.Frag) (mg : Str → Option Value) (ca fa : Nat → Addr) (p : Str × GE) : Prop :=
  match p.2 with
  | .fn i => mg p.1 = some (.ref (fa i)) ∧ ∃ F, T.fns[i]? = some F
  | .cls c => mg p.1 = some (.ref (ca c))
  | .cst v => ∃ u y, mg p.1 = some u ∧ RelV y u ∧ ∀ φ H, Rv K φ H v y
/-- a class -/
structure ClF (T : Tab) (P : Program) (K : PySem.W.Frag) (ca fa : Nat → Addr) (c : Nat) (C : ClI) : Prop where
  ini : ∀ f, C.init = some f → Mk K (ca c) (fa f) ∧ ∃ F, T.fns[f]? = some F
  ba : C.init = none → C.exc = none → Mk0 K (ca c)
  me : AllG (fun p => Meth K (ca c) p.1 (fa p.2) ∧ ∃ F, T.fns[p.2]? = some F) C.meths
  fl : AllG (fun f => NoAttr K (ca c) f) C.fields
  cl : C.exc = none → Cls K (ca c)
  no : C.exc ≠ none → C.meths = [] ∧ C.fields = []
  e1 : C.exc = some none → PySem.W.excIn K (ca c) [.type "ValueError", .type "Exception", .type "BaseException", .type "object"] "ValueError.__new__" = true ∧ PySem.W.keepIn K (.ref (ca c)) = true ∧ PySem.W.subIn K (.ref (ca c)) (.type "BaseException") = some true ∧ PySem.W.typeIn K (.ref (ca c)) = some (.type "type")
  e2 : ∀ fl, C.exc = some (some fl) → fl = ([("code" : Str), ("path" : Str)] : List Str) ∧ (∃ fI, TpTxt K P (ca c) fI) ∧ AllG (fun f => XfC K (ca c) ∧ PySem.W.findIn K (.ref (ca c)) f = some none) fl
theorem ModOk.of {T : Tab} {P : Program} {w : World} {K : PySem.W.Frag} {mg : Str → Option Value} {base : Heap} {ca fa : Nat → Addr} {fd : Nat → FuncData} (exl : List Nat) (gl : AllG (GlF T K mg ca fa) T.glob) (fs : AllI (fun i F => PySem.W.keepIn K (.ref (fa i)) = true ∧ DefOk K F (fa i) (fd i)) 0 T.fns)
    (cs : AllI (ClF T P K ca fa) 0 T.cls) (zs : AllG (fun x => mg x = none) bltNames) (xl : AllI (fun c C => C.exc ≠ none → c ∈ exl) 0 T.cls) (sb : AllG (fun i => AllG (fun j => PySem.W.exmOne K (.ref (ca i)) (.ref (ca j)) = some (T.sub i j)) exl) exl) : ModOk T P w K mg base ca fa fd := by
  have hb : ∀ {c : Nat} {e : Option (List Str)}, (T.cls[c]?).bind (·.exc) = some e → ∃ C, T.cls[c]? = some C ∧ C.exc = some e := fun {c e} h => Option.bind_eq_some_iff.mp h
  have hx : ∀ {c : Nat}, (excF T c).isSome = true → ∃ C, T.cls[c]? = some C ∧ C.exc ≠ none := fun {c} h => by
    unfold excF at h
    cases e : (T.cls[c]?).bind (·.exc) with
    | none => rw [e] at h; cases h
    | some x =>
      obtain ⟨C, h1, h2⟩ := hb e
      exact ⟨C, h1, by rw [h2]; simp⟩
  have hc : ∀ x c, T.glob.lookup x = some (.cls c) → mg x = some (.ref (ca c)) := fun x c h => gl.of _ (mem_look h)
  refine ⟨⟨fun x i h => (gl.of _ (mem_look h)).1, fun i F h => ⟨(fs.at h).1, (fs.at h).2.b⟩, hc, fun x v h => gl.of _ (mem_look h), fun x h => zs.of x (by simpa using h), fun x i h => (gl.of _ (mem_look h)).2,
    fun c C f h e => (cs.at h).ini f e, fun c C h e1 e2 => (cs.at h).ba e1 e2, fun c C m f h e => ?_, fun c C f h e => ?_⟩, fun i F h => (fs.at h).2, fun X x c m j p p2 pos h1 h2 h3 h4 h he hg hd => ?_, fun X x c fl e es t p pos h1 h2 h3 h4 hr h he hg hd hs ha => ?_, fun c c' h h' => ?_, fun c fl f h hf => ?_⟩
  · have q := (cs.at h)
    have hn : C.exc = none := by
      cases z : C.exc with
      | none => rfl
      | some _ => rw [(q.no (by rw [z]; simp)).1] at e; cases e
    obtain ⟨a, b⟩ := q.me.of _ (mem_look e)
    exact ⟨q.cl hn, a, b⟩
  · have q := (cs.at h)
    have hn : C.exc = none := by
      cases z : C.exc with
      | none => rfl
      | some _ => rw [(q.no (by rw [z]; simp)).2] at e; cases e
    exact ⟨q.cl hn, q.fl.of f (by simpa using e)⟩
  · subst h3 h4
    obtain ⟨C, e1, e2⟩ := hb he
    obtain ⟨a1, a2, a3, a4⟩ := (cs.at e1).e1 e2
    exact pmk_own PySem.F.excBase_ValueError a1 (hc x c h) a2 (raises_own a3 a4) hg hd
  · subst h3 h4 h1
    obtain ⟨C, e1, e2⟩ := hb he
    obtain ⟨rfl, ⟨fI, a2⟩, _⟩ := (cs.at e1).e2 _ e2
    exact pmk_tp a2 hr (hc x c h) hg hd hs ha
  · obtain ⟨C, e1, e2⟩ := hx h
    obtain ⟨C', e1', e2'⟩ := hx h'
    exact (sb.of c (xl.at e1 e2)).of c' (xl.at e1' e2')
  · unfold excF at h
    cases e : (T.cls[c]?).bind (·.exc) with
    | none => rw [e] at h; cases h
    | some x =>
      rw [e] at h
      obtain ⟨C, h1, h2⟩ := hb e
      cases x with
      | none => cases h; cases hf
      | some fl' =>
        cases h
        exact ((cs.at h1).e2 _ h2).2.2.of f (by simpa using hf)
/-- the law's own end: what the machine must answer -/
theorem law_sp {T : Tab} {K : PySem.W.Frag} {ca : Nat → Addr} {i d : Nat} {H : Hp} {a : Addr} {ns : List Int} (hO : Only H) (hS : SqL K H a (ns.map V.int)) (h : ∃ st, callN T d i [.ref 0] [.rol (ns.map PV.int)] = .ok (.bl true) st) :
    spC K ca (callN T d) i [.ref a] H (fun v _ => v = .bl true) fun _ _ _ => False := by
  obtain ⟨st, e⟩ := h
  have rl : ∀ ns : List Int, RvL K [a] H (ns.map PV.int) (ns.map V.int) := fun ns => by
    induction ns with
    | nil => exact .nil
    | cons n r ih => exact .cons (.int n) ih
  refine ⟨[a], [.rol (ns.map PV.int)], [.ref 0], ⟨rfl, fun n b o h1 h2 => ?_, fun n m b o u h1 h2 h3 h4 h5 h6 => ?_⟩, .cons (.ref rfl) .nil, ?_⟩
  · match n, h1, h2 with
    | 0, h1, h2 =>
      cases h1
      cases h2
      refine ⟨ns.map V.int, ?_, rl ns⟩
      rcases hS with (hS | ⟨o, hS⟩) | hS
      · rcases hO a with q | ⟨o, xs, q⟩
        · rw [q] at hS; cases hS
        · rw [q] at hS; cases hS
      · exact .inl ⟨o, hS⟩
      · exact .inr hS
    | n + 1, h1, h2 => simp at h1
  · match n, h3 with
    | 0, h3 => cases h3; cases h5
    | n + 1, h3 => simp at h3
  · rw [e]
    intro φ' H' u _ _ r
    cases r
    rfl
end Z
namespace Z
open PySem L2
def spL (T : Tab) (K : PySem.W.Frag) (d i : Nat) : Sp := fun vs H Q E => ∃ (a : Addr) (ns : List Int) (st : Store), vs = [.ref a] ∧ Only H ∧ SqL K H a (ns.map V.int) ∧ callN T d i [.ref 0] [.rol (ns.map PV.int)] = .ok (.bl true) st ∧ ∀ H', Q (.bl true) H'
theorem law_fn {T : Tab} {P : Program} {w : World} {K : PySem.W.Frag} {mg : Str → Option Value} {base : Heap} {ca fa : Nat → Addr} {fd : Nat → FuncData} (M : ModOk T P w K mg base ca fa fd) {i : Nat} {F : FnI} (hF : T.fns[i]? = some F) (d : Nat) :
    FnOk P w K mg base (L2.CX P w) (d + 2) (fa i) (fd i) F.ps (spL T K d i) :=
  ((fns_ok M d).1 i F hF).imp fun vs H Q E ⟨a, ns, st, e1, hO, hS, e2, hq⟩ => by
    obtain ⟨φ, st0, pvs, rs, rv, o⟩ := law_sp (ca := ca) hO hS ⟨st, e2⟩
    rw [e1]
    refine ⟨φ, st0, pvs, rs, rv, ?_⟩
    show Out K ca (Rv K) E φ H Q (callN T d i pvs st0)
    generalize callN T d i pvs st0 = z at o
    cases z with
    | ok v s =>
      intro φ' H' u e rs' rv'
      have q := o φ' H' u e rs' rv'
      rw [q]
      exact hq H'
    | exc c fs s => exact fun φ' H' dd e rs' rx => (o φ' H' dd e rs' rx).elim
    | bad => exact o
end Z

namespace Z
open PySem L2
abbrev CE := Sl → M PV
abbrev CT := Sl → M Bool
def sl (i : Nat) (ρ : Sl) : M PV :=
  match ρ[i]? with
  | some (some v) => ret v
  | _ => stop
def kst (v : PV) : CE := fun _ => ret v
def eL : List CE → Sl → M (List PV)
  | [], _ => ret []
  | e :: r, ρ => bnd (e ρ) fun v => bnd (eL r ρ) fun vs => ret (v :: vs)
def eTup (es : List CE) : CE := fun ρ => bnd (eL es ρ) fun vs => if vs.length ≤ sizeLine then ret (.tup vs) else stop
def mkLst (vs : List PV) : M PV := fun s => .ok (.ref s.length) (s ++ [.lst vs])
def eLst (es : List CE) : CE := fun ρ => bnd (eL es ρ) fun vs => if vs.length ≤ sizeLine then mkLst vs else stop
def eDct (kl : List Key) (es : List CE) : CE := fun ρ s =>
  match eL es ρ (s ++ [.dct []]) with
  | .ok vs s' => match s'[s.length]? with
    | some (.dct []) => .ok (.ref s.length) (s'.set s.length (.dct (mergeP [] (kl.zip vs))))
    | _ => .bad
  | .exc c fs s' => .exc c fs s'
  | .bad => .bad
def eDct0 : CE := fun _ s => .ok (.ref s.length) (s ++ [.dct []])
def eBare (c : Nat) : CE := fun _ => bareP c
def e2 (f : PV → PV → M PV) (a b : CE) : CE := fun ρ => bnd (a ρ) fun x => bnd (b ρ) fun y => f x y
def e1 (f : PV → M PV) (a : CE) : CE := fun ρ => bnd (a ρ) fun x => f x
def negV (x : PV) : M PV := match x with
  | .int i => ret (.int (-i))
  | _ => stop
def notV (x : PV) : M PV := match x with
  | .bl b => ret (.bl (!b))
  | _ => stop
def eCmp (op : CmpOp) (a b : CE) : CE := fun ρ => bnd (a ρ) fun x => bnd (b ρ) fun y => bnd (cmpP op x y) fun b => ret (.bl b)
def eAnd (a b : CE) : CE := fun ρ => bnd (a ρ) fun x => match x with
  | .bl true => b ρ
  | .bl false => ret (.bl false)
  | _ => stop
def eOr (a b : CE) : CE := fun ρ => bnd (a ρ) fun x => match x with
  | .bl true => ret (.bl true)
  | .bl false => b ρ
  | _ => stop
def eIf (c : CT) (a b : CE) : CE := fun ρ => bnd (c ρ) fun t => if t = true then a ρ else b ρ
def ePart (e : CE) : Sl → M (Option Int) := fun ρ => bnd (e ρ) fun v => match v with
    | .int i => ret (some i)
    | _ => stop
def eNo : Sl → M (Option Int) := fun _ => ret none
def eSl (a : CE) (lo hi : Sl → M (Option Int)) : CE := fun ρ => bnd (a ρ) fun x => bnd (lo ρ) fun lo => bnd (hi ρ) fun hi => slP x lo hi
def eCall (f : List PV → M PV) (es : List CE) : CE := fun ρ => bnd (eL es ρ) fun vs => f vs
def eMeth (L : Lk) (o : CE) (m : Str) (es : List CE) : CE := fun ρ => bnd (o ρ) fun x => methP L x m (eL es ρ)
@[irreducible] def lcX (elt : Sl → M PV) (asg : PV → Sl → Option Sl) (ts : Sl → M Bool) (src : Sc) (D : Nat) (ρ : Sl) (k i : Nat) : M PV := lcC elt asg ts src D ρ k i
@[irreducible] def forX (B : SM) (A : PV → Sl → Option Sl) (src : Sc) (k i : Nat) : SM := forP B A src k i
@[irreducible] def whlX (B : SM) (C : Sl → M Bool) (k : Nat) : SM := whl B C k
theorem lcX_eq {elt : Sl → M PV} {asg : PV → Sl → Option Sl} {ts : Sl → M Bool} {src : Sc} {D : Nat} {ρ : Sl} {k i : Nat} : lcX elt asg ts src D ρ k i = lcC elt asg ts src D ρ k i := by unfold lcX; rfl
theorem forX_eq {B : SM} {A : PV → Sl → Option Sl} {src : Sc} {k i : Nat} : forX B A src k i = forP B A src k i := by unfold forX; rfl
theorem whlX_eq {B : SM} {C : Sl → M Bool} {k : Nat} : whlX B C k = whl B C k := by unfold whlX; rfl
def eLc (elt : CE) (asg : PV → Sl → Option Sl) (ts : CT) (src : Sl → M Sc) (own : List Nat) : CE := fun ρ => bnd (src ρ) fun src s => lcX elt asg ts src s.length (wipeP ρ own) (lenI s src + 1) 0 (s ++ [.lst []])
def tYes : CT := fun _ => ret true
def tNot (a : CT) : CT := fun ρ => bnd (a ρ) fun b => ret (!b)
def tAnd (a b : CT) : CT := fun ρ => bnd (a ρ) fun t => if t = true then b ρ else ret false
def tOr (a b : CT) : CT := fun ρ => bnd (a ρ) fun t => if t = true then ret true else b ρ
def tAnd3 (a b c : CT) : CT := fun ρ => bnd (a ρ) fun t => if t = true then bnd (b ρ) fun t => if t = true then c ρ else ret false else ret false
def tOr3 (a b c : CT) : CT := fun ρ => bnd (a ρ) fun t => if t = true then ret true else bnd (b ρ) fun t => if t = true then ret true else c ρ
def tCmp (op : CmpOp) (a b : CE) : CT := fun ρ => bnd (a ρ) fun x => bnd (b ρ) fun y => cmpP op x y
def tTru (a : CE) : CT := fun ρ => bnd (a ρ) truP
def sWalk (a : CE) : Sl → M Sc := fun ρ => bnd (a ρ) walkP
def rg1 (vs : List PV) : M Sc := match vs with
  | [.int n] => if inRange n = true then ret (.items (rangeL n.toNat 0)) else stop
  | _ => stop
def rg2 (vs : List PV) : M Sc := match vs with
  | [.int i, .int j] => if (inRange i && inRange j) = true then ret (.items (rangeL (j - i).toNat i)) else stop
  | _ => stop
def en1 (vs : List PV) : M Sc := match vs with
  | [v] => enumP v
  | _ => stop
def sOf (f : List PV → M Sc) (es : List CE) : Sl → M Sc := fun ρ => bnd (eL es ρ) fun vs => f vs
@[irreducible] def cBlk : List SM → SM
  | [], ρ, s => .ok .next ρ s
  | st :: r, ρ, s => match st ρ s with
    | .ok .next ρ' s' => cBlk r ρ' s'
    | o => o
@[irreducible] def cPass : SM := fun ρ s => .ok .next ρ s
@[irreducible] def cBreak : SM := fun ρ s => .ok .brk ρ s
@[irreducible] def cCont : SM := fun ρ s => .ok .cont ρ s
@[irreducible] def cExp (e : CE) : SM := fun ρ s => bndS (e ρ) ρ (fun _ s => .ok .next ρ s) s
@[irreducible] def cRet (e : CE) : SM := fun ρ s => bndS (e ρ) ρ (fun v s => .ok (.ret v) ρ s) s
@[irreducible] def cRetN : SM := fun ρ s => .ok (.ret .non) ρ s
@[irreducible] def cAsg (i : Nat) (e : CE) : SM := fun ρ s => bndS (e ρ) ρ (fun v s => .ok .next (ρ.set i (some v)) s) s
@[irreducible] def cIxSet (o i e : CE) : SM := fun ρ s => bndS (e ρ) ρ (fun v s => bndS (o ρ) ρ (fun x s => bndS (i ρ) ρ (fun j s => bndS (ixSet x j v) ρ (fun _ s => .ok .next ρ s) s) s) s) s
@[irreducible] def cFldSet (L : Lk) (o : CE) (f : Str) (e : CE) : SM := fun ρ s => bndS (e ρ) ρ (fun v s => bndS (o ρ) ρ (fun x s => bndS (fldSet L x f v) ρ (fun _ s => .ok .next ρ s) s) s) s
@[irreducible] def cPar (es : List CE) (a : PV → Sl → Option Sl) : SM := fun ρ s => bndS (eL es ρ) ρ (fun vs s => match a (.tup vs) ρ with
          | some ρ' => .ok .next ρ' s
          | none => .bad) s
@[irreducible] def cUnp (e : CE) (a : PV → Sl → Option Sl) : SM := fun ρ s => bndS (e ρ) ρ (fun v s => bndS (unlP v) ρ (fun v s => match a v ρ with
        | some ρ' => .ok .next ρ' s
        | none => .bad) s) s
@[irreducible] def cAug (L : Lk) (o : CE) (f : Str) (op : Int → Int → Int) (e : CE) : SM := fun ρ s => bndS (o ρ) ρ (fun x s => bndS (fldP L x f) ρ (fun v s => bndS (e ρ) ρ (fun w s' => if clsP s x = clsP s' x then bndS (match v, w with
      | .int i, .int j => fldSet L x f (.int (op i j))
      | _, _ => stop) ρ (fun _ s => .ok .next ρ s) s' else .bad) s) s) s
@[irreducible] def cIf (c : CT) (a b : SM) : SM := fun ρ s => bndS (c ρ) ρ (fun t s => if t = true then a ρ s else b ρ s) s
@[irreducible] def cWhl (c : CT) (b : SM) : SM := fun ρ s => whlX b c 100000 ρ s
@[irreducible] def cFor (src : Sl → M Sc) (a : PV → Sl → Option Sl) (b : SM) : SM := fun ρ s => bndS (src ρ) ρ (fun src s => forX b a src (lenI s src + 1) 0 ρ s) s
@[irreducible] def cRai0 (c : Nat) : SM := fun ρ s => .exc c [] ρ s
@[irreducible] def cRai (c : Nat) (fl : List Str) (es : List CE) : SM := fun ρ s => bndS (eL es ρ) ρ (fun vs s => if vs.length = fl.length ∧ fl.length ≤ 5 then .exc c (fl.zip vs) ρ s else .bad) s
@[irreducible] def cTry (T : Tab) (b : SM) (c' : Nat) (sui : List Str → List (Str × PV) → Option Fl) (gone : Fl → Sl → Store → RS) : SM := fun ρ s =>
  match b ρ s with
  | .exc c fs ρ' s' => match excF T c, excF T c' with
    | some fl, some _ => if T.sub c c' = true then match sui fl fs with
        | some r => gone r ρ' s'
        | none => .bad
      else .exc c fs ρ' s'
    | _, _ => .bad
  | o => o
def suiC (r : Fl) (_ : List Str) (_ : List (Str × PV)) : Option Fl := some r
def suiF (nm : Option Str) (x f : Str) (fl : List Str) (fs : List (Str × PV)) : Option Fl := if nm = some x ∧ fl.contains f = true then (fs.lookup f).map .ret else none
def goneN (r : Fl) (ρ : Sl) (s : Store) : RS := .ok r ρ s
def goneI (i : Nat) (r : Fl) (ρ : Sl) (s : Store) : RS := if i < ρ.length then .ok r (ρ.set i none) s else .bad
/-- a def's run -/
def cFn (N : Nat) (b : SM) (vs : List PV) : M PV := fun s =>
  match b (vs.map some ++ List.replicate (N - vs.length) none) s with
  | .ok .next _ s' => .ok .non s'
  | .ok (.ret v) _ s' => .ok v s'
  | .exc c fs _ s' => .exc c fs s'
  | _ => .bad
end Z

namespace Z
open PySem L2
abbrev XP := Nat → List (Str × PV) → Store → Prop
@[irreducible] def W {α : Type} (m : M α) (s : Store) (Q : α → Store → Prop) (E : XP) : Prop :=
  match m s with
  | .ok a s' => Q a s'
  | .exc c fs s' => E c fs s'
  | .bad => False
@[irreducible] def SW (m : SM) (ρ : Sl) (s : Store) (Q : Fl → Sl → Store → Prop) (E : XP) : Prop :=
  match m ρ s with
  | .ok f ρ' s' => Q f ρ' s'
  | .exc c fs ρ' s' => E c fs s'
  | .bad => False
section
variable {α β : Type} {s : Store} {E : XP} {ρ : Sl}
theorem W_mono {m : M α} {Q Q' : α → Store → Prop} {E' : XP} (h : W m s Q E) (hq : ∀ a s, Q a s → Q' a s) (he : ∀ c f s, E c f s → E' c f s) : W m s Q' E' := by
  unfold W at *
  split
  · rename_i e; rw [e] at h; exact hq _ _ h
  · rename_i e; rw [e] at h; exact he _ _ _ h
  · rename_i e; rw [e] at h; exact h
theorem SW_mono {m : SM} {Q Q' : Fl → Sl → Store → Prop} {E' : XP} (h : SW m ρ s Q E) (hq : ∀ a r s, Q a r s → Q' a r s) (he : ∀ c f s, E c f s → E' c f s) : SW m ρ s Q' E' := by
  unfold SW at *
  split
  · rename_i e; rw [e] at h; exact hq _ _ _ h
  · rename_i e; rw [e] at h; exact he _ _ _ h
  · rename_i e; rw [e] at h; exact h
theorem W_ok {m : M α} {Q : α → Store → Prop} {a : α} {s' : Store} (h : m s = .ok a s') (q : Q a s') : W m s Q E := by
  unfold W
  rw [h]
  exact q
theorem W_exc {m : M α} {Q : α → Store → Prop} {c : Nat} {fs : List (Str × PV)} {s' : Store} (h : m s = .exc c fs s') (q : E c fs s') : W m s Q E := by
  unfold W
  rw [h]
  exact q
theorem W_ex {m : M α} (h : W m s (fun a s' => True) (fun _ _ _ => False)) : ∃ a s', m s = .ok a s' := by
  unfold W at h
  split at h
  · rename_i a s' e; exact ⟨a, s', e⟩
  · exact h.elim
  · exact h.elim
theorem W_get {m : M α} {P : α → Store → Prop} (h : W m s P (fun _ _ _ => False)) : ∃ a s', m s = .ok a s' ∧ P a s' := by
  unfold W at h
  split at h
  · rename_i a s' e; exact ⟨a, s', e, h⟩
  · exact h.elim
  · exact h.elim
theorem W_bnd {m : M α} {f : α → M β} {Q : β → Store → Prop} : W (bnd m f) s Q E = W m s (fun a s' => W (f a) s' Q E) E := by
  unfold W bnd
  cases m s <;> rfl
theorem W_ret {a : α} {Q : α → Store → Prop} : W (ret a) s Q E = Q a s := by with_unfolding_all rfl
theorem W_ite {c : Prop} [Decidable c] {a b : M α} {Q : α → Store → Prop} : W (if c then a else b) s Q E = if c then W a s Q E else W b s Q E := by split <;> rfl
variable {Q : PV → Store → Prop}
theorem W_kst {v : PV} : W (kst v ρ) s Q E = Q v s := by with_unfolding_all rfl
theorem W_eL0 {Q : List PV → Store → Prop} : W (eL [] ρ) s Q E = Q [] s := by with_unfolding_all rfl
theorem W_eL1 {Q : List PV → Store → Prop} {e : CE} {r : List CE} : W (eL (e :: r) ρ) s Q E = W (e ρ) s (fun v s' => W (eL r ρ) s' (fun vs s' => Q (v :: vs) s') E) E := by
  show W (bnd (e ρ) fun v => bnd (eL r ρ) fun vs => ret (v :: vs)) s Q E = _
  rw [W_bnd]
  congr 1
  funext v s'
  rw [W_bnd]
  with_unfolding_all rfl
theorem eL_len : ∀ {es : List CE} {s s' : Store} {vs : List PV}, eL es ρ s = .ok vs s' → vs.length = es.length
  | [], s, s', vs, h => by cases h; rfl
  | e :: r, s, s', vs, h => by
    unfold eL bnd at h
    cases h1 : e ρ s with
    | ok v s1 =>
      rw [h1] at h
      dsimp only at h
      cases h2 : eL r ρ s1 with
      | ok w s2 =>
        rw [h2] at h
        cases h
        rw [List.length_cons, List.length_cons, eL_len h2]
      | _ => rw [h2] at h; cases h
    | _ => rw [h1] at h; cases h
theorem W_eTup {es : List CE} (h : es.length ≤ 1000) : W (eTup es ρ) s Q E = W (eL es ρ) s (fun vs s' => Q (.tup vs) s') E := by
  unfold eTup W bnd
  cases e : eL es ρ s with
  | ok vs s' =>
    dsimp only
    rw [if_pos (by rw [eL_len e]; exact Nat.le_trans h (by decide))]
    rfl
  | _ => rfl
theorem W_eLst {es : List CE} (h : es.length ≤ 1000) : W (eLst es ρ) s Q E = W (eL es ρ) s (fun vs s' => Q (.ref s'.length) (s' ++ [.lst vs])) E := by
  unfold eLst W bnd
  cases e : eL es ρ s with
  | ok vs s' =>
    dsimp only
    rw [if_pos (by rw [eL_len e]; exact Nat.le_trans h (by decide))]
    rfl
  | _ => rfl
theorem w_dct0 (h : Q (.ref s.length) (s ++ [.dct []])) : W (eDct0 ρ) s Q E := W_ok (by rfl) h
theorem w_bare {c : Nat} (h : Q (.ref s.length) (s ++ [.ins c []])) : W (eBare c ρ) s Q E := W_ok (by rfl) h
theorem w_dct {kl : List Key} {es : List CE} (h : W (eL es ρ) (s ++ [.dct []]) (fun vs s' => s'[s.length]? = some (.dct []) ∧ Q (.ref s.length) (s'.set s.length (.dct (mergeP [] (kl.zip vs))))) E) : W (eDct kl es ρ) s Q E := by
  unfold W at h
  unfold eDct W
  cases e : eL es ρ (s ++ [.dct []]) with
  | ok vs s' =>
    rw [e] at h
    obtain ⟨e1, h⟩ := h
    dsimp only
    rw [e]
    dsimp only
    rw [e1]
    exact h
  | exc c fs s' => rw [e] at h; dsimp only; rw [e]; exact h
  | bad => rw [e] at h; exact (show False from h).elim
theorem W_e2 {f : PV → PV → M PV} {a b : CE} : W (e2 f a b ρ) s Q E = W (a ρ) s (fun x s' => W (b ρ) s' (fun y s' => W (f x y) s' Q E) E) E := by
  unfold e2
  rw [W_bnd]
  congr 1
  funext v s'
  rw [W_bnd]
theorem W_e1 {f : PV → M PV} {a : CE} : W (e1 f a ρ) s Q E = W (a ρ) s (fun x s' => W (f x) s' Q E) E := by
  unfold e1
  rw [W_bnd]
theorem W_eCmp {op : CmpOp} {a b : CE} : W (eCmp op a b ρ) s Q E = W (a ρ) s (fun x s' => W (b ρ) s' (fun y s' => W (cmpP op x y) s' (fun b s' => Q (.bl b) s') E) E) E := by
  unfold eCmp
  rw [W_bnd]
  congr 1
  funext v s'
  rw [W_bnd]
  congr 1
  funext w s'
  rw [W_bnd]
  with_unfolding_all rfl
theorem W_eAnd {a b : CE} : W (eAnd a b ρ) s Q E = W (a ρ) s (fun x s' => W (match x with
  | .bl true => b ρ
  | .bl false => ret (.bl false)
  | _ => stop) s' Q E) E := by
  unfold eAnd
  exact W_bnd
theorem W_eOr {a b : CE} : W (eOr a b ρ) s Q E = W (a ρ) s (fun x s' => W (match x with
  | .bl true => ret (.bl true)
  | .bl false => b ρ
  | _ => stop) s' Q E) E := by
  unfold eOr
  exact W_bnd
theorem W_eIf {c : CT} {a b : CE} : W (eIf c a b ρ) s Q E = W (c ρ) s (fun t s' => if t = true then W (a ρ) s' Q E else W (b ρ) s' Q E) E := by
  unfold eIf
  rw [W_bnd]
  congr 1
  funext t s'
  rw [W_ite]
theorem W_ePart {Q : Option Int → Store → Prop} {e : CE} : W (ePart e ρ) s Q E = W (e ρ) s (fun v s' => W (match v with
    | .int i => ret (some i)
    | _ => stop) s' Q E) E := by
  unfold ePart
  exact W_bnd
theorem W_eNo {Q : Option Int → Store → Prop} : W (eNo ρ) s Q E = Q none s := by with_unfolding_all rfl
theorem W_eSl {a : CE} {lo hi : Sl → M (Option Int)} : W (eSl a lo hi ρ) s Q E = W (a ρ) s (fun x s' => W (lo ρ) s' (fun lo s' => W (hi ρ) s' (fun hi s' => W (slP x lo hi) s' Q E) E) E) E := by
  unfold eSl
  rw [W_bnd]
  congr 1
  funext v s'
  rw [W_bnd]
  congr 1
  funext w s'
  rw [W_bnd]
theorem W_eCall {f : List PV → M PV} {es : List CE} : W (eCall f es ρ) s Q E = W (eL es ρ) s (fun vs s' => W (f vs) s' Q E) E := by
  unfold eCall
  rw [W_bnd]
theorem W_eMeth {L : Lk} {o : CE} {m : Str} {es : List CE} : W (eMeth L o m es ρ) s Q E = W (o ρ) s (fun x s' => W (methP L x m (eL es ρ)) s' Q E) E := by
  unfold eMeth
  rw [W_bnd]
theorem W_eLc {elt : CE} {asg : PV → Sl → Option Sl} {ts : CT} {src : Sl → M Sc} {own : List Nat} : W (eLc elt asg ts src own ρ) s Q E = W (src ρ) s (fun src s' => W (lcX elt asg ts src s'.length (wipeP ρ own) (lenI s' src + 1) 0) (s' ++ [.lst []]) Q E) E := by
  unfold eLc
  rw [W_bnd]
  with_unfolding_all rfl
variable {P : Bool → Store → Prop}
theorem W_tYes : W (tYes ρ) s P E = P true s := by with_unfolding_all rfl
theorem W_tNot {a : CT} : W (tNot a ρ) s P E = W (a ρ) s (fun b s' => P (!b) s') E := by
  unfold tNot
  rw [W_bnd]
  with_unfolding_all rfl
theorem W_tAnd {a b : CT} : W (tAnd a b ρ) s P E = W (a ρ) s (fun t s' => if t = true then W (b ρ) s' P E else P false s') E := by
  unfold tAnd
  rw [W_bnd]
  congr 1
  funext t s'
  rw [W_ite]
  with_unfolding_all rfl
theorem W_tOr {a b : CT} : W (tOr a b ρ) s P E = W (a ρ) s (fun t s' => if t = true then P true s' else W (b ρ) s' P E) E := by
  unfold tOr
  rw [W_bnd]
  congr 1
  funext t s'
  rw [W_ite]
  with_unfolding_all rfl
theorem W_tAnd3 {a b c : CT} : W (tAnd3 a b c ρ) s P E = W (tAnd a (tAnd b c) ρ) s P E := by with_unfolding_all rfl
theorem W_tOr3 {a b c : CT} : W (tOr3 a b c ρ) s P E = W (tOr a (tOr b c) ρ) s P E := by with_unfolding_all rfl
theorem W_tCmp {op : CmpOp} {a b : CE} : W (tCmp op a b ρ) s P E = W (a ρ) s (fun x s' => W (b ρ) s' (fun y s' => W (cmpP op x y) s' P E) E) E := by
  unfold tCmp
  rw [W_bnd]
  congr 1
  funext v s'
  rw [W_bnd]
theorem W_tTru {a : CE} : W (tTru a ρ) s P E = W (a ρ) s (fun x s' => W (truP x) s' P E) E := by
  unfold tTru
  rw [W_bnd]
theorem W_sWalk {Q : Sc → Store → Prop} {a : CE} : W (sWalk a ρ) s Q E = W (a ρ) s (fun x s' => W (walkP x) s' Q E) E := by
  unfold sWalk
  rw [W_bnd]
theorem W_sOf {Q : Sc → Store → Prop} {f : List PV → M Sc} {es : List CE} : W (sOf f es ρ) s Q E = W (eL es ρ) s (fun vs s' => W (f vs) s' Q E) E := by
  unfold sOf
  rw [W_bnd]
theorem W_rg1 {Q : Sc → Store → Prop} {n : Int} (h : inRange n = true) : W (rg1 [.int n]) s Q E = Q (.items (rangeL n.toNat 0)) s := by
  show W (if inRange n = true then ret (.items (rangeL n.toNat 0)) else stop) s Q E = _
  rw [if_pos h]
  with_unfolding_all rfl
theorem W_en1 {Q : Sc → Store → Prop} {v : PV} : W (en1 [v]) s Q E = W (enumP v) s Q E := by with_unfolding_all rfl
theorem W_enT {Q : Sc → Store → Prop} {l : List PV} : W (enumP (.tup l)) s Q E = Q (.items (enumL 0 l)) s := by with_unfolding_all rfl
theorem W_walkT {Q : Sc → Store → Prop} {l : List PV} : W (walkP (.tup l)) s Q E = Q (.items l) s := by with_unfolding_all rfl
variable {R : Fl → Sl → Store → Prop}
def thn (f : Fl) (a b : Prop) : Prop := match f with
  | .next => a
  | _ => b
theorem thn_next {a b : Prop} : thn .next a b = a := rfl
theorem thn_ret {a b : Prop} {v : PV} : thn (.ret v) a b = b := rfl
theorem thn_brk {a b : Prop} : thn .brk a b = b := rfl
theorem thn_cont {a b : Prop} : thn .cont a b = b := rfl
theorem SW_blk0 : SW (cBlk []) ρ s R E = R .next ρ s := by with_unfolding_all rfl
theorem SW_blk1 {st : SM} {r : List SM} : SW (cBlk (st :: r)) ρ s R E = SW st ρ s (fun f ρ' s' => thn f (SW (cBlk r) ρ' s' R E) (R f ρ' s')) E := by
  have e : cBlk (st :: r) ρ s = (match st ρ s with
    | .ok .next ρ' s' => cBlk r ρ' s'
    | o => o) := by with_unfolding_all rfl
  unfold SW
  rw [e]
  cases st ρ s with
  | ok f ρ' s' => cases f <;> rfl
  | _ => rfl
theorem SW_pass : SW cPass ρ s R E = R .next ρ s := by with_unfolding_all rfl
theorem SW_break : SW cBreak ρ s R E = R .brk ρ s := by with_unfolding_all rfl
theorem SW_cont : SW cCont ρ s R E = R .cont ρ s := by with_unfolding_all rfl
theorem SW_exp {e : CE} : SW (cExp e) ρ s R E = W (e ρ) s (fun _ s' => R .next ρ s') E := by
  unfold SW W cExp bndS
  cases e ρ s <;> rfl
theorem SW_ret {e : CE} : SW (cRet e) ρ s R E = W (e ρ) s (fun v s' => R (.ret v) ρ s') E := by
  unfold SW W cRet bndS
  cases e ρ s <;> rfl
theorem SW_retN : SW cRetN ρ s R E = R (.ret .non) ρ s := by with_unfolding_all rfl
theorem SW_asg {i : Nat} {e : CE} : SW (cAsg i e) ρ s R E = W (e ρ) s (fun v s' => R .next (ρ.set i (some v)) s') E := by
  unfold SW W cAsg bndS
  cases e ρ s <;> rfl
theorem SW_ixSet {o i e : CE} : SW (cIxSet o i e) ρ s R E = W (e ρ) s (fun v s' => W (o ρ) s' (fun x s' => W (i ρ) s' (fun j s' => W (ixSet x j v) s' (fun _ s' => R .next ρ s') E) E) E) E := by
  unfold SW W cIxSet bndS
  cases e ρ s with
  | ok v s1 =>
    dsimp only
    cases o ρ s1 with
    | ok x s2 =>
      dsimp only
      cases i ρ s2 with
      | ok j s3 =>
        dsimp only
        cases ixSet x j v s3 <;> rfl
      | _ => rfl
    | _ => rfl
  | _ => rfl
theorem SW_fldSet {L : Lk} {f : Str} {o e : CE} : SW (cFldSet L o f e) ρ s R E = W (e ρ) s (fun v s' => W (o ρ) s' (fun x s' => W (fldSet L x f v) s' (fun _ s' => R .next ρ s') E) E) E := by
  unfold SW W cFldSet bndS
  cases e ρ s with
  | ok v s1 =>
    dsimp only
    cases o ρ s1 with
    | ok x s2 =>
      dsimp only
      cases fldSet L x f v s2 <;> rfl
    | _ => rfl
  | _ => rfl
theorem SW_par {es : List CE} {t : Tgt} : SW (cPar es t.run) ρ s R E = W (eL es ρ) s (fun vs s' => ∃ ρ', t.run (.tup vs) ρ = some ρ' ∧ R .next ρ' s') E := by
  unfold SW W cPar bndS
  cases eL es ρ s with
  | ok vs s1 =>
    dsimp only
    cases t.run (.tup vs) ρ with
    | none => simp
    | some ρ' => simp
  | _ => rfl
theorem SW_unp {e : CE} {t : Tgt} : SW (cUnp e t.run) ρ s R E = W (e ρ) s (fun v s' => W (unlP v) s' (fun v s' => ∃ ρ', t.run v ρ = some ρ' ∧ R .next ρ' s') E) E := by
  unfold SW W cUnp bndS
  cases e ρ s with
  | ok v s1 =>
    dsimp only
    cases unlP v s1 with
    | ok vs s2 =>
      dsimp only
      cases t.run vs ρ with
      | none => simp
      | some ρ' => simp
    | _ => rfl
  | _ => rfl
theorem W_unlT {vs : List PV} {Q : PV → Store → Prop} : W (unlP (.tup vs)) s Q E = Q (.tup vs) s := by with_unfolding_all rfl
theorem w_unlT {vs : List PV} {Q : PV → Store → Prop} (h : Q (.tup vs) s) : W (unlP (.tup vs)) s Q E := by rw [W_unlT]; exact h
theorem w_unlL {n : Nat} {l : List PV} {Q : PV → Store → Prop} (hs : lstOf s n = some l) (h : Q (.tup l) s) : W (unlP (.ref n)) s Q E := by
  refine W_ok ?_ h
  show (match lstOf s n with
    | some l => RE.ok (PV.tup l) s
    | none => .bad) = _
  rw [hs]
theorem SW_if {c : CT} {a b : SM} : SW (cIf c a b) ρ s R E = W (c ρ) s (fun t s' => if t = true then SW a ρ s' R E else SW b ρ s' R E) E := by
  unfold SW W cIf bndS
  cases c ρ s with
  | ok t s1 =>
    dsimp only
    cases t <;> rfl
  | _ => rfl
theorem SW_for {src : Sl → M Sc} {a : PV → Sl → Option Sl} {b : SM} : SW (cFor src a b) ρ s R E = W (src ρ) s (fun src s' => SW (forX b a src (lenI s' src + 1) 0) ρ s' R E) E := by
  unfold SW W cFor bndS
  cases src ρ s <;> rfl
theorem SW_whl {c : CT} {b : SM} : SW (cWhl c b) ρ s R E = SW (whlX b c 100000) ρ s R E := by with_unfolding_all rfl
theorem SW_rai0 {c : Nat} : SW (cRai0 c) ρ s R E = E c [] s := by with_unfolding_all rfl
theorem SW_rai {c : Nat} {fl : List Str} {es : List CE} (h : es.length = fl.length) (h2 : fl.length ≤ 5) : SW (cRai c fl es) ρ s R E = W (eL es ρ) s (fun vs s' => E c (fl.zip vs) s') E := by
  unfold SW W cRai bndS
  cases e : eL es ρ s with
  | ok vs s1 =>
    dsimp only
    rw [if_pos ⟨by rw [eL_len e, h], h2⟩]
  | _ => rfl
/-- a def's end -/
def fnR (Q : PV → Store → Prop) : Fl → Sl → Store → Prop := fun f _ s' => match f with
  | .next => Q .non s'
  | .ret v => Q v s'
  | _ => False
theorem if_ff {a b : Prop} (h : b) : if false = true then a else b := h
theorem if_tt {a b : Prop} (h : a) : if true = true then a else b := h
theorem if_r0 {c : Bool} {a b : Prop} (h : c = false) (x : b) : if c = true then a else b := by rw [h]; exact x
theorem if_r1 {c : Bool} {a b : Prop} (h : c = true) (x : a) : if c = true then a else b := by rw [h]; exact x
theorem fnR_n {ρ : Sl} (h : Q .non s) : fnR Q .next ρ s := h
theorem fnR_r {ρ : Sl} {v : PV} (h : Q v s) : fnR Q (.ret v) ρ s := h
/-- blocks, one behind the other -/
def cB (l : List (List SM)) : SM := cBlk l.flatten
theorem W_cFn {N : Nat} {b : SM} {vs : List PV} (h : SW b (vs.map some ++ List.replicate (N - vs.length) none) s (fnR Q) E) : W (cFn N b vs) s Q E := by
  unfold fnR SW at h
  unfold W cFn
  cases e : b (vs.map some ++ List.replicate (N - vs.length) none) s with
  | ok f ρ' s' =>
    rw [e] at h
    cases f <;> exact h
  | exc c fs ρ' s' => rw [e] at h; exact h
  | bad => rw [e] at h; exact h
theorem k_in {l : List SM} (h : SW (cB [l]) ρ s R E) : SW (cBlk l) ρ s R E := by
  unfold cB at h
  simpa using h
variable {l : List SM} {r : List (List SM)} {v : PV} {s' : Store}
theorem SW_cB1 {st : SM} : SW (cB ((st :: l) :: r)) ρ s R E = SW st ρ s (fun f ρ' s' => thn f (SW (cB (l :: r)) ρ' s' R E) (R f ρ' s')) E := by
  unfold cB
  rw [List.flatten_cons, List.cons_append, SW_blk1, List.flatten_cons]
theorem cB_app : ∀ {as : List SM} {ρ : Sl} {s : Store}, SW (cB (as :: r)) ρ s R E = SW (cBlk as) ρ s (fun f ρ' s' => thn f (SW (cB r) ρ' s' R E) (R f ρ' s')) E
  | [], ρ, s => by rw [SW_blk0]; rfl
  | st :: as, ρ, s => by
    rw [SW_cB1, SW_blk1]
    congr 1
    funext f ρ' s'
    cases f with
    | next => exact cB_app
    | _ => rfl
/-- what stands behind a loop's end -/
def sq (r : List (List SM)) (R : Fl → Sl → Store → Prop) (E : XP) : Fl → Sl → Store → Prop := fun f ρ' s' => thn f (SW (cB r) ρ' s' R E) (R f ρ' s')
theorem sq_n (h : SW (cB r) ρ s R E) : sq r R E .next ρ s := h
theorem sq_r (h : R (.ret v) ρ s) : sq r R E (.ret v) ρ s := h
/-- what stands behind a turn -/
def lp (A R : Fl → Sl → Store → Prop) : Fl → Sl → Store → Prop := fun f ρ s => match f with
  | .next => A .next ρ s
  | .cont => A .next ρ s
  | .brk => R .next ρ s
  | .ret v => R (.ret v) ρ s
variable {A : Fl → Sl → Store → Prop}
theorem lp_n (h : A .next ρ s) : lp A R .next ρ s := h
theorem lp_c (h : A .next ρ s) : lp A R .cont ρ s := h
theorem lp_b (h : R .next ρ s) : lp A R .brk ρ s := h
theorem lp_r (h : R (.ret v) ρ s) : lp A R (.ret v) ρ s := h
theorem k_end (h : R .next ρ s) : SW (cB []) ρ s R E := by
  unfold cB
  rw [List.flatten_nil, SW_blk0]
  exact h
theorem k_pop (h : SW (cB r) ρ s R E) : SW (cB ([] :: r)) ρ s R E := h
theorem k_asg {i : Nat} {e : CE} (h : W (e ρ) s (fun v s' => SW (cB (l :: r)) (ρ.set i (some v)) s' R E) E) : SW (cB ((cAsg i e :: l) :: r)) ρ s R E := by
  rw [SW_cB1, SW_asg]
  exact h
theorem k_exp {e : CE} (h : W (e ρ) s (fun _ s' => SW (cB (l :: r)) ρ s' R E) E) : SW (cB ((cExp e :: l) :: r)) ρ s R E := by
  rw [SW_cB1, SW_exp]
  exact h
theorem k_ret {e : CE} (h : W (e ρ) s (fun v s' => R (.ret v) ρ s') E) : SW (cB ((cRet e :: l) :: r)) ρ s R E := by
  rw [SW_cB1, SW_ret]
  exact h
theorem k_retN (h : R (.ret .non) ρ s) : SW (cB ((cRetN :: l) :: r)) ρ s R E := by
  rw [SW_cB1, SW_retN]
  exact h
theorem k_pass (h : SW (cB (l :: r)) ρ s R E) : SW (cB ((cPass :: l) :: r)) ρ s R E := by
  rw [SW_cB1, SW_pass]
  exact h
theorem k_cont (h : R .cont ρ s) : SW (cB ((cCont :: l) :: r)) ρ s R E := by
  rw [SW_cB1, SW_cont]
  exact h
theorem k_break (h : R .brk ρ s) : SW (cB ((cBreak :: l) :: r)) ρ s R E := by
  rw [SW_cB1, SW_break]
  exact h
theorem k_ixSet {o i e : CE} (h : W (e ρ) s (fun v s' => W (o ρ) s' (fun x s' => W (i ρ) s' (fun j s' => W (ixSet x j v) s' (fun _ s' => SW (cB (l :: r)) ρ s' R E) E) E) E) E) : SW (cB ((cIxSet o i e :: l) :: r)) ρ s R E := by
  rw [SW_cB1, SW_ixSet]
  exact h
theorem k_fldSet {L : Lk} {f : Str} {o e : CE} (h : W (e ρ) s (fun v s' => W (o ρ) s' (fun x s' => W (fldSet L x f v) s' (fun _ s' => SW (cB (l :: r)) ρ s' R E) E) E) E) : SW (cB ((cFldSet L o f e :: l) :: r)) ρ s R E := by
  rw [SW_cB1, SW_fldSet]
  exact h
theorem k_par {es : List CE} {t : Tgt} (h : W (eL es ρ) s (fun vs s' => ∃ ρ', t.run (.tup vs) ρ = some ρ' ∧ SW (cB (l :: r)) ρ' s' R E) E) : SW (cB ((cPar es t.run :: l) :: r)) ρ s R E := by
  rw [SW_cB1, SW_par]
  exact h
theorem k_unp {e : CE} {t : Tgt} (h : W (e ρ) s (fun vs s' => W (unlP vs) s' (fun vs s' => ∃ ρ', t.run vs ρ = some ρ' ∧ SW (cB (l :: r)) ρ' s' R E) E) E) : SW (cB ((cUnp e t.run :: l) :: r)) ρ s R E := by
  rw [SW_cB1, SW_unp]
  exact h
theorem k_if {c : CT} {as bs : List SM} (h : W (c ρ) s (fun t s' => if t = true then SW (cB (as :: l :: r)) ρ s' R E else SW (cB (bs :: l :: r)) ρ s' R E) E) : SW (cB ((cIf c (cBlk as) (cBlk bs) :: l) :: r)) ρ s R E := by
  rw [SW_cB1, SW_if]
  simp only [cB_app (r := l :: r)] at h
  exact h
theorem k_if1 {c : CT} {as bs : List SM} (e : c ρ s = .ok true s') (h : SW (cB (as :: l :: r)) ρ s' R E) : SW (cB ((cIf c (cBlk as) (cBlk bs) :: l) :: r)) ρ s R E :=
  k_if (W_ok e h)
theorem k_if0 {c : CT} {as bs : List SM} (e : c ρ s = .ok false s') (h : SW (cB (bs :: l :: r)) ρ s' R E) : SW (cB ((cIf c (cBlk as) (cBlk bs) :: l) :: r)) ρ s R E :=
  k_if (W_ok e (by exact h))
theorem k_for {src : Sl → M Sc} {a : PV → Sl → Option Sl} {b : SM} (h : W (src ρ) s (fun src s' => SW (forX b a src (lenI s' src + 1) 0) ρ s' (sq (l :: r) R E) E) E) : SW (cB ((cFor src a b :: l) :: r)) ρ s R E := by
  rw [SW_cB1, SW_for]
  exact h
theorem k_forE {src : Sl → M Sc} {a : PV → Sl → Option Sl} {b : SM} (its : List PV) (n : Nat) (hs : src ρ s = .ok (.items its) s') (hn : its.length + 1 = n) (h : SW (forX b a (.items its) n 0) ρ s' (sq (l :: r) R E) E) : SW (cB ((cFor src a b :: l) :: r)) ρ s R E := by
  subst hn
  exact k_for (W_ok hs h)
theorem k_whl {c : CT} {b : SM} (h : SW (whlX b c 100000) ρ s (sq (l :: r) R E) E) : SW (cB ((cWhl c b :: l) :: r)) ρ s R E := by
  rw [SW_cB1, SW_whl]
  exact h
theorem k_rai0 {c : Nat} (h : E c [] s) : SW (cB ((cRai0 c :: l) :: r)) ρ s R E := by
  rw [SW_cB1, SW_rai0]
  exact h
theorem k_rai {c : Nat} {fl : List Str} {es : List CE} (h1 : es.length = fl.length) (h2 : fl.length ≤ 5) (h : W (eL es ρ) s (fun vs s' => E c (fl.zip vs) s') E) : SW (cB ((cRai c fl es :: l) :: r)) ρ s R E := by
  rw [SW_cB1, SW_rai h1 h2]
  exact h
theorem k_try {T : Tab} {b : SM} {c' : Nat} {fl0 : List Str} {sui : List Str → List (Str × PV) → Option Fl} {gone : Fl → Sl → Store → RS} (hc : excF T c' = some fl0)
    (h : SW b ρ s (sq (l :: r) R E) (fun c fs s' => ∃ fl, excF T c = some fl ∧ if T.sub c c' = true then ∀ ρ', ρ'.length = ρ.length → ∃ g, sui fl fs = some g ∧ SW (fun ρ s => gone g ρ s) ρ' s' (sq (l :: r) R E) E else E c fs s'))
    (hl : ∀ c fs ρ' s', b ρ s = .exc c fs ρ' s' → ρ'.length = ρ.length) : SW (cB ((cTry T b c' sui gone :: l) :: r)) ρ s R E := by
  rw [SW_cB1]
  unfold SW cTry
  unfold SW sq at h
  cases e : b ρ s with
  | ok f ρ' s' => rw [e] at h; with_unfolding_all exact h
  | bad => rw [e] at h; exact h
  | exc c fs ρ' s' =>
    rw [e] at h
    obtain ⟨fl, e1, h⟩ := h
    dsimp only
    rw [e1, hc]
    dsimp only
    by_cases hs : T.sub c c' = true
    · rw [if_pos hs] at h ⊢
      obtain ⟨g, hg, h⟩ := h ρ' (hl _ _ _ _ e)
      rw [hg]
      with_unfolding_all exact h
    · rw [if_neg hs] at h ⊢
      exact h
theorem w_e2 {f : PV → PV → M PV} {a b : CE} (h : W (a ρ) s (fun x s' => W (b ρ) s' (fun y s' => W (f x y) s' Q E) E) E) : W (e2 f a b ρ) s Q E := by rw [W_e2]; exact h
theorem w_e1 {f : PV → M PV} {a : CE} (h : W (a ρ) s (fun x s' => W (f x) s' Q E) E) : W (e1 f a ρ) s Q E := by rw [W_e1]; exact h
theorem w_cmp {op : CmpOp} {a b : CE} (h : W (a ρ) s (fun x s' => W (b ρ) s' (fun y s' => W (cmpP op x y) s' (fun b s' => Q (.bl b) s') E) E) E) : W (eCmp op a b ρ) s Q E := by rw [W_eCmp]; exact h
theorem w_call {f : List PV → M PV} {es : List CE} (h : W (eL es ρ) s (fun vs s' => W (f vs) s' Q E) E) : W (eCall f es ρ) s Q E := by rw [W_eCall]; exact h
theorem w_meth {L : Lk} {o : CE} {m : Str} {es : List CE} (h : W (o ρ) s (fun x s' => W (methP L x m (eL es ρ)) s' Q E) E) : W (eMeth L o m es ρ) s Q E := by rw [W_eMeth]; exact h
theorem w_tup {es : List CE} (hl : es.length ≤ 1000) (h : W (eL es ρ) s (fun vs s' => Q (.tup vs) s') E) : W (eTup es ρ) s Q E := by rw [W_eTup hl]; exact h
theorem w_lst {es : List CE} (hl : es.length ≤ 1000) (h : W (eL es ρ) s (fun vs s' => Q (.ref s'.length) (s' ++ [.lst vs])) E) : W (eLst es ρ) s Q E := by rw [W_eLst hl]; exact h
theorem w_nil {Q : List PV → Store → Prop} (h : Q [] s) : W (eL [] ρ) s Q E := by rw [W_eL0]; exact h
theorem w_cons {Q : List PV → Store → Prop} {e : CE} {r : List CE} (h : W (e ρ) s (fun v s' => W (eL r ρ) s' (fun vs s' => Q (v :: vs) s') E) E) : W (eL (e :: r) ρ) s Q E := by rw [W_eL1]; exact h
theorem w_if {c : CT} {a b : CE} (h : W (c ρ) s (fun t s' => if t = true then W (a ρ) s' Q E else W (b ρ) s' Q E) E) : W (eIf c a b ρ) s Q E := by rw [W_eIf]; exact h
theorem w_if1 {c : CT} {a b : CE} (e : c ρ s = .ok true s') (h : W (a ρ) s' Q E) : W (eIf c a b ρ) s Q E := w_if (W_ok e h)
theorem w_if0 {c : CT} {a b : CE} (e : c ρ s = .ok false s') (h : W (b ρ) s' Q E) : W (eIf c a b ρ) s Q E := w_if (W_ok e (by exact h))
theorem w_sl {a : CE} {lo hi : Sl → M (Option Int)} (h : W (a ρ) s (fun x s' => W (lo ρ) s' (fun lo s' => W (hi ρ) s' (fun hi s' => W (slP x lo hi) s' Q E) E) E) E) : W (eSl a lo hi ρ) s Q E := by rw [W_eSl]; exact h
theorem w_part {Q : Option Int → Store → Prop} {e : CE} (h : W (e ρ) s (fun v s' => W (match v with
    | .int i => ret (some i)
    | _ => stop) s' Q E) E) : W (ePart e ρ) s Q E := by rw [W_ePart]; exact h
theorem w_lc {elt : CE} {asg : PV → Sl → Option Sl} {ts : CT} {src : Sl → M Sc} {own : List Nat} (h : W (src ρ) s (fun src s' => W (lcX elt asg ts src s'.length (wipeP ρ own) (lenI s' src + 1) 0) (s' ++ [.lst []]) Q E) E) : W (eLc elt asg ts src own ρ) s Q E := by rw [W_eLc]; exact h
theorem w_tnot {P : Bool → Store → Prop} {a : CT} (h : W (a ρ) s (fun b s' => P (!b) s') E) : W (tNot a ρ) s P E := by rw [W_tNot]; exact h
theorem w_tand {P : Bool → Store → Prop} {a b : CT} (h : W (a ρ) s (fun t s' => if t = true then W (b ρ) s' P E else P false s') E) : W (tAnd a b ρ) s P E := by rw [W_tAnd]; exact h
theorem w_tor {P : Bool → Store → Prop} {a b : CT} (h : W (a ρ) s (fun t s' => if t = true then P true s' else W (b ρ) s' P E) E) : W (tOr a b ρ) s P E := by rw [W_tOr]; exact h
theorem w_tcmp {P : Bool → Store → Prop} {op : CmpOp} {a b : CE} (h : W (a ρ) s (fun x s' => W (b ρ) s' (fun y s' => W (cmpP op x y) s' P E) E) E) : W (tCmp op a b ρ) s P E := by rw [W_tCmp]; exact h
theorem w_ttru {P : Bool → Store → Prop} {a : CE} (h : W (a ρ) s (fun x s' => W (truP x) s' P E) E) : W (tTru a ρ) s P E := by rw [W_tTru]; exact h
theorem w_walk {Q : Sc → Store → Prop} {a : CE} (h : W (a ρ) s (fun x s' => W (walkP x) s' Q E) E) : W (sWalk a ρ) s Q E := by rw [W_sWalk]; exact h
theorem w_of {Q : Sc → Store → Prop} {f : List PV → M Sc} {es : List CE} (h : W (eL es ρ) s (fun vs s' => W (f vs) s' Q E) E) : W (sOf f es ρ) s Q E := by rw [W_sOf]; exact h
end
theorem callB_c {T : Tab} {call mk : Nat → List PV → M PV} {i n : Nat} {F : FnI} {b : SM} {vs : List PV} (h : T.fns[i]? = some F) (hq : blk (evS ⟨T, call, mk, F.N⟩ F.sc 20) F.body = b) (hn : F.N.length = n) (hl : vs.length = F.ps.length) : callB T call mk i vs = cFn n b vs := by
  funext s
  unfold callB cFn
  rw [h]
  dsimp only
  rw [if_pos hl, hq, ← hn]
  with_unfolding_all rfl
def iniN (T : Tab) (d : Nat) : Nat → List PV → M PV := (call2 T d).2
theorem iniN_succ {T : Tab} {d : Nat} : iniN T (d + 1) = callN T d := rfl
theorem callN_c {T : Tab} {d i n : Nat} {F : FnI} {b : SM} {vs : List PV} (h : T.fns[i]? = some F) (hq : blk (evS ⟨T, callN T d, iniN T d, F.N⟩ F.sc 20) F.body = b) (hn : F.N.length = n) (hl : vs.length = F.ps.length) : callN T (d + 1) i vs = cFn n b vs :=
  callB_c h hq hn hl
end Z

namespace Z
open PySem L2
section
variable {α : Type} {s : Store} {E : XP} {ρ : Sl} {Q : PV → Store → Prop} {R : Fl → Sl → Store → Prop}
theorem w_getK {n : Nat} {l : List (Key × PV)} {k : Key} {x v : PV} (hs : dctOf s n = some l) (hx : keyOf x = some k) (hk : dget l k = some v) (h : Q v s) : W (ixP (.ref n) x) s Q E := by
  refine W_ok (a := v) (s' := s) ?_ h
  unfold ixP
  have e : ∀ o, s[n]? = some o → (∀ l, o ≠ .lst l) ∧ ∀ l, o ≠ .rol l := fun o ho => by
    unfold dctOf at hs
    rw [ho] at hs
    cases o with
    | dct l => exact ⟨fun _ h => (by cases h), fun _ h => (by cases h)⟩
    | rod l => exact ⟨fun _ h => (by cases h), fun _ h => (by cases h)⟩
    | _ => cases hs
  cases x with
  | str y =>
    dsimp only
    split
    · rename_i q; exact absurd rfl ((e _ q).1 _)
    · rename_i q; exact absurd rfl ((e _ q).2 _)
    · rw [hs]; dsimp only; rw [hx]; dsimp only; rw [hk]
  | int i =>
    dsimp only
    split
    · rename_i q; exact absurd rfl ((e _ q).1 _)
    · rename_i q; exact absurd rfl ((e _ q).2 _)
    · rw [hs]; dsimp only; rw [hx]; dsimp only; rw [hk]
  | _ => cases hx
theorem dctOf_dct {n : Nat} {l : List (Key × PV)} (hs : s[n]? = some (.dct l)) : dctOf s n = some l := by unfold dctOf; rw [hs]
theorem dctOf_rod {n : Nat} {l : List (Key × PV)} (hs : s[n]? = some (.rod l)) : dctOf s n = some l := by unfold dctOf; rw [hs]
theorem w_get {n : Nat} {l : List (Key × PV)} {k : Str} {v : PV} (hs : s[n]? = some (.dct l)) (hk : dget l (.inr k) = some v) (h : Q v s) : W (ixP (.ref n) (.str k)) s Q E := w_getK (dctOf_dct hs) rfl hk h
theorem w_at {n : Nat} {l : List PV} {i : Int} {v : PV} (hs : lstOf s n = some l) (hk : atI l i = some v) (h : Q v s) : W (ixP (.ref n) (.int i)) s Q E := by
  refine W_ok (a := v) (s' := s) ?_ h
  have e : atP l i s = .ok v s := by unfold atP; rw [hk]; rfl
  unfold lstOf at hs
  unfold ixP
  dsimp only
  split at hs
  · rename_i q; cases hs; exact e
  · rename_i q; cases hs; exact e
  · cases hs
theorem w_put {n : Nat} {l : List (Key × PV)} {k : Str} {v : PV} (hs : s[n]? = some (.dct l)) (hl : l.length ≤ 1000) (h : Q .non (s.set n (.dct (dput l (.inr k) v)))) : W (ixSet (.ref n) (.str k) v) s Q E := by
  refine W_ok ?_ h
  show (match s[n]?, keyOf (.str k) with
    | some (.dct l), some k => if l.length < sizeLine then RE.ok PV.non (s.set n (.dct (dput l k v))) else .bad
    | _, _ => .bad) = _
  rw [hs]
  show (if l.length < sizeLine then RE.ok PV.non (s.set n (.dct (dput l (.inr k) v))) else .bad) = _
  rw [if_pos (Nat.lt_of_le_of_lt hl (by decide))]
theorem w_isinK {P : Bool → Store → Prop} {n : Nat} {l : List (Key × PV)} {k : Key} {x : PV} (hs : dctOf s n = some l) (hx : keyOf x = some k) (h : P (dget l k).isSome s) : W (inP x (.ref n)) s P E := by
  refine W_ok ?_ h
  unfold inP
  dsimp only
  rw [hs]
  dsimp only
  rw [hx]
theorem w_isin {P : Bool → Store → Prop} {n : Nat} {l : List (Key × PV)} {k : Str} (hs : s[n]? = some (.dct l)) (h : P (dget l (.inr k)).isSome s) : W (inP (.str k) (.ref n)) s P E := w_isinK (dctOf_dct hs) rfl h
theorem w_ninK {P : Bool → Store → Prop} {n : Nat} {l : List (Key × PV)} {k : Key} {x : PV} (hs : dctOf s n = some l) (hx : keyOf x = some k) (h : P (!(dget l k).isSome) s) : W (cmpP .NotIn x (.ref n)) s P E := by
  show W (bnd (inP x (.ref n)) fun b => ret (!b)) s P E
  rw [W_bnd]
  exact w_isinK hs hx (by rw [W_ret]; exact h)
theorem w_nin {P : Bool → Store → Prop} {n : Nat} {l : List (Key × PV)} {k : Str} (hs : s[n]? = some (.dct l)) (h : P (!(dget l (.inr k)).isSome) s) : W (cmpP .NotIn (.str k) (.ref n)) s P E := by
  show W (bnd (inP (.str k) (.ref n)) fun b => ret (!b)) s P E
  rw [W_bnd]
  exact w_isin hs (by rw [W_ret]; exact h)
theorem w_in {P : Bool → Store → Prop} {n : Nat} {l : List (Key × PV)} {k : Str} (hs : s[n]? = some (.dct l)) (h : P (dget l (.inr k)).isSome s) : W (cmpP .In (.str k) (.ref n)) s P E := w_isin hs h
theorem w_lenL {n : Nat} {l : List PV} (hs : lstOf s n = some l) (h : Q (.int (l.length : Nat)) s) : W (bltP .len [.ref n]) s Q E := by
  refine W_ok (a := .int (l.length : Nat)) (s' := s) ?_ h
  unfold lstOf at hs
  show lenP [.ref n] s = _
  unfold lenP
  dsimp only
  split at hs
  · rename_i q; cases hs; rw [q]
  · rename_i q; cases hs; rw [q]
  · cases hs
theorem w_lenD {n : Nat} {l : List (Key × PV)} (hs : dctOf s n = some l) (h : Q (.int (l.length : Nat)) s) : W (bltP .len [.ref n]) s Q E := by
  refine W_ok (a := .int (l.length : Nat)) (s' := s) ?_ h
  unfold dctOf at hs
  show lenP [.ref n] s = _
  unfold lenP
  dsimp only
  split at hs
  · rename_i q; cases hs; rw [q]
  · rename_i q; cases hs; rw [q]
  · cases hs
theorem w_addT {l r : List PV} (h : l.length + r.length ≤ 100000) (q : Q (.tup (l ++ r)) s) : W (binP .Add (.tup l) (.tup r)) s Q E := by
  refine W_ok ?_ q
  show (if l.length + r.length ≤ sizeLine then ret (PV.tup (l ++ r)) else stop) s = _
  rw [if_pos (Nat.le_trans h (by decide))]
  rfl
theorem w_mul {i j : Int} (h : mulB i j = true) (q : Q (.int (i * j)) s) : W (binP .Mult (.int i) (.int j)) s Q E := by
  refine W_ok ?_ q
  show (if mulB i j = true then ret (PV.int (i * j)) else stop) s = _
  rw [if_pos h]
  rfl
theorem w_mod {i j : Int} (h : 0 < j) (q : Q (.int (i % j)) s) : W (binP .Mod (.int i) (.int j)) s Q E := by
  refine W_ok ?_ q
  show (if 0 < j then ret (PV.int (i % j)) else stop) s = _
  rw [if_pos h]
  rfl
theorem w_div {i j : Int} (h : 0 < j) (h2 : j < 1073741824) (q : Q (.int (i / j)) s) : W (binP .FloorDiv (.int i) (.int j)) s Q E := by
  refine W_ok ?_ q
  show (if 0 < j ∧ j < 1073741824 then ret (PV.int (i / j)) else stop) s = _
  rw [if_pos ⟨h, h2⟩]
  rfl
theorem w_walkL {P : Sc → Store → Prop} {n : Nat} {l : List PV} (hs : lstOf s n = some l) (h : P (.live n) s) : W (walkP (.ref n)) s P E := by
  refine W_ok (a := .live n) (s' := s) ?_ h
  unfold walkP
  dsimp only
  rw [hs]
theorem w_walkD {P : Sc → Store → Prop} {n : Nat} {l : List (Key × PV)} (hs : s[n]? = some (.dct l)) (h : P (.keys n) (s.set n (.rod l))) : W (walkP (.ref n)) s P E := by
  refine W_ok (a := .keys n) (s' := s.set n (.rod l)) ?_ h
  unfold walkP
  dsimp only
  rw [show lstOf s n = none from by unfold lstOf; rw [hs]]
  dsimp only
  rw [hs]
theorem w_walkR {P : Sc → Store → Prop} {n : Nat} {l : List (Key × PV)} (hs : s[n]? = some (.rod l)) (h : P (.keys n) s) : W (walkP (.ref n)) s P E := by
  refine W_ok (a := .keys n) (s' := s) ?_ h
  unfold walkP
  dsimp only
  rw [show lstOf s n = none from by unfold lstOf; rw [hs]]
  dsimp only
  rw [hs]
theorem w_dictK {n : Nat} {l : List (Key × PV)} (hs : dctOf s n = some l) (h : Q (.ref s.length) (s ++ [.dct l])) : W (bltP .dict [.ref n]) s Q E := by
  refine W_ok (a := .ref s.length) (s' := s ++ [.dct l]) ?_ h
  show dictP [.ref n] s = _
  unfold dictP
  dsimp only
  split
  · rename_i q
    unfold dctOf at hs
    rw [q] at hs
    cases hs
  · rw [hs]
theorem w_dictD {n : Nat} {l : List (Key × PV)} (hs : s[n]? = some (.dct l)) (h : Q (.ref s.length) (s ++ [.dct l])) : W (bltP .dict [.ref n]) s Q E := w_dictK (dctOf_dct hs) h
theorem w_dictL {n : Nat} {l : List PV} {kvs : List (Key × PV)} (hs : s[n]? = some (.lst l)) (hp : pairsOf l = some kvs) (h : Q (.ref s.length) (s ++ [.dct (mergeP [] kvs)])) : W (bltP .dict [.ref n]) s Q E := by
  refine W_ok (a := .ref s.length) (s' := s ++ [.dct (mergeP [] kvs)]) ?_ h
  show dictP [.ref n] s = _
  unfold dictP
  dsimp only
  rw [hs]
  dsimp only
  rw [hp]
theorem w_anyL {n : Nat} {l : List PV} {bs : List Bool} (hs : lstOf s n = some l) (hp : boolsOf l = some bs) (h : Q (.bl (bs.any id)) s) : W (bltP .any [.ref n]) s Q E := by
  refine W_ok (a := .bl (bs.any id)) (s' := s) ?_ h
  show (match (lstOf s n).bind boolsOf with
    | some l => RE.ok (PV.bl (l.any id)) s
    | none => .bad) = _
  rw [hs, Option.bind_some, hp]
theorem w_minL {n : Nat} {l : List PV} {is : List Int} {m : Int} (hs : lstOf s n = some l) (hp : intsOf l = some is) (hm : minL is = some m) (h : Q (.int m) s) : W (bltP .min [.ref n]) s Q E := by
  refine W_ok (a := .int m) (s' := s) ?_ h
  show (match (lstOf s n).bind intsOf with
    | some l => match minL l with
      | some m => RE.ok (PV.int m) s
      | none => .bad
    | none => .bad) = _
  rw [hs, Option.bind_some, hp]
  dsimp only
  rw [hm]
theorem w_tupL {n : Nat} {l : List PV} (hs : lstOf s n = some l) (h : Q (.tup l) s) : W (bltP .tuple [.ref n]) s Q E := by
  refine W_ok (a := .tup l) (s' := s) ?_ h
  show (match lstOf s n with
    | some l => RE.ok (PV.tup l) s
    | none => .bad) = _
  rw [hs]
theorem SW_forP' {b : SM} {a : PV → Sl → Option Sl} {src : Sc} (I : Nat → Sl → Store → Prop) (items : List PV)
    (hsrc : ∀ i ρ s, I i ρ s → getI s src i = some items[i]?)
    (step : ∀ i v ρ s, items[i]? = some v → I i ρ s → ∃ ρ1, a v ρ = some ρ1 ∧ SW b ρ1 s (fun f ρ' s' => match f with
      | .next => I (i + 1) ρ' s'
      | .cont => I (i + 1) ρ' s'
      | .brk => R .next ρ' s'
      | .ret v => R (.ret v) ρ' s') E)
    (hend : ∀ ρ s, I items.length ρ s → R .next ρ s) : ∀ (k i : Nat) (ρ : Sl) (s : Store), I i ρ s → i ≤ items.length → items.length < k + i → SW (forP b a src k i) ρ s R E
  | 0, i, ρ, s, h, h1, h2 => absurd h2 (by omega)
  | k + 1, i, ρ, s, h, h1, h2 => by
    unfold SW forP
    rw [hsrc i ρ s h]
    cases hv : items[i]? with
    | none =>
      have e : i = items.length := by have := List.getElem?_eq_none_iff.mp hv; omega
      subst e
      exact hend ρ s h
    | some v =>
      obtain ⟨ρ1, e1, hb⟩ := step i v ρ s hv h
      dsimp only
      rw [e1]
      dsimp only
      have hi : i < items.length := (List.getElem?_eq_some_iff.mp hv).1
      unfold SW at hb
      cases hq : b ρ1 s with
      | ok f ρ' s' =>
        rw [hq] at hb
        cases f with
        | next => with_unfolding_all exact SW_forP' I items hsrc step hend k (i + 1) ρ' s' hb hi (by omega)
        | cont => with_unfolding_all exact SW_forP' I items hsrc step hend k (i + 1) ρ' s' hb hi (by omega)
        | brk => exact hb
        | ret v => exact hb
      | exc c fs ρ' s' => rw [hq] at hb; exact hb
      | bad => rw [hq] at hb; exact hb
theorem k_for0' {b : SM} {a : PV → Sl → Option Sl} {l : List PV} {k i : Nat} (hv : l[i]? = none) (h : R .next ρ s) : SW (forP b a (.items l) (k + 1) i) ρ s R E := by
  unfold SW forP
  rw [show getI s (.items l) i = some none from congrArg some hv]
  exact h
theorem k_for1' {b : SM} {a : PV → Sl → Option Sl} {l : List PV} {k i : Nat} {v : PV} {ρ1 : Sl} (hv : l[i]? = some v) (ha : a v ρ = some ρ1) (h : SW b ρ1 s (fun f ρ' s' => match f with
      | .next => SW (forP b a (.items l) k (i + 1)) ρ' s' R E
      | .cont => SW (forP b a (.items l) k (i + 1)) ρ' s' R E
      | .brk => R .next ρ' s'
      | .ret v => R (.ret v) ρ' s') E) : SW (forP b a (.items l) (k + 1) i) ρ s R E := by
  unfold SW at h
  unfold SW forP
  rw [show getI s (.items l) i = some (some v) from congrArg some hv]
  dsimp only
  rw [ha]
  dsimp only
  cases hq : b ρ1 s with
  | ok f ρ' s' =>
    rw [hq] at h
    cases f <;> with_unfolding_all exact h
  | exc c fs ρ' s' => rw [hq] at h; exact h
  | bad => rw [hq] at h; exact h
theorem SW_while' {b : SM} {c : CT} (I : Nat → Sl → Store → Prop)
    (step : ∀ n ρ s, I n ρ s → W (c ρ) s (fun t s1 => if t = true then SW b ρ s1 (fun f ρ' s' => match f with
      | .next => ∃ m, m < n ∧ I m ρ' s'
      | .cont => ∃ m, m < n ∧ I m ρ' s'
      | .brk => R .next ρ' s'
      | .ret v => R (.ret v) ρ' s') E else R .next ρ s1) E) : ∀ (k n : Nat) (ρ : Sl) (s : Store), I n ρ s → n < k → SW (whl b c k) ρ s R E
  | 0, n, ρ, s, h, h1 => absurd h1 (by omega)
  | k + 1, n, ρ, s, h, h1 => by
    have hs := step n ρ s h
    unfold W at hs
    unfold SW whl
    cases hc : c ρ s with
    | bad => rw [hc] at hs; exact hs
    | exc cc fs s' => rw [hc] at hs; exact hs
    | ok t s1 =>
      rw [hc] at hs
      cases t with
      | false => exact hs
      | true =>
        have hs : SW b ρ s1 _ E := hs
        unfold SW at hs
        dsimp only
        cases hq : b ρ s1 with
        | ok f ρ' s' =>
          rw [hq] at hs
          cases f with
          | next => obtain ⟨m, hm, hI⟩ := hs; with_unfolding_all exact SW_while' I step k m ρ' s' hI (by omega)
          | cont => obtain ⟨m, hm, hI⟩ := hs; with_unfolding_all exact SW_while' I step k m ρ' s' hI (by omega)
          | brk => exact hs
          | ret v => exact hs
        | exc c fs ρ' s' => rw [hq] at hs; exact hs
        | bad => rw [hq] at hs; exact hs
/-- a comprehension: acc is what stands in the new list -/
theorem w_lcC' {elt : CE} {asg : PV → Sl → Option Sl} {ts : CT} {src : Sc} {D : Nat} {ρ : Sl} (I : Nat → List PV → Store → Prop) (items : List PV)
    (hsrc : ∀ i acc s, I i acc s → getI s src i = some items[i]?) (hl : items.length ≤ 100000)
    (step : ∀ i v acc s, items[i]? = some v → I i acc s → s[D]? = some (.lst acc) → ∃ ρ1, asg v ρ = some ρ1 ∧ W (ts ρ1) s (fun t s1 => if t = true then
        W (elt ρ1) s1 (fun y s2 => s2[D]? = some (.lst acc) ∧ I (i + 1) (acc ++ [y]) (s2.set D (.lst (acc ++ [y])))) (fun _ _ _ => False)
      else s1[D]? = some (.lst acc) ∧ I (i + 1) acc s1) (fun _ _ _ => False))
    (hend : ∀ acc s, I items.length acc s → s[D]? = some (.lst acc) → Q (.ref D) s) : ∀ (k i : Nat) (acc : List PV) (s : Store), I i acc s → s[D]? = some (.lst acc) → acc.length ≤ i → i ≤ items.length → items.length < k + i →
    W (lcC elt asg ts src D ρ k i) s Q E
  | 0, i, acc, s, _, _, _, h1, h2 => absurd h2 (by omega)
  | k + 1, i, acc, s, h, hD, ha, h1, h2 => by
    unfold W lcC
    try dsimp only
    rw [hsrc i acc s h]
    cases hv : items[i]? with
    | none =>
      have e : i = items.length := by have := List.getElem?_eq_none_iff.mp hv; omega
      subst e
      exact hend acc s h hD
    | some v =>
      have hi : i < items.length := (List.getElem?_eq_some_iff.mp hv).1
      obtain ⟨ρ1, e1, hb⟩ := step i v acc s hv h hD
      dsimp only
      rw [e1]
      dsimp only
      unfold W at hb
      cases ht : ts ρ1 s with
      | bad => rw [ht] at hb; exact hb.elim
      | exc c fs s' => rw [ht] at hb; exact hb.elim
      | ok t s1 =>
        rw [ht] at hb
        cases t with
        | false => with_unfolding_all exact w_lcC' I items hsrc hl step hend k (i + 1) acc s1 hb.2 hb.1 (by omega) hi (by omega)
        | true =>
          simp only [if_true] at hb
          dsimp only
          cases he : elt ρ1 s1 with
          | bad => rw [he] at hb; exact hb.elim
          | exc c fs s' => rw [he] at hb; exact hb.elim
          | ok y s2 =>
            rw [he] at hb
            dsimp only
            rw [hb.1]
            dsimp only
            rw [if_pos (Nat.lt_of_le_of_lt (show acc.length ≤ 100000 by omega) (by decide))]
            have hD2 : D < s2.length := (List.getElem?_eq_some_iff.mp hb.1).1
            with_unfolding_all exact w_lcC' I items hsrc hl step hend k (i + 1) (acc ++ [y]) _ hb.2 (by simp [List.getElem?_set, hD2]) (by simp; omega) hi (by omega)
theorem SW_forP {b : SM} {a : PV → Sl → Option Sl} {src : Sc} (I : Nat → Sl → Store → Prop) (items : List PV)
    (hsrc : ∀ i ρ s, I i ρ s → getI s src i = some items[i]?)
    (step : ∀ i v ρ s, items[i]? = some v → I i ρ s → ∃ ρ1, a v ρ = some ρ1 ∧ SW b ρ1 s (lp (fun _ ρ' s' => I (i + 1) ρ' s') R) E)
    (hend : ∀ ρ s, I items.length ρ s → R .next ρ s) (k i : Nat) (ρ : Sl) (s : Store) (h : I i ρ s) (h1 : i ≤ items.length) (h2 : items.length < k + i) : SW (forX b a src k i) ρ s R E := by
  rw [forX_eq]
  exact SW_forP' I items hsrc step hend k i ρ s h h1 h2
theorem k_for0 {b : SM} {a : PV → Sl → Option Sl} {l : List PV} {k i : Nat} (hv : l[i]? = none) (h : R .next ρ s) : SW (forX b a (.items l) (k + 1) i) ρ s R E := by
  rw [forX_eq]
  exact k_for0' hv h
theorem k_for1 {b : SM} {a : PV → Sl → Option Sl} {l : List PV} {k i : Nat} {v : PV} {ρ1 : Sl} (hv : l[i]? = some v) (ha : a v ρ = some ρ1) (h : SW b ρ1 s (lp (fun _ ρ' s' => SW (forX b a (.items l) k (i + 1)) ρ' s' R E) R) E) : SW (forX b a (.items l) (k + 1) i) ρ s R E := by
  rw [forX_eq]
  simp only [forX_eq] at h
  exact k_for1' hv ha h
theorem SW_while {b : SM} {c : CT} (I : Nat → Sl → Store → Prop)
    (step : ∀ n ρ s, I n ρ s → W (c ρ) s (fun t s1 => if t = true then SW b ρ s1 (lp (fun _ ρ' s' => ∃ m, m < n ∧ I m ρ' s') R) E else R .next ρ s1) E) (k n : Nat) (ρ : Sl) (s : Store) (h : I n ρ s) (h1 : n < k) : SW (whlX b c k) ρ s R E := by
  rw [whlX_eq]
  exact SW_while' I step k n ρ s h h1
theorem w_lcC {elt : CE} {asg : PV → Sl → Option Sl} {ts : CT} {src : Sc} {D : Nat} {ρ : Sl} (I : Nat → List PV → Store → Prop) (items : List PV)
    (hsrc : ∀ i acc s, I i acc s → getI s src i = some items[i]?) (hl : items.length ≤ 100000)
    (step : ∀ i v acc s, items[i]? = some v → I i acc s → s[D]? = some (.lst acc) → ∃ ρ1, asg v ρ = some ρ1 ∧ W (ts ρ1) s (fun t s1 => if t = true then
        W (elt ρ1) s1 (fun y s2 => s2[D]? = some (.lst acc) ∧ I (i + 1) (acc ++ [y]) (s2.set D (.lst (acc ++ [y])))) (fun _ _ _ => False)
      else s1[D]? = some (.lst acc) ∧ I (i + 1) acc s1) (fun _ _ _ => False))
    (hend : ∀ acc s, I items.length acc s → s[D]? = some (.lst acc) → Q (.ref D) s) (k i : Nat) (acc : List PV) (s : Store) (h : I i acc s) (hD : s[D]? = some (.lst acc)) (ha : acc.length ≤ i) (h1 : i ≤ items.length) (h2 : items.length < k + i) :
    W (lcX elt asg ts src D ρ k i) s Q E := by
  rw [lcX_eq]
  exact w_lcC' I items hsrc hl step hend k i acc s h hD ha h1 h2
end
/-- but for the object t nothing that stood has changed -/
structure Kp (t : Nat) (s s' : Store) : Prop where
  le : s.length ≤ s'.length
  at_ : ∀ n, n < s.length → n ≠ t → s'[n]? = s[n]?
theorem Kp.refl {t : Nat} {s : Store} : Kp t s s := ⟨Nat.le_refl _, fun _ _ _ => rfl⟩
theorem Kp.trans {t : Nat} {s s' s'' : Store} (h : Kp t s s') (h2 : Kp t s' s'') : Kp t s s'' :=
  ⟨Nat.le_trans h.le h2.le, fun n hn ht => (h2.at_ n (Nat.lt_of_lt_of_le hn h.le) ht).trans (h.at_ n hn ht)⟩
theorem Kp.get {t n : Nat} {s s' : Store} {o : SO} (h : Kp t s s') (hn : s[n]? = some o) (ht : n ≠ t) : s'[n]? = some o := by
  rw [h.at_ n (List.getElem?_eq_some_iff.mp hn).1 ht]
  exact hn
theorem Kp.push {t : Nat} {s : Store} {r : List SO} : Kp t s (s ++ r) :=
  ⟨by simp, fun n hn _ => List.getElem?_append_left hn⟩
theorem Kp.set {t : Nat} {s : Store} {o : SO} : Kp t s (s.set t o) :=
  ⟨by simp, fun n _ ht => by rw [List.getElem?_set, if_neg (Ne.symm ht)]⟩
theorem Kp.setN {t n : Nat} {s s' : Store} {o : SO} (h : Kp t s s') (hn : s.length ≤ n) : Kp t s (s'.set n o) :=
  ⟨by simpa using h.le, fun m hm ht => by rw [List.getElem?_set, if_neg (by omega)]; exact h.at_ m hm ht⟩
theorem lst_of {s : Store} {n : Nat} {l : List PV} (h : s[n]? = some (.lst l)) : lstOf s n = some l := by
  unfold lstOf
  rw [h]
theorem rol_of {s : Store} {n : Nat} {l : List PV} (h : s[n]? = some (.rol l)) : lstOf s n = some l := by
  unfold lstOf
  rw [h]
end Z

namespace Z
open PySem L2
local macro_rules | `(tactic| infer_instance) => `(tactic| first
  | with_reducible first
    | refine k_asg ?_ | refine k_exp ?_ | refine k_ret ?_ | refine k_pop ?_ | refine k_retN ?_ | refine k_ixSet ?_ | refine k_fldSet ?_ | refine k_aug ?_ | refine k_par ?_ | refine k_unp ?_ | refine k_pass ?_ | refine k_cont ?_ | refine k_break ?_ | refine k_rai0 ?_ | refine k_whl ?_ | refine k_in ?_ | refine k_end ?_
    | refine w_call ?_ | refine w_cons ?_ | refine w_nil ?_ | refine w_e2 ?_ | refine w_e1 ?_ | refine w_cmp ?_ | refine w_tcmp ?_ | refine w_ttru ?_ | refine w_sl ?_ | refine w_meth ?_ | refine w_dct ?_ | refine w_lc ?_ | refine w_part ?_ | refine w_walk ?_ | refine w_of ?_
    | refine lp_n ?_ | refine lp_c ?_ | refine lp_b ?_ | refine lp_r ?_ | refine sq_n ?_ | refine sq_r ?_ | refine fnR_n ?_ | refine fnR_r ?_ | refine if_ff ?_ | refine if_tt ?_
  | ((with_reducible apply k_if0); (case e => exact rfl))
  | ((with_reducible apply k_if1); (case e => exact rfl))
  | with_reducible refine k_if ?_
  | ((with_reducible apply w_if0); (case e => exact rfl))
  | ((with_reducible apply w_if1); (case e => exact rfl))
  | with_reducible first | refine w_if ?_ | refine w_tand ?_ | refine w_tor ?_ | refine w_tnot ?_ | refine k_for ?_
  | ((with_reducible apply w_tup); (case hl => exact Nat.le_of_ble_eq_true rfl))
  | ((with_reducible apply w_lst); (case hl => exact Nat.le_of_ble_eq_true rfl))
  | ((with_reducible apply k_rai); (case h1 => exact rfl); (case h2 => exact Nat.le_of_ble_eq_true rfl))
  | ((with_reducible apply if_r0); (case h => exact rfl))
  | ((with_reducible apply if_r1); (case h => exact rfl))
  | ((with_reducible apply W_ok); (case h => exact rfl)))
def tapeB1 : SM := cBlk [cAsg 2 (e2 (binP .Mod) (eCall (bltP .int) [e2 (binP .Add) (e2 (binP .Mult) (sl 2) (kst (.int 31))) (sl 3)]) (kst (.int 2147483647)))]
def tapeB : SM := cBlk [cAsg 1 (eLc (eCall (bltP .abs) [eCall (bltP .int) [sl 3]]) (Tgt.run (.nm 3)) (tYes) (sWalk (sl 0)) [3]),
  cAsg 2 (kst (.int 7)),
  cFor (sWalk (sl 1)) (Tgt.run (.nm 3)) tapeB1,
  cRet (eDct [.inr "cells", .inr "at", .inr "left", .inr "seed", .inr "salt"] [sl 1, kst (.int 0), kst (.int 0), sl 2, kst (.int 0)])]
def takeL : List SM := [cIf (tAnd (tCmp .Eq (e2 ixP (sl 0) (kst (.str "left"))) (kst (.int 0))) (tCmp .Lt (e2 ixP (sl 0) (kst (.str "at"))) (eCall (bltP .len) [e2 ixP (sl 0) (kst (.str "cells"))]))) (cBlk [cIxSet (sl 0) (kst (.str "left")) (e2 ixP (e2 ixP (sl 0) (kst (.str "cells"))) (e2 ixP (sl 0) (kst (.str "at")))), cIxSet (sl 0) (kst (.str "at")) (e2 (binP .Add) (e2 ixP (sl 0) (kst (.str "at"))) (kst (.int 1)))]) (cBlk []),
  cIf (tCmp .Gt (e2 ixP (sl 0) (kst (.str "left"))) (kst (.int 0))) (cBlk [cAsg 2 (e2 (binP .Mod) (eCall (bltP .int) [e2 ixP (sl 0) (kst (.str "left"))]) (sl 1)), cIxSet (sl 0) (kst (.str "left")) (e2 (binP .FloorDiv) (e2 ixP (sl 0) (kst (.str "left"))) (sl 1)), cRet (sl 2)]) (cBlk []),
  cIxSet (sl 0) (kst (.str "salt")) (e2 (binP .Add) (e2 ixP (sl 0) (kst (.str "salt"))) (kst (.int 1))),
  cAsg 3 (e2 (binP .Mod) (eCall (bltP .int) [e2 (binP .Add) (e2 (binP .Mult) (e2 ixP (sl 0) (kst (.str "seed"))) (kst (.int 48271))) (e2 (binP .Mult) (e2 ixP (sl 0) (kst (.str "salt"))) (kst (.int 69621)))]) (kst (.int 2147483647))),
  cAsg 3 (e2 (binP .Mod) (eCall (bltP .int) [e2 (binP .Add) (e2 (binP .Add) (e2 (binP .Mult) (sl 3) (sl 3)) (e2 (binP .Mult) (e2 ixP (sl 0) (kst (.str "salt"))) (kst (.int 40692)))) (kst (.int 12345))]) (kst (.int 2147483399))),
  cRet (e2 (binP .Mod) (eCall (bltP .int) [sl 3]) (sl 1))]
def takeB : SM := cBlk takeL
def tpD (c : Nat) (a l sd sa : Int) : List (Key × PV) := [(.inr "cells", .ref c), (.inr "at", .int a), (.inr "left", .int l), (.inr "seed", .int sd), (.inr "salt", .int sa)]
/-- a tape stands at t -/
structure Tp (s : Store) (t c : Nat) : Prop where
  ex : ∃ (a : Nat) (l sd sa : Int) (xs : List Int), s[t]? = some (.dct (tpD c a l sd sa)) ∧ s[c]? = some (.lst (xs.map .int)) ∧ c ≠ t ∧ a ≤ xs.length ∧ 0 ≤ l ∧ ∀ x ∈ xs, 0 ≤ x
theorem Tp.keep {s s' : Store} {t c : Nat} (h : Tp s t c) (k : ∀ (n : Nat) (o : SO), s[n]? = some o → s'[n]? = some o) : Tp s' t c := by
  obtain ⟨a, l, sd, sa, xs, h1, h2, h3⟩ := h.ex
  exact ⟨a, l, sd, sa, xs, k _ _ h1, k _ _ h2, h3⟩
section
variable {s : Store} {E : XP} {Q : PV → Store → Prop}

theorem mod_bd {x m : Int} (h : 0 < m) : 0 ≤ x % m ∧ x % m < m := ⟨Int.emod_nonneg _ (by omega), Int.emod_lt_of_pos _ h⟩
theorem ift {c : Prop} [Decidable c] {a b : Prop} (h : c) (x : a) : if c then a else b := by rw [if_pos h]; exact x
theorem iff_ {c : Prop} [Decidable c] {a b : Prop} (h : ¬c) (x : b) : if c then a else b := by rw [if_neg h]; exact x
theorem ifd {c : Prop} [Decidable c] {a b : Prop} (h : c → a) (h2 : ¬c → b) : if decide c = true then a else b := by
  by_cases q : c
  · rw [if_pos (decide_eq_true q)]; exact h q
  · rw [if_neg (by simpa using q)]; exact h2 q
theorem w_putA {n : Nat} {D D' : List (Key × PV)} {k : Str} {v : PV} (hs : s[n]? = some (.dct D)) (hl : D.length ≤ 1000) (hd : dput D (.inr k) v = D') (h : ∀ s1, s1[n]? = some (.dct D') → Kp n s s1 → s1.length = s.length → Q .non s1) : W (ixSet (.ref n) (.str k) v) s Q E := by
  refine w_put hs hl ?_
  rw [hd]
  have hn : n < s.length := (List.getElem?_eq_some_iff.mp hs).1
  exact h _ (by simp [List.getElem?_set, hn]) Kp.set (by simp)
theorem take_ok {t c : Nat} {m : Int} (hT : Tp s t c) (h0 : 0 < m) (h1 : m < 1073741824) (hq : ∀ r s', 0 ≤ r → r < m → Tp s' t c → Kp t s s' → s'.length = s.length → Q (.int r) s') : W (cFn 4 takeB [.ref t, .int m]) s Q E := by
  obtain ⟨a, l, sd, sa, xs, e1, e2, e3, e4, e5, e6⟩ := hT.ex
  -- behind the refill
  have main : ∀ (s : Store) (a : Nat) (l : Int) (ρ : Sl), s[t]? = some (.dct (tpD c a l sd sa)) → s[c]? = some (.lst (xs.map .int)) → a ≤ xs.length → 0 ≤ l → ρ = [some (.ref t), some (.int m), none, none] →
      (∀ r s', 0 ≤ r → r < m → Tp s' t c → Kp t s s' → s'.length = s.length → Q (.int r) s') →
      SW (cB [takeL.drop 1]) ρ s (fnR Q) E := by
    intro s a l ρ e1 e2 e4 e5 hρ hq
    subst hρ
    show SW (cB [[_, _, _, _, _]]) _ _ _ _
    refine k_if ?_
    refine w_tcmp ?_
    repeat infer_instance
    refine w_get e1 rfl ?_
    repeat infer_instance
    refine ifd (fun hl => ?_) fun hl => ?_
    · repeat infer_instance
      refine w_get e1 rfl ?_
      repeat infer_instance
      refine w_mod h0 ?_
      repeat infer_instance
      refine w_get e1 rfl ?_
      repeat infer_instance
      refine w_div h0 h1 ?_
      repeat infer_instance
      refine w_putA e1 (by show 5 ≤ 1000; decide) (by rfl) fun s1 g1 k1 l1 => ?_
      repeat infer_instance
      refine hq _ _ (mod_bd h0).1 (mod_bd h0).2 ⟨a, l / m, sd, sa, xs, g1, k1.get e2 e3, e3, e4, Int.ediv_nonneg e5 (by omega), e6⟩ k1 l1
    · repeat infer_instance
      refine w_get e1 rfl ?_
      repeat infer_instance
      refine w_putA e1 (by show 5 ≤ 1000; decide) (by rfl) fun s1 g1 k1 l1 => ?_
      have g1 : s1[t]? = some (.dct (tpD c a l sd (sa + 1))) := g1
      repeat infer_instance
      refine w_get g1 rfl ?_
      repeat infer_instance
      refine w_mul (by simp [mulB]) ?_
      repeat infer_instance
      refine w_get g1 rfl ?_
      repeat infer_instance
      refine w_mul (by simp [mulB]) ?_
      repeat infer_instance
      generalize hx : (sd * 48271 + (sa + 1) * 69621) % 2147483647 = x
      have hx1 := mod_bd (x := sd * 48271 + (sa + 1) * 69621) (m := 2147483647) (by decide)
      rw [hx] at hx1
      refine w_mul (by have : -(2 ^ 64) < x ∧ x < 2 ^ 64 := ⟨by omega, by omega⟩; simp only [mulB, this.1, this.2, decide_true, Bool.and_self, Bool.or_self]) ?_
      repeat infer_instance
      refine w_get g1 rfl ?_
      repeat infer_instance
      refine w_mul (by simp [mulB]) ?_
      repeat infer_instance
      refine w_mod h0 ?_
      repeat infer_instance
      exact hq _ _ (mod_bd h0).1 (mod_bd h0).2 ⟨a, l, sd, sa + 1, xs, g1, k1.get e2 e3, e3, e4, e5, e6⟩ k1 l1
  refine W_cFn ?_
  unfold takeB takeL
  refine k_in ?_
  refine k_if ?_
  refine w_tand ?_
  refine w_tcmp ?_
  repeat infer_instance
  refine w_get e1 rfl ?_
  repeat infer_instance
  refine ifd (fun hl => ?_) fun hl => ?_
  · repeat infer_instance
    refine w_get e1 rfl ?_
    repeat infer_instance
    refine w_get e1 rfl ?_
    repeat infer_instance
    refine w_lenL (lst_of e2) ?_
    repeat infer_instance
    refine ifd (fun hl => ?_) fun hl => ?_
    · have ha : a < xs.length := by
        rw [List.length_map] at hl
        omega
      repeat infer_instance
      refine w_get e1 rfl ?_
      repeat infer_instance
      refine w_get e1 rfl ?_
      repeat infer_instance
      refine w_at (lst_of e2) (atI_nat (v := .int xs[a]) (by rw [List.getElem?_map, List.getElem?_eq_getElem ha]; rfl)) ?_
      repeat infer_instance
      refine w_putA e1 (by show 5 ≤ 1000; decide) (by rfl) fun s1 g1 k1 l1 => ?_
      have g1 : s1[t]? = some (.dct (tpD c a xs[a] sd sa)) := g1
      repeat infer_instance
      refine w_get g1 rfl ?_
      repeat infer_instance
      refine w_putA g1 (by show 5 ≤ 1000; decide) (by rfl) fun s2 g2 k2 l2 => ?_
      have g2 : s2[t]? = some (.dct (tpD c (a + 1 : Nat) xs[a] sd sa)) := g2
      refine k_pop ?_
      exact main s2 (a + 1) xs[a] _ g2 (k2.get (k1.get e2 e3) e3) (by omega) (e6 _ (List.getElem_mem _)) rfl fun r s' q1 q2 q3 q4 q5 => hq r s' q1 q2 q3 (k1.trans (k2.trans q4)) (by omega)
    · refine k_pop ?_
      exact main s a l _ e1 e2 e4 e5 rfl hq
  · refine if_ff ?_
    refine k_pop ?_
    exact main s a l _ e1 e2 e4 e5 rfl hq
def absI (i : Int) : Int := if i < 0 then -i else i
theorem tape_ok {a : Nat} {ns : List Int} (h : lstOf s a = some (ns.map PV.int)) (hl : ns.length ≤ 63)
    (hq : ∀ (t c : Nat) (s' : Store), Tp s' t c → (∀ n, n < s.length → s'[n]? = s[n]?) → t < s'.length → s.length ≤ t → Q (.ref t) s') : W (cFn 4 tapeB [.ref a]) s Q E := by
  have ha : a < s.length := by
    unfold lstOf at h
    split at h
    · rename_i q; exact (List.getElem?_eq_some_iff.mp q).1
    · rename_i q; exact (List.getElem?_eq_some_iff.mp q).1
    · cases h
  have keepL : ∀ {s' : Store}, (∀ n, n < s.length → s'[n]? = s[n]?) → lstOf s' a = some (ns.map PV.int) := fun {s'} k => by
    unfold lstOf at h ⊢
    rw [k a ha]
    exact h
  refine W_cFn ?_
  unfold tapeB
  refine k_in ?_
  refine k_asg ?_
  refine w_lc ?_
  refine w_walk ?_
  refine W_ok rfl ?_
  refine w_walkL h ?_
  refine w_lcC (fun i acc s' => acc = (ns.take i).map (fun x => PV.int (absI x)) ∧ (∀ n, n < s.length → s'[n]? = s[n]?) ∧ s'.length = s.length + 1) (ns.map PV.int) ?_ (by rw [List.length_map]; omega) ?_ ?_ _ 0 [] _ ?_ ?_ (by simp) (by simp) ?_
  · intro i acc s' ⟨_, k, _⟩
    show (lstOf s' a).map (·[i]?) = _
    rw [keepL k]
    rfl
  · intro i v acc s' hv ⟨e1, k, e2⟩ hD
    obtain ⟨x, hx, rfl⟩ : ∃ x, ns[i]? = some x ∧ v = .int x := by
      rw [List.getElem?_map] at hv
      cases q : ns[i]? with
      | none => rw [q] at hv; cases hv
      | some x => rw [q] at hv; cases hv; exact ⟨x, rfl, rfl⟩
    refine ⟨_, rfl, ?_⟩
    refine W_ok (a := true) (s' := s') rfl ?_
    refine ift rfl ?_
    refine W_ok (a := .int (absI x)) (s' := s') rfl ?_
    refine ⟨hD, ?_, fun n hn => ?_, by simpa using e2⟩
    · rw [e1, List.take_add_one, hx]
      simp
    · rw [List.getElem?_set, if_neg (by omega)]
      exact k n hn
  · intro acc s1 ⟨e1, k, e2⟩ hD
    rw [List.length_map, List.take_length] at e1
    repeat infer_instance
    refine w_walkL (lst_of hD) ?_
    have hacc : acc.length = ns.length := by rw [e1, List.length_map]
    refine SW_forP (fun i ρ s' => ∃ (sd : Int) (c : Option PV), s' = s1 ∧ ρ = [some (.ref a), some (.ref s.length), some (.int sd), c]) acc ?_ ?_ ?_ _ 0 _ _ ⟨7, none, rfl, rfl⟩ (Nat.zero_le _) ?_
    · intro i ρ s' ⟨sd, c, e3, e4⟩
      show (lstOf s' s.length).map (·[i]?) = _
      rw [e3, lst_of hD]
      rfl
    · intro i v ρ s' hv ⟨sd, c, e3, e4⟩
      obtain ⟨x, rfl⟩ : ∃ x, v = .int x := by
        rw [e1, List.getElem?_map] at hv
        cases q : ns[i]? with
        | none => rw [q] at hv; cases hv
        | some x => rw [q] at hv; cases hv; exact ⟨_, rfl⟩
      subst e4
      refine ⟨_, rfl, ?_⟩
      unfold tapeB1
      repeat infer_instance
      refine w_mul (by simp [mulB]) ?_
      repeat infer_instance
      exact ⟨_, _, e3, rfl⟩
    · intro ρ s' ⟨sd, c, e3, e4⟩
      subst e3
      subst e4
      refine sq_n ?_
      refine k_ret ?_
      refine w_dct ?_
      repeat infer_instance
      refine ⟨by simp, ?_⟩
      have e5 : (mergeP [] (([Sum.inr "cells", Sum.inr "at", Sum.inr "left", Sum.inr "seed", Sum.inr "salt"] : List Key).zip [PV.ref s.length, .int 0, .int 0, .int sd, .int 0])) = tpD s.length 0 0 sd 0 := rfl
      refine hq s'.length s.length _ ⟨0, 0, sd, 0, ns.map absI, ?_, ?_, by omega, by simp, by decide, ?_⟩ ?_ (by simp) (by omega)
      · rw [List.getElem?_set, if_pos rfl]
        simp only [List.length_append, List.length_cons, List.length_nil]
        rw [if_pos (by omega)]
        exact congrArg (fun l => some (SO.dct l)) e5
      · rw [List.getElem?_set, if_neg (by omega), List.getElem?_append_left (by omega), hD, e1, List.map_map]
        rfl
      · intro x hx
        obtain ⟨y, _, rfl⟩ := List.mem_map.mp hx
        unfold absI
        split <;> omega
      · intro n hn
        rw [List.getElem?_set, if_neg (by omega), List.getElem?_append_left (by omega)]
        exact k n hn
    · have : lenI s1 (.live s.length) = acc.length := by
        show ((lstOf s1 s.length).getD []).length = _
        rw [lst_of hD]
        rfl
      omega
  · exact ⟨by simp, fun n hn => List.getElem?_append_left hn, by simp⟩
  · simp
  · have : lenI s (.live a) = ns.length := by
      show ((lstOf s a).getD []).length = _
      rw [h]
      simp
    rw [List.length_map]
    omega
end
end Z

namespace Z
open PySem L2
section
variable {α : Type} {s : Store} {E : XP} {ρ : Sl} {Q : PV → Store → Prop} {R : Fl → Sl → Store → Prop} {L : Lk} {l : List SM} {r : List (List SM)}
theorem w_fld {n c : Nat} {l : List (Str × PV)} {f : Str} {v : PV} {C : ClI} (hs : s[n]? = some (.ins c l)) (hC : L.T.cls[c]? = some C) (hf : C.fields.contains f = true) (hl : l.lookup f = some v) (h : Q v s) : W (fldP L (.ref n) f) s Q E := by
  refine W_ok (a := v) (s' := s) ?_ h
  show (match s[n]? with
    | some (.ins c l) => match L.T.cls[c]? with
      | some C => if C.fields.contains f then match l.lookup f with
        | some v => RE.ok v s
        | none => .bad
        else .bad
      | none => .bad
    | _ => .bad) = _
  rw [hs]
  dsimp only
  rw [hC]
  dsimp only
  rw [if_pos hf, hl]
theorem w_fldSet {n c : Nat} {l : List (Str × PV)} {f : Str} {v : PV} {C : ClI} (hs : s[n]? = some (.ins c l)) (hC : L.T.cls[c]? = some C) (hf : C.fields.contains f = true) (hl : l.length < 1000) (h : ∀ s1, s1[n]? = some (.ins c (putFP f v l)) → Kp n s s1 → s1.length = s.length → Q .non s1) : W (fldSet L (.ref n) f v) s Q E := by
  have hn : n < s.length := (List.getElem?_eq_some_iff.mp hs).1
  refine W_ok (a := .non) (s' := s.set n (.ins c (putFP f v l))) ?_ (h _ (by simp [List.getElem?_set, hn]) Kp.set (by simp))
  show (match s[n]? with
    | some (.ins c l) => match L.T.cls[c]? with
      | some C => if C.fields.contains f && decide (l.length < 1000) then RE.ok PV.non (s.set n (.ins c (putFP f v l))) else .bad
      | none => .bad
    | _ => .bad) = _
  rw [hs]
  dsimp only
  rw [hC]
  dsimp only
  rw [if_pos (by rw [hf, decide_eq_true hl]; rfl)]
theorem w_methP {n c f : Nat} {l : List (Str × PV)} {m : Str} {C : ClI} {args : M (List PV)} (hs : s[n]? = some (.ins c l)) (hC : L.T.cls[c]? = some C) (hl : l.lookup m = none) (hm : C.meths.lookup m = some f) (h : W args s (fun vs s' => W (L.call f (.ref n :: vs)) s' Q E) E) : W (methP L (.ref n) m args) s Q E := by
  have e : methP L (.ref n) m args s = bnd args (fun vs => L.call f (.ref n :: vs)) s := by
    show (match s[n]? with
    | some (.ins c l) => match L.T.cls[c]?, l.lookup m with
      | some C, none => match C.meths.lookup m with
        | some f => bnd args (fun vs => L.call f (PV.ref n :: vs)) s
        | none => .bad
      | _, _ => .bad
    | some o => match mtOf o m with
      | some t => bnd args (fun vs => mtP t (PV.ref n) vs) s
      | none => .bad
    | none => .bad) = _
    rw [hs]
    dsimp only
    rw [hC, hl]
    dsimp only
    rw [hm]
  have q : W (bnd args (fun vs => L.call f (.ref n :: vs))) s Q E := by rw [W_bnd]; exact h
  unfold W at q ⊢
  rw [e]
  exact q
theorem w_makeP {c f : Nat} {vs : List PV} (hi : (L.T.cls[c]?).bind (·.init) = some f) (h : W (L.ini f (.ref s.length :: vs)) (s ++ [.ins c []]) (fun v s' => v = .non ∧ Q (.ref s.length) s') (fun _ _ _ => False)) : W (makeP L c vs) s Q E := by
  obtain ⟨v, s', e, rfl, q⟩ := W_get h
  refine W_ok (a := .ref s.length) (s' := s') ?_ q
  unfold makeP
  rw [hi]
  dsimp only
  rw [e]
theorem k_aug {o e : CE} {f : Str} {op : Int → Int → Int} (h : W (o ρ) s (fun x s1 => W (fldP L x f) s1 (fun v s2 => W (e ρ) s2 (fun w s3 => clsP s2 x = clsP s3 x ∧ ∃ i j, v = .int i ∧ w = .int j ∧ W (fldSet L x f (.int (op i j))) s3 (fun _ s4 => SW (cB (l :: r)) ρ s4 R E) E) E) E) E) : SW (cB ((cAug L o f op e :: l) :: r)) ρ s R E := by
  rw [SW_cB1]
  unfold SW cAug
  unfold W at h
  unfold bndS
  cases e1 : o ρ s with
  | bad => rw [e1] at h; exact (show False from h).elim
  | exc c fs s1 => rw [e1] at h; exact h
  | ok x s1 =>
    rw [e1] at h
    dsimp only at h ⊢
    cases e2 : fldP L x f s1 with
    | bad => rw [e2] at h; exact (show False from h).elim
    | exc c fs s1 => rw [e2] at h; exact h
    | ok v s2 =>
      rw [e2] at h
      dsimp only at h ⊢
      cases e3 : e ρ s2 with
      | bad => rw [e3] at h; exact (show False from h).elim
      | exc c fs s1 => rw [e3] at h; exact h
      | ok w s3 =>
        rw [e3] at h
        dsimp only at h ⊢
        obtain ⟨hc, i, j, rfl, rfl, h⟩ := h
        rw [if_pos hc]
        dsimp only
        cases e4 : fldSet L x f (.int (op i j)) s3 with
        | bad => rw [e4] at h; exact (show False from h).elim
        | exc c fs s1 => rw [e4] at h; exact h
        | ok u s4 => rw [e4] at h; with_unfolding_all exact h
theorem SW_goneI {i : Nat} {g : Fl} (h : i < ρ.length) (q : R g (ρ.set i none) s) : SW (fun ρ s => goneI i g ρ s) ρ s R E := by
  unfold SW goneI
  dsimp only
  rw [if_pos h]
  exact q
theorem SW_goneN {g : Fl} (q : R g ρ s) : SW (fun ρ s => goneN g ρ s) ρ s R E := by
  unfold SW goneN
  exact q
theorem exc_exp {e : CE} {c : Nat} {fs : List (Str × PV)} {ρ' : Sl} {s' : Store} (h : cBlk [cExp e] ρ s = .exc c fs ρ' s') : ρ' = ρ := by
  unfold cBlk cExp bndS at h
  cases e1 : e ρ s with
  | bad => rw [e1] at h; cases h
  | exc c fs s1 => rw [e1] at h; cases h; rfl
  | ok x s1 => rw [e1] at h; unfold cBlk at h; cases h
theorem exc_ret {e : CE} {c : Nat} {fs : List (Str × PV)} {ρ' : Sl} {s' : Store} (h : cBlk [cRet e] ρ s = .exc c fs ρ' s') : ρ' = ρ := by
  unfold cBlk cRet bndS at h
  cases e1 : e ρ s with
  | bad => rw [e1] at h; cases h
  | exc c fs s1 => rw [e1] at h; cases h; rfl
  | ok x s1 => rw [e1] at h; cases h
theorem dat_eq {x y : PV} {d e : PyData} (hx : dat x = some d) (hy : dat y = some e) (sd : SeqAt.shaped d = true) (se : SeqAt.shaped e = true) (nx : ∀ a, x ≠ .str a) (ni : ∀ a, x ≠ .int a) (nb : ∀ a, x ≠ .bl a) : eqP x y s = .ok (PyData.eqv d e) s := by
  cases x with
  | str a => exact absurd rfl (nx a)
  | int a => exact absurd rfl (ni a)
  | bl a => exact absurd rfl (nb a)
  | ref n => cases hx
  | non =>
    show (match datS s .non, datS s y with
    | some d, some e => if SeqAt.shaped d && SeqAt.shaped e then RE.ok (PyData.eqv d e) s else .bad
    | _, _ => .bad) = _
    have h2 : datS s y = some e := by
      cases y with
      | ref n => cases hy
      | _ => exact hy
    rw [h2]
    have h1 : datS s .non = some d := hx
    rw [h1]
    dsimp only
    rw [sd, se]
    rfl
  | tup l =>
    show (match datS s (.tup l), datS s y with
    | some d, some e => if SeqAt.shaped d && SeqAt.shaped e then RE.ok (PyData.eqv d e) s else .bad
    | _, _ => .bad) = _
    have h2 : datS s y = some e := by
      cases y with
      | ref n => cases hy
      | _ => exact hy
    rw [h2]
    have h1 : datS s (.tup l) = some d := hx
    rw [h1]
    dsimp only
    rw [sd, se]
    rfl
/-- None, or a path -/
inductive Pth : PV → Prop where
  | non : Pth .non
  | tup (l : List Int) : Pth (.tup (l.map .int))
theorem dat_ints : ∀ l : List Int, datL (l.map PV.int) = some (l.map PyData.int)
  | [] => by simp only [List.map_nil, datL]
  | i :: r => by simp only [List.map_cons, datL, dat, dat_ints r]
theorem lay_ints : ∀ l : List Int, PyData.canLayAll0 (l.map PyData.int) = true
  | [] => by simp only [List.map_nil, PyData.canLayAll0]
  | i :: r => by simp only [List.map_cons, PyData.canLayAll0, PyData.canLay0, lay_ints r, Bool.and_self]
theorem dep_ints : ∀ l : List Int, PyData.depthAll (l.map PyData.int) = 0
  | [] => by simp only [List.map_nil, PyData.depthAll]
  | i :: r => by simp only [List.map_cons, PyData.depthAll, PyData.depth, dep_ints r]; rfl
theorem shaped_ints (l : List Int) : SeqAt.shaped (.tuple (l.map PyData.int)) = true := by
  unfold SeqAt.shaped
  simp only [PyData.canLay0, PyData.depth, lay_ints, dep_ints]
  rfl
theorem shapedL_ints (l : List Int) : SeqAt.shaped (.list (l.map PyData.int)) = true := by
  unfold SeqAt.shaped
  simp only [PyData.canLay0, PyData.depth, lay_ints, dep_ints]
  rfl
theorem Pth.eq {x : PV} (h : Pth x) : eqP x x s = .ok true s := by
  cases h with
  | non =>
    rw [dat_eq (d := .none) (e := .none) (by simp only [dat]) (by simp only [dat]) (by decide) (by decide) (by intro a h; cases h) (by intro a h; cases h) (by intro a h; cases h)]
    rfl
  | tup l =>
    have hd : dat (.tup (l.map .int)) = some (.tuple (l.map PyData.int)) := by simp only [dat, dat_ints, Option.map_some]
    rw [dat_eq hd hd (shaped_ints l) (shaped_ints l) (by intro a h; cases h) (by intro a h; cases h) (by intro a h; cases h), SeqAt.eqv_refl _ (SeqAt.canLay_of_shaped (shaped_ints l))]
theorem w_nePth {P : Bool → Store → Prop} {x y : PV} (h : Pth x) (e : x = y) (q : P false s) : W (cmpP .NotEq x y) s P E := by
  subst e
  show W (bnd (eqP x x) fun b => ret (!b)) s P E
  rw [W_bnd]
  exact W_ok h.eq (by rw [W_ret]; exact q)
/-- a list of integers is compared with a list -/
theorem eq_intsL {m n : Nat} {l l' : List Int} (h1 : s[m]? = some (.lst (l.map .int))) (h2 : s[n]? = some (.lst (l'.map .int))) : eqP (.ref m) (.ref n) s = .ok (PyData.eqvAll (l.map PyData.int) (l'.map PyData.int)) s := by
  show (match s[m]?, s[n]? with
    | some (.dct l), some (.dct r) => _
    | _, _ => match datS s (.ref m), datS s (.ref n) with
      | some d, some e => if SeqAt.shaped d && SeqAt.shaped e then RE.ok (PyData.eqv d e) s else .bad
      | _, _ => .bad) = _
  have d1 : datS s (.ref m) = some (.list (l.map PyData.int)) := by unfold datS; dsimp only; rw [h1]; simp only [dat_ints, Option.map_some]
  have d2 : datS s (.ref n) = some (.list (l'.map PyData.int)) := by unfold datS; dsimp only; rw [h2]; simp only [dat_ints, Option.map_some]
  rw [d1, d2, h1, h2]
  dsimp only
  rw [shapedL_ints, shapedL_ints]
  rfl
end
end Z

namespace Z
open PySem L2
/-- nothing that stood has changed -/
def Gr (s s' : Store) : Prop := ∀ (n : Nat) (o : SO), s[n]? = some o → s'[n]? = some o
theorem Gr.refl {s : Store} : Gr s s := fun _ _ h => h
theorem Gr.trans {s s' s'' : Store} (h : Gr s s') (h2 : Gr s' s'') : Gr s s'' := fun n o e => h2 n o (h n o e)
theorem Gr.push {s : Store} {r : List SO} : Gr s (s ++ r) := fun n o e => by rw [List.getElem?_append_left (List.getElem?_eq_some_iff.mp e).1]; exact e
theorem Gr.kp {s s' s'' : Store} {t : Nat} (h : Gr s s') (k : Kp t s' s'') (ht : s.length ≤ t) : Gr s s'' := fun n o e => by
  have := (List.getElem?_eq_some_iff.mp e).1
  exact k.get (h n o e) (by omega)
theorem Kp.gr {s s' s'' : Store} {t : Nat} (k : Kp t s s') (g : Gr s' s'') (hl : s'.length ≤ s''.length) : Kp t s s'' := ⟨Nat.le_trans k.le hl, fun n hn ht => by
  have h1 := k.at_ n hn ht
  rw [List.getElem?_eq_getElem hn] at h1 ⊢
  exact g n _ h1⟩
theorem Gr.toKp {s s' : Store} {t : Nat} (g : Gr s s') (hl : s.length ≤ s'.length) : Kp t s s' := Kp.refl.gr g hl
theorem Kp.toGr {s s' : Store} {t : Nat} (k : Kp t s s') (ht : s.length ≤ t) : Gr s s' := Gr.refl.kp k ht
inductive F2 {α β : Type} (Y : α → β → Prop) : List α → List β → Prop where
  | nil : F2 Y [] []
  | cons {a : α} {b : β} {l : List α} {r : List β} (h : Y a b) (t : F2 Y l r) : F2 Y (a :: l) (b :: r)
theorem F2.app {α β : Type} {Y : α → β → Prop} {l l' : List α} {r r' : List β} (h : F2 Y l r) (h' : F2 Y l' r') : F2 Y (l ++ l') (r ++ r') := by
  induction h with
  | nil => exact h'
  | cons a _ ih => exact .cons a ih
theorem F2.map {α β : Type} {f : α → β} {l : List α} {r : List β} (h : F2 (fun a b => b = f a) l r) : r = l.map f := by
  induction h with
  | nil => rfl
  | cons a _ ih => rw [a, ih]; rfl
section
variable {s : Store} {E : XP} {ρ : Sl} {Q : PV → Store → Prop}
/-- a comprehension's turns: J stays, each item gives what Y says; but for the object t nothing changes -/
theorem w_lcR {elt : CE} {j t : Nat} {src : Sc} {D : Nat} {k : Nat} {items : List PV} (J : Store → Prop) (Y : PV → PV → Prop) (hD : s[D]? = some (.lst [])) (ht : D ≠ t) (h0 : J s)
    (hsrc : ∀ s1, J s1 → ∀ i, getI s1 src i = some items[i]?) (hJ : ∀ s1 s2, J s1 → Kp D s1 s2 → J s2) (hl : items.length ≤ 100000) (hk : items.length < k)
    (step : ∀ v ∈ items, ∀ (s1 : Store) (Q' : PV → Store → Prop), J s1 → (∀ y s2, Y v y → J s2 → Kp t s1 s2 → Q' y s2) → W (elt (ρ.set j (some v))) s1 Q' (fun _ _ _ => False))
    (hq : ∀ ys s', F2 Y items ys → s'[D]? = some (.lst ys) → J s' → (∀ n, n < s.length → n ≠ t → n ≠ D → s'[n]? = s[n]?) → s.length ≤ s'.length → Q (.ref D) s') : W (lcX elt (Tgt.run (.nm j)) tYes src D ρ k 0) s Q E := by
  refine w_lcC (fun i acc s' => J s' ∧ F2 Y (items.take i) acc ∧ (∀ n, n < s.length → n ≠ t → n ≠ D → s'[n]? = s[n]?) ∧ s.length ≤ s'.length) items (fun i acc s1 h => hsrc s1 h.1 i) hl ?_ (fun acc s1 h hD1 => hq acc s1 (by rw [List.take_length] at h; exact h.2.1) hD1 h.1 h.2.2.1 h.2.2.2) k 0 [] s ⟨h0, .nil, fun _ _ _ _ => rfl, Nat.le_refl _⟩ hD (Nat.le_refl _) (Nat.zero_le _) (by omega)
  intro i v acc s1 hv ⟨j1, f1, k1, l1⟩ hD1
  have hm : v ∈ items := List.mem_of_getElem? hv
  refine ⟨ρ.set j (some v), by simp only [Tgt.run], ?_⟩
  rw [W_tYes, if_pos rfl]
  refine step v hm s1 _ j1 fun y s2 hy j2 k2 => ?_
  have hD2 : s2[D]? = some (.lst acc) := k2.get hD1 ht
  refine ⟨hD2, hJ s2 _ j2 Kp.set, ?_, fun n hn h1 h2 => ?_, by have := k2.le; simp; omega⟩
  · rw [List.take_add_one, hv]
    exact f1.app (.cons hy .nil)
  · rw [List.getElem?_set, if_neg (Ne.symm h2), k2.at_ n (by omega) h1, k1 n hn h1 h2]
theorem w_addL {m n : Nat} {l r : List PV} (h1 : s[m]? = some (.lst l)) (h2 : s[n]? = some (.lst r)) (h : l.length + r.length ≤ 100000) (q : Q (.ref s.length) (s ++ [.lst (l ++ r)])) : W (binP .Add (.ref m) (.ref n)) s Q E := by
  refine W_ok (a := .ref s.length) (s' := s ++ [.lst (l ++ r)]) ?_ q
  show (match s[m]?, s[n]? with
    | some (.lst l), some (.lst r) => if l.length + r.length ≤ sizeLine then RE.ok (PV.ref s.length) (s ++ [SO.lst (l ++ r)]) else .bad
    | _, _ => .bad) = _
  rw [h1, h2]
  dsimp only
  rw [if_pos (Nat.le_trans h (by decide))]
theorem w_lc0 {elt : CE} {j : Nat} {D k i : Nat} {l : List PV} (hv : l[i]? = none) (h : Q (.ref D) s) : W (lcX elt (Tgt.run (.nm j)) tYes (.items l) D ρ (k + 1) i) s Q E := by
  refine W_ok (a := .ref D) (s' := s) ?_ h
  rw [lcX_eq]
  unfold lcC
  rw [show getI s (.items l) i = some none from congrArg some hv]
theorem w_lc1 {elt : CE} {j : Nat} {D k i : Nat} {l acc : List PV} {v : PV} (hv : l[i]? = some v) (hD : s[D]? = some (.lst acc)) (ha : acc.length < 1000)
    (h : W (elt (ρ.set j (some v))) s (fun y s2 => s2[D]? = some (.lst acc) ∧ ∀ s3, s3[D]? = some (.lst (acc ++ [y])) → Kp D s2 s3 → s3.length = s2.length → W (lcX elt (Tgt.run (.nm j)) tYes (.items l) D ρ k (i + 1)) s3 Q E) (fun _ _ _ => False)) : W (lcX elt (Tgt.run (.nm j)) tYes (.items l) D ρ (k + 1) i) s Q E := by
  obtain ⟨y, s2, e, hD2, h⟩ := W_get h
  have hl : D < s2.length := (List.getElem?_eq_some_iff.mp hD2).1
  have h3 := h (s2.set D (.lst (acc ++ [y]))) (by simp [List.getElem?_set, hl]) Kp.set (by simp)
  have e2 : lcX elt (Tgt.run (.nm j)) tYes (.items l) D ρ (k + 1) i s = lcX elt (Tgt.run (.nm j)) tYes (.items l) D ρ k (i + 1) (s2.set D (.lst (acc ++ [y]))) := by
    rw [lcX_eq, lcX_eq]
    conv => lhs; unfold lcC
    rw [show getI s (.items l) i = some (some v) from congrArg some hv]
    simp only [Tgt.run, tYes, ret]
    rw [e]
    dsimp only
    rw [hD2]
    dsimp only
    rw [if_pos (Nat.lt_trans ha (by decide))]
  unfold W at h3 ⊢
  rw [e2]
  exact h3
theorem w_and {a b : CE} (h : W (a ρ) s (fun x s' => ∃ t, x = .bl t ∧ if t = true then W (b ρ) s' Q E else Q (.bl false) s') E) : W (eAnd a b ρ) s Q E := by
  rw [W_eAnd]
  refine W_mono h (fun x s' ⟨t, e, q⟩ => ?_) fun _ _ _ x => x
  subst e
  cases t with
  | true => rw [if_pos rfl] at q; exact q
  | false => rw [if_neg (by decide)] at q; exact W_ok rfl q
theorem w_or {a b : CE} (h : W (a ρ) s (fun x s' => ∃ t, x = .bl t ∧ if t = true then Q (.bl true) s' else W (b ρ) s' Q E) E) : W (eOr a b ρ) s Q E := by
  rw [W_eOr]
  refine W_mono h (fun x s' ⟨t, e, q⟩ => ?_) fun _ _ _ x => x
  subst e
  cases t with
  | false => rw [if_neg (by decide)] at q; exact q
  | true => rw [if_pos rfl] at q; exact W_ok rfl q
/-- one turn of a comprehension over written items; what raises goes on -/
theorem w_lcI {elt : CE} {tg : Tgt} {src : Sc} {D k i : Nat} {acc : List PV} {v : PV} {ρ1 : Sl} (hv : getI s src i = some (some v)) (ha : tg.run v ρ = some ρ1)
    (h : W (elt ρ1) s (fun y s2 => s2[D]? = some (.lst acc) ∧ acc.length < 1000 ∧ W (lcX elt (Tgt.run tg) tYes src D ρ k (i + 1)) (s2.set D (.lst (acc ++ [y]))) Q E) E) : W (lcX elt (Tgt.run tg) tYes src D ρ (k + 1) i) s Q E := by
  rw [lcX_eq]
  unfold W at h ⊢
  unfold lcC
  rw [hv]
  dsimp only
  rw [ha]
  dsimp only
  rw [show tYes ρ1 s = .ok true s from rfl]
  dsimp only
  cases e : elt ρ1 s with
  | bad => rw [e] at h; exact h
  | exc c fs s' => rw [e] at h; exact h
  | ok y s2 =>
    rw [e] at h
    obtain ⟨hD, hl, h⟩ := h
    dsimp only
    rw [hD]
    dsimp only
    rw [if_pos (Nat.lt_trans hl (by decide))]
    rw [lcX_eq] at h
    exact h
theorem w_lcE {elt : CE} {tg : Tgt} {src : Sc} {D k i : Nat} (hv : getI s src i = some none) (h : Q (.ref D) s) : W (lcX elt (Tgt.run tg) tYes src D ρ (k + 1) i) s Q E := by
  refine W_ok (a := .ref D) (s' := s) ?_ h
  rw [lcX_eq]
  unfold lcC
  rw [hv]
theorem w_app {L : Lk} {n : Nat} {l : List PV} {args : M (List PV)} (hs : s[n]? = some (.lst l)) (h : W args s (fun vs s' => ∃ v l', vs = [v] ∧ s'[n]? = some (.lst l') ∧ l'.length ≤ 100000 ∧ Q .non (s'.set n (.lst (l' ++ [v])))) E) : W (methP L (.ref n) "append" args) s Q E := by
  have e : methP L (.ref n) "append" args s = bnd args (fun vs => mtP .append (.ref n) vs) s := by
    unfold methP
    dsimp only
    rw [hs]
    rfl
  have q : W (bnd args (fun vs => mtP .append (.ref n) vs)) s Q E := by
    rw [W_bnd]
    refine W_mono h (fun vs s' ⟨v, l', e1, e2, e3, q⟩ => ?_) fun _ _ _ x => x
    subst e1
    refine W_ok ?_ q
    show appendP (.ref n) [v] s' = _
    unfold appendP
    dsimp only
    rw [e2]
    dsimp only
    rw [if_pos (Nat.lt_of_le_of_lt e3 (by decide))]
  unfold W at q ⊢
  rw [e]
  exact q
theorem w_rep {m : Nat} {l : List PV} {k : Int} (h1 : s[m]? = some (.lst l)) (hk : 0 ≤ k) (hk2 : k ≤ 1000) (h : l.length ≤ 1000) (q : Q (.ref s.length) (s ++ [.lst (List.replicate k.toNat l).flatten])) : W (binP .Mult (.ref m) (.int k)) s Q E := by
  refine W_ok (a := .ref s.length) (s' := s ++ [.lst (List.replicate k.toNat l).flatten]) ?_ q
  show (match s[m]? with
    | some (.lst l) => if decide (-(2 ^ 63) ≤ k) && (decide (k < 2 ^ 63) && decide (l.length * k.toNat ≤ sizeLine)) then RE.ok (PV.ref s.length) (s ++ [SO.lst (List.replicate k.toNat l).flatten]) else .bad
    | _ => .bad) = _
  rw [h1]
  dsimp only
  have h3 : l.length * k.toNat ≤ sizeLine := Nat.le_trans (Nat.mul_le_mul h (show k.toNat ≤ 1000 by omega)) (by decide)
  rw [if_pos (by simp only [Bool.and_eq_true, decide_eq_true_eq]; exact ⟨by omega, by omega, h3⟩)]
/-- x in (a, b, ..): data -/
theorem w_inT {P : Bool → Store → Prop} {x : PV} {l : List PV} {d : PyData} {ds : List PyData} (hf : (flatP x && l.all flatP) = false) (hx : dat x = some d) (hl : datL l = some ds) (sd : SeqAt.shaped d = true) (se : SeqAt.shaped (.tuple ds) = true) (h : P (ds.any fun z => PyData.eqv z d) s) : W (inP x (.tup l)) s P E := by
  refine W_ok ?_ h
  show (if flatP x && l.all flatP then ret (inV (pv x) (l.map pv)) else match dat x, datL l with
    | some d, some ds => if SeqAt.shaped d && SeqAt.shaped (.tuple ds) then ret (ds.any fun z => PyData.eqv z d) else stop
    | _, _ => stop) s = _
  rw [hf, if_neg (by decide), hx, hl]
  dsimp only
  rw [sd, se]
  rfl
end
end Z

namespace Z
open PySem L2
theorem dget_nil {k : Key} : dget [] k = none := rfl
theorem dget_cons {p : Key × PV} {l : List (Key × PV)} {k : Key} : dget (p :: l) k = if p.1 = k then some p.2 else dget l k := by
  unfold dget
  rw [List.find?_cons]
  by_cases h : p.1 = k
  · rw [if_pos h, decide_eq_true h] <;> rfl
  · rw [if_neg h, decide_eq_false h]
theorem dget_app {l r : List (Key × PV)} {k : Key} : dget (l ++ r) k = (dget l k).or (dget r k) := by
  induction l with
  | nil => rfl
  | cons p l ih =>
    rw [List.cons_append, dget_cons, dget_cons, ih]
    split <;> rfl
theorem dget_any {l : List (Key × PV)} {k : Key} : (l.any fun p => decide (p.1 = k)) = (dget l k).isSome := by
  induction l with
  | nil => rfl
  | cons p l ih =>
    rw [List.any_cons, dget_cons, ih]
    by_cases h : p.1 = k
    · rw [if_pos h, decide_eq_true h]; rfl
    · rw [if_neg h, decide_eq_false h]; rfl
theorem dget_put {l : List (Key × PV)} {k k' : Key} {v : PV} : dget (dput l k v) k' = if k' = k then some v else dget l k' := by
  unfold dput
  rw [dget_any]
  cases e : dget l k with
  | some w =>
    rw [if_pos (by rfl)]
    have hm : ∀ m : List (Key × PV), dget (m.map fun p => if p.1 = k then (p.1, v) else p) k' = if k' = k then (dget m k).map (fun _ => v) else dget m k' := by
      intro m
      induction m with
      | nil => simp [dget_nil]
      | cons p m ih =>
        rw [List.map_cons, dget_cons, dget_cons, dget_cons, ih]
        by_cases h : p.1 = k
        · rw [if_pos h, if_pos h]
          dsimp only
          by_cases h2 : k' = k
          · rw [if_pos (h.trans h2.symm), if_pos h2] <;> rfl
          · rw [if_neg (fun q => h2 (q.symm.trans h)), if_neg h2, if_neg h2, if_neg (fun q => h2 (q.symm.trans h))]
        · rw [if_neg h, if_neg h]
          by_cases h2 : k' = k
          · rw [if_neg (fun q => h (q.trans h2)), if_pos h2, if_pos h2]
          · rw [if_neg h2, if_neg h2]
    rw [hm]
    by_cases h2 : k' = k
    · rw [if_pos h2, if_pos h2, e] <;> rfl
    · rw [if_neg h2, if_neg h2]
  | none =>
    rw [if_neg (by simp), dget_app, dget_cons, dget_nil]
    by_cases h2 : k' = k
    · subst h2
      rw [e]
      simp
    · rw [if_neg h2, if_neg (Ne.symm h2)]
      cases dget l k' <;> rfl
theorem dput_len {l : List (Key × PV)} {k : Key} {v : PV} : (dput l k v).length ≤ l.length + 1 := by
  unfold dput
  split
  · simp
  · simp
theorem w_putD {s : Store} {E : XP} {Q : PV → Store → Prop} {n : Nat} {l : List (Key × PV)} {k : Str} {v : PV} (hs : s[n]? = some (.dct l)) (hl : l.length ≤ 1000) (h : Q .non (s.set n (.dct (dput l (.inr k) v)))) : W (ixSet (.ref n) (.str k) v) s Q E := w_put hs hl h
theorem Gr.len {s s' : Store} (g : Gr s s') : s.length ≤ s'.length := by
  cases h : s.length with
  | zero => exact Nat.zero_le _
  | succ n =>
    have hn : n < s.length := by omega
    have := g n s[n] (by simp [hn])
    have := (List.getElem?_eq_some_iff.mp this).1
    omega
theorem Gr.put {s s' : Store} {n : Nat} {o : SO} (g : Gr s s') (hn : s.length ≤ n) : Gr s (s'.set n o) := fun m u e => by
  have hm := (List.getElem?_eq_some_iff.mp e).1
  rw [List.getElem?_set_ne (by omega)]
  exact g m u e
theorem Gr.app {s s' : Store} {r : List SO} (g : Gr s s') : Gr s (s' ++ r) := g.trans Gr.push
theorem Gr.dct {s s' : Store} {n : Nat} {l : List (Key × PV)} (g : Gr s s') (h : dctOf s n = some l) : dctOf s' n = some l := by
  unfold dctOf at h ⊢
  cases e : s[n]? with
  | none => rw [e] at h; cases h
  | some o => rw [e] at h; rw [g n o e]; exact h
theorem Gr.lst {s s' : Store} {n : Nat} {l : List PV} (g : Gr s s') (h : lstOf s n = some l) : lstOf s' n = some l := by
  unfold lstOf at h ⊢
  cases e : s[n]? with
  | none => rw [e] at h; cases h
  | some o => rw [e] at h; rw [g n o e]; exact h
theorem push_get {s : Store} {o : SO} : (s ++ [o])[s.length]? = some o := by simp
theorem put_get {s : Store} {n : Nat} {o : SO} (h : n < s.length) : (s.set n o)[n]? = some o := by simp [h]
end Z

namespace Z
open PySem L2
section
variable {s : Store} {E : XP} {ρ : Sl} {R : Fl → Sl → Store → Prop} {l : List SM} {r : List (List SM)}
theorem k_tryK {T : Tab} {b : SM} {c' : Nat} {fl0 : List Str} {sui : List Str → List (Str × PV) → Option Fl} {gone : Fl → Sl → Store → RS} (hc : excF T c' = some fl0)
    (h : SW b ρ s (sq (l :: r) R E) (fun c fs s' => ∃ fl, excF T c = some fl ∧ if T.sub c c' = true then ∃ g, sui fl fs = some g ∧ SW (fun ρ s => gone g ρ s) ρ s' (sq (l :: r) R E) E else E c fs s'))
    (hl : ∀ c fs ρ' s', b ρ s = .exc c fs ρ' s' → ρ' = ρ) : SW (cB ((cTry T b c' sui gone :: l) :: r)) ρ s R E := by
  rw [SW_cB1]
  unfold SW cTry
  unfold SW sq at h
  cases e : b ρ s with
  | ok f ρ' s' => rw [e] at h; with_unfolding_all exact h
  | bad => rw [e] at h; exact h
  | exc c fs ρ' s' =>
    rw [e] at h
    obtain ⟨fl, e1, h⟩ := h
    dsimp only
    rw [e1, hc]
    dsimp only
    by_cases hs : T.sub c c' = true
    · rw [if_pos hs] at h ⊢
      obtain ⟨g, hg, h⟩ := h
      rw [hl _ _ _ _ e, hg]
      with_unfolding_all exact h
    · rw [if_neg hs] at h ⊢
      exact h
theorem exc_unp {e : CE} {t : PV → Sl → Option Sl} {c : Nat} {fs : List (Str × PV)} {ρ' : Sl} {s' : Store} (h : cBlk [cUnp e t] ρ s = .exc c fs ρ' s') : ρ' = ρ := by
  unfold cBlk cUnp bndS at h
  cases e1 : e ρ s with
  | bad => rw [e1] at h; cases h
  | exc c fs s1 => rw [e1] at h; cases h; rfl
  | ok x s1 =>
    rw [e1] at h
    dsimp only at h
    cases e2 : unlP x s1 with
    | bad => rw [e2] at h; cases h
    | exc c fs s2 => rw [e2] at h; cases h; rfl
    | ok y s2 =>
      rw [e2] at h
      dsimp only at h
      cases e3 : t y ρ with
      | none => rw [e3] at h; cases h
      | some ρ2 => rw [e3] at h; unfold cBlk at h; cases h
theorem exc_asg' {i : Nat} {e : CE} {c : Nat} {fs : List (Str × PV)} {ρ' : Sl} {s' : Store} (h : cBlk [cAsg i e] ρ s = .exc c fs ρ' s') : ρ' = ρ := by
  unfold cBlk cAsg bndS at h
  cases e1 : e ρ s with
  | bad => rw [e1] at h; cases h
  | exc c fs s1 => rw [e1] at h; cases h; rfl
  | ok x s1 => rw [e1] at h; unfold cBlk at h; cases h
theorem w_ninT {P : Bool → Store → Prop} {x : PV} {l : List PV} {d : PyData} {ds : List PyData} (hf : (flatP x && l.all flatP) = false) (hx : dat x = some d) (hl : datL l = some ds) (sd : SeqAt.shaped d = true) (se : SeqAt.shaped (.tuple ds) = true) (h : P (!(ds.any fun z => PyData.eqv z d)) s) : W (cmpP .NotIn x (.tup l)) s P E := by
  show W (bnd (inP x (.tup l)) fun b => ret (!b)) s P E
  rw [W_bnd]
  exact w_inT hf hx hl sd se (by rw [W_ret]; exact h)
theorem w_ninL {P : Bool → Store → Prop} {x : PV} {n : Nat} {l : List PV} {d : PyData} {ds : List PyData} (hs : s[n]? = some (.lst l)) (hx : dat x = some d) (hl : datL l = some ds) (sd : SeqAt.shaped d = true) (se : SeqAt.shaped (.list ds) = true) (h : P (!(ds.any fun z => PyData.eqv z d)) s) : W (cmpP .NotIn x (.ref n)) s P E := by
  show W (bnd (inP x (.ref n)) fun b => ret (!b)) s P E
  rw [W_bnd]
  refine W_ok (a := ds.any fun z => PyData.eqv z d) (s' := s) ?_ (by rw [W_ret]; exact h)
  have hd : dctOf s n = none := by unfold dctOf; rw [hs]
  show (match dctOf s n with
    | some l => (match keyOf x with
      | some k => RE.ok (dget l k).isSome s
      | none => .bad)
    | none => match s[n]? with
      | some (.lst l) => (match dat x, datL l with
        | some d, some ds => if SeqAt.shaped d && SeqAt.shaped (.list ds) then RE.ok (ds.any fun z => PyData.eqv z d) s else .bad
        | _, _ => .bad)
      | _ => .bad) = _
  rw [hd, hs]
  dsimp only
  rw [hx, hl]
  dsimp only
  rw [sd, se]
  rfl
end
end Z

namespace Zk44
open PySem L2 Z
def top (i : Nat) : Stmt := PySem.Challenge.pw_effecthouse_k44_whole_casts_there_and_ba.main.body.getD i (.Pass ⟨0, 0, 0, 0⟩)
def inClass (s : Stmt) (j : Nat) : Stmt := match s with
  | .ClassDef _ _ _ b _ _ _ _ _ _ _ => b.getD j (.Pass ⟨0, 0, 0, 0⟩)
  | _ => .Pass ⟨0, 0, 0, 0⟩
/-- reckon -/
def st0 : Stmt := top 6
def fn0 : FnI := ⟨["sign", "left", "right", "results"], ["sign", "left", "right"], defBody st0, defScope st0⟩
/-- fits -/
def st1 : Stmt := top 11
def fn1 : FnI := ⟨["first", "second"], ["first", "second"], defBody st1, defScope st1⟩
/-- less_known -/
def st2 : Stmt := top 12
def fn2 : FnI := ⟨["first", "second"], ["first", "second"], defBody st2, defScope st2⟩
/-- common -/
def st3 : Stmt := top 13
def fn3 : FnI := ⟨["first", "second"], ["first", "second"], defBody st3, defScope st3⟩
/-- Caster.cast -/
def st4 : Stmt := inClass (top 14) 0
def fn4 : FnI := ⟨["self", "term", "first", "second", "path"], ["self", "term", "first", "second", "path"], defBody st4, defScope st4⟩
/-- Caster.find -/
def st5 : Stmt := inClass (top 14) 1
def fn5 : FnI := ⟨["self", "term", "names", "path", "word", "more", "kind", "body", "value", "result", "part"], ["self", "term", "names", "path"], defBody st5, defScope st5⟩
/-- Caster.whole -/
def st6 : Stmt := inClass (top 14) 2
def fn6 : FnI := ⟨["self", "term", "names", "path", "word", "parts", "found", "kind", "function", "own", "value", "whole", "sides", "test", "index", "part"], ["self", "term", "names", "path"], defBody st6, defScope st6⟩
/-- with_casts -/
def st7 : Stmt := top 15
def fn7 : FnI := ⟨["term"], ["term"], defBody st7, defScope st7⟩
/-- CastRun.__init__ -/
def st8 : Stmt := inClass (top 16) 0
def fn8 : FnI := ⟨["self", "fuel"], ["self", "fuel"], defBody st8, defScope st8⟩
/-- CastRun.run -/
def st9 : Stmt := inClass (top 16) 1
def fn9 : FnI := ⟨["self", "term", "names", "word", "first", "more", "second"], ["self", "term", "names"], defBody st9, defScope st9⟩
/-- CastRun.called -/
def st10 : Stmt := inClass (top 16) 2
def fn10 : FnI := ⟨["self", "function", "value", "more", "_", "inner", "first", "second", "label", "argument", "result"], ["self", "function", "value"], defBody st10, defScope st10⟩
/-- CastRun.changed -/
def st11 : Stmt := inClass (top 16) 3
def fn11 : FnI := ⟨["self", "value", "first", "second", "label", "general", "_", "inner", "own"], ["self", "value", "first", "second", "label"], defBody st11, defScope st11⟩
/-- shown_cast -/
def st12 : Stmt := top 17
def fn12 : FnI := ⟨["value"], ["value"], defBody st12, defScope st12⟩
/-- run_casts -/
def st13 : Stmt := top 18
def fn13 : FnI := ⟨["term", "fuel", "found"], ["term", "fuel"], defBody st13, defScope st13⟩
/-- _law_tape -/
def st14 : Stmt := top 20
def fn14 : FnI := ⟨["script", "cells", "seed", "cell"], ["script"], defBody st14, defScope st14⟩
/-- _law_take -/
def st15 : Stmt := top 21
def fn15 : FnI := ⟨["tape", "many", "drawn", "mixed"], ["tape", "many"], defBody st15, defScope st15⟩
/-- _law_kind -/
def st16 : Stmt := top 25
def fn16 : FnI := ⟨["tape", "depth"], ["tape", "depth"], defBody st16, defScope st16⟩
/-- _law_program -/
def st17 : Stmt := top 26
def fn17 : FnI := ⟨["tape", "names", "depth", "ones", "pick", "one", "two", "name"], ["tape", "names", "depth"], defBody st17, defScope st17⟩
/-- _law_static -/
def st18 : Stmt := top 27
def fn18 : FnI := ⟨["tape", "kind", "names", "depth", "ones", "more", "name", "pick", "other"], ["tape", "kind", "names", "depth"], defBody st18, defScope st18⟩
/-- _law_forgotten -/
def st19 : Stmt := top 28
def fn19 : FnI := ⟨["tape", "kind"], ["tape", "kind"], defBody st19, defScope st19⟩
/-- _law_used -/
def st20 : Stmt := top 29
def fn20 : FnI := ⟨["t", "kind"], ["t", "kind"], defBody st20, defScope st20⟩
/-- _law_labels -/
def st21 : Stmt := top 30
def fn21 : FnI := ⟨["t", "found", "part"], ["t"], defBody st21, defScope st21⟩
/-- law -/
def st22 : Stmt := top 31
def fn22 : FnI := ⟨["script", "tape", "turn", "kind", "t", "less", "lesser", "due", "rows", "one", "found", "p", "own", "made", "end", "twice"], ["script"], defBody st22, defScope st22⟩
def clsT : List ClI := [⟨"HouseError", none, [], [], some none⟩, ⟨"TypeProblem", none, [], [], some (some ["code", "path"])⟩, ⟨"Tired", none, [], [], some none⟩, ⟨"Caster", none, [("cast", 4), ("find", 5), ("whole", 6)], [], none⟩, ⟨"CastRun", some 8, [("run", 9), ("called", 10), ("changed", 11)], ["fuel"], none⟩]
def globT : List (Str × GE) := [("HouseError", .cls 0), ("TypeProblem", .cls 1), ("Tired", .cls 2), ("WHOLE", .cst (.int 4294967296)), ("reckon", .fn 0), ("ANY", .cst (.tup [(.str "any")])), ("INT", .cst (.tup [(.str "int")])), ("BOOL", .cst (.tup [(.str "bool")])), ("fits", .fn 1), ("less_known", .fn 2), ("common", .fn 3), ("Caster", .cls 3), ("with_casts", .fn 7), ("CastRun", .cls 4), ("shown_cast", .fn 12), ("run_casts", .fn 13), ("_law_tape", .fn 14), ("_law_take", .fn 15), ("_law_kind", .fn 16), ("_law_program", .fn 17), ("_law_static", .fn 18), ("_law_forgotten", .fn 19), ("_law_used", .fn 20), ("_law_labels", .fn 21), ("law", .fn 22)]
def subT (a b : Nat) : Bool := [(0, 0), (1, 0), (1, 1), (2, 0), (2, 2)].contains (a, b)
def fnsT : List FnI := [fn0, fn1, fn2, fn3, fn4, fn5, fn6, fn7, fn8, fn9, fn10, fn11, fn12, fn13, fn14, fn15, fn16, fn17, fn18, fn19, fn20, fn21, fn22]
def tab : Tab := ⟨fnsT, clsT, globT, subT⟩
abbrev i_reckon : Nat := 0
abbrev i_fits : Nat := 1
abbrev i_less_known : Nat := 2
abbrev i_common : Nat := 3
abbrev i_Caster_cast : Nat := 4
abbrev i_Caster_find : Nat := 5
abbrev i_Caster_whole : Nat := 6
abbrev i_with_casts : Nat := 7
abbrev i_CastRun___init__ : Nat := 8
abbrev i_CastRun_run : Nat := 9
abbrev i_CastRun_called : Nat := 10
abbrev i_CastRun_changed : Nat := 11
abbrev i_shown_cast : Nat := 12
abbrev i_run_casts : Nat := 13
abbrev i__law_tape : Nat := 14
abbrev i__law_take : Nat := 15
abbrev i__law_kind : Nat := 16
abbrev i__law_program : Nat := 17
abbrev i__law_static : Nat := 18
abbrev i__law_forgotten : Nat := 19
abbrev i__law_used : Nat := 20
abbrev i__law_labels : Nat := 21
abbrev i_law : Nat := 22
abbrev c_HouseError : Nat := 0
abbrev c_TypeProblem : Nat := 1
abbrev c_Tired : Nat := 2
abbrev c_Caster : Nat := 3
abbrev c_CastRun : Nat := 4
end Zk44

namespace Zk44
open PySem L2 Z
abbrev lk0 (call mk : Nat → List PV → M PV) : Lk := ⟨tab, call, mk, fn0.N⟩
def b_reckon (call mk : Nat → List PV → M PV) : SM := cBlk [cIf (tCmp .Eq (sl 0) (kst (.str "=="))) (cBlk [cRet (eTup [kst (.str "bool"), eCmp .Eq (sl 1) (sl 2)])]) (cBlk []),
  cIf (tCmp .Eq (sl 0) (kst (.str "<"))) (cBlk [cRet (eTup [kst (.str "bool"), eCmp .Lt (sl 1) (sl 2)])]) (cBlk []),
  cAsg 3 (eDct [.inr "+", .inr "-", .inr "*"] [e2 (binP .Add) (sl 1) (sl 2), e2 (binP .Sub) (sl 1) (sl 2), e2 (binP .Mult) (sl 1) (sl 2)]),
  cRet (eTup [kst (.str "int"), e2 (binP .Mod) (e2 ixP (sl 3) (sl 0)) (kst (.int 4294967296))])]
theorem q_reckon (call mk : Nat → List PV → M PV) : blk (evS (lk0 call mk) fn0.sc 20) fn0.body = b_reckon call mk := by
  with_unfolding_all rfl
theorem w_reckon (d : Nat) {vs : List PV} (h : vs.length = 3) : callN tab (d + 1) 0 vs = cFn 4 (b_reckon (callN tab d) (iniN tab d)) vs := callN_c (F := fn0) (by rfl) (q_reckon _ _) (by rfl) h
abbrev lk1 (call mk : Nat → List PV → M PV) : Lk := ⟨tab, call, mk, fn1.N⟩
def b_fits (call mk : Nat → List PV → M PV) : SM := cBlk [cIf (tOr (tCmp .In (kst (.tup [(.str "any")])) (eTup [sl 0, sl 1])) (tCmp .Eq (sl 0) (sl 1))) (cBlk [cRet (kst (.bl true))]) (cBlk []),
  cIf (tOr (tCmp .NotEq (e2 ixP (sl 0) (kst (.int 0))) (kst (.str "arrow"))) (tCmp .NotEq (e2 ixP (sl 1) (kst (.int 0))) (kst (.str "arrow")))) (cBlk [cRet (kst (.bl false))]) (cBlk []),
  cRet (eAnd (eCall (call 1) [e2 ixP (sl 0) (kst (.int 1)), e2 ixP (sl 1) (kst (.int 1))]) (eCall (call 1) [e2 ixP (sl 0) (kst (.int 2)), e2 ixP (sl 1) (kst (.int 2))]))]
theorem q_fits (call mk : Nat → List PV → M PV) : blk (evS (lk1 call mk) fn1.sc 20) fn1.body = b_fits call mk := by
  with_unfolding_all rfl
theorem w_fits (d : Nat) {vs : List PV} (h : vs.length = 2) : callN tab (d + 1) 1 vs = cFn 2 (b_fits (callN tab d) (iniN tab d)) vs := callN_c (F := fn1) (by rfl) (q_fits _ _) (by rfl) h
abbrev lk2 (call mk : Nat → List PV → M PV) : Lk := ⟨tab, call, mk, fn2.N⟩
def b_less_known (call mk : Nat → List PV → M PV) : SM := cBlk [cIf (tOr (tCmp .Eq (sl 0) (kst (.tup [(.str "any")]))) (tCmp .Eq (sl 0) (sl 1))) (cBlk [cRet (kst (.bl true))]) (cBlk []),
  cIf (tOr (tCmp .NotEq (e2 ixP (sl 0) (kst (.int 0))) (kst (.str "arrow"))) (tCmp .NotEq (e2 ixP (sl 1) (kst (.int 0))) (kst (.str "arrow")))) (cBlk [cRet (kst (.bl false))]) (cBlk []),
  cRet (eAnd (eCall (call 2) [e2 ixP (sl 0) (kst (.int 1)), e2 ixP (sl 1) (kst (.int 1))]) (eCall (call 2) [e2 ixP (sl 0) (kst (.int 2)), e2 ixP (sl 1) (kst (.int 2))]))]
theorem q_less_known (call mk : Nat → List PV → M PV) : blk (evS (lk2 call mk) fn2.sc 20) fn2.body = b_less_known call mk := by
  with_unfolding_all rfl
theorem w_less_known (d : Nat) {vs : List PV} (h : vs.length = 2) : callN tab (d + 1) 2 vs = cFn 2 (b_less_known (callN tab d) (iniN tab d)) vs := callN_c (F := fn2) (by rfl) (q_less_known _ _) (by rfl) h
abbrev lk3 (call mk : Nat → List PV → M PV) : Lk := ⟨tab, call, mk, fn3.N⟩
def b_common (call mk : Nat → List PV → M PV) : SM := cBlk [cIf (tNot (tTru (eCall (call 1) [sl 0, sl 1]))) (cBlk [cRet (kst (.non))]) (cBlk []),
  cIf (tCmp .Eq (sl 0) (kst (.tup [(.str "any")]))) (cBlk [cRet (sl 1)]) (cBlk []),
  cIf (tOr (tCmp .Eq (sl 1) (kst (.tup [(.str "any")]))) (tCmp .NotEq (e2 ixP (sl 0) (kst (.int 0))) (kst (.str "arrow")))) (cBlk [cRet (sl 0)]) (cBlk []),
  cRet (eTup [kst (.str "arrow"), eCall (call 3) [e2 ixP (sl 0) (kst (.int 1)), e2 ixP (sl 1) (kst (.int 1))], eCall (call 3) [e2 ixP (sl 0) (kst (.int 2)), e2 ixP (sl 1) (kst (.int 2))]])]
theorem q_common (call mk : Nat → List PV → M PV) : blk (evS (lk3 call mk) fn3.sc 20) fn3.body = b_common call mk := by
  with_unfolding_all rfl
theorem w_common (d : Nat) {vs : List PV} (h : vs.length = 2) : callN tab (d + 1) 3 vs = cFn 2 (b_common (callN tab d) (iniN tab d)) vs := callN_c (F := fn3) (by rfl) (q_common _ _) (by rfl) h
abbrev lk4 (call mk : Nat → List PV → M PV) : Lk := ⟨tab, call, mk, fn4.N⟩
def b_Caster_cast (call mk : Nat → List PV → M PV) : SM := cBlk [cIf (tNot (tTru (eCall (call 1) [sl 2, sl 3]))) (cBlk [cRai 1 ["code", "path"] [kst (.str "types"), sl 4]]) (cBlk []),
  cRet (eIf (tCmp .Eq (sl 2) (sl 3)) (sl 1) (eTup [kst (.str "cast"), sl 1, sl 2, sl 3, sl 4]))]
theorem q_Caster_cast (call mk : Nat → List PV → M PV) : blk (evS (lk4 call mk) fn4.sc 20) fn4.body = b_Caster_cast call mk := by
  with_unfolding_all rfl
theorem w_Caster_cast (d : Nat) {vs : List PV} (h : vs.length = 5) : callN tab (d + 1) 4 vs = cFn 5 (b_Caster_cast (callN tab d) (iniN tab d)) vs := callN_c (F := fn4) (by rfl) (q_Caster_cast _ _) (by rfl) h
abbrev lk5 (call mk : Nat → List PV → M PV) : Lk := ⟨tab, call, mk, fn5.N⟩
def b_Caster_find (call mk : Nat → List PV → M PV) : SM := cBlk [cAsg 4 (e2 ixP (sl 1) (kst (.int 0))),
  cIf (tCmp .In (sl 4) (eTup [kst (.str "int"), kst (.str "bool")])) (cBlk [cRet (eTup [eTup [sl 4], sl 1])]) (cBlk []),
  cIf (tCmp .Eq (sl 4) (kst (.str "var"))) (cBlk [cIf (tCmp .NotIn (e2 ixP (sl 1) (kst (.int 1))) (sl 2)) (cBlk [cRai 1 ["code", "path"] [kst (.str "name"), sl 3]]) (cBlk []), cRet (eTup [e2 ixP (sl 2) (e2 ixP (sl 1) (kst (.int 1))), sl 1])]) (cBlk []),
  cIf (tCmp .Eq (sl 4) (kst (.str "lam"))) (cBlk [cAsg 5 (eCall (bltP .dict) [sl 2]), cIxSet (sl 5) (e2 ixP (sl 1) (kst (.int 1))) (e2 ixP (sl 1) (kst (.int 2))), cUnp (eMeth (lk5 call mk) (sl 0) "find" [e2 ixP (sl 1) (kst (.int 3)), sl 5, e2 (binP .Add) (sl 3) (eTup [kst (.int 0)])]) (Tgt.run (.tup [.nm 6, .nm 7])), cRet (eTup [eTup [kst (.str "arrow"), e2 ixP (sl 1) (kst (.int 2)), sl 6], eTup [kst (.str "lam"), e2 ixP (sl 1) (kst (.int 1)), e2 ixP (sl 1) (kst (.int 2)), sl 7]])]) (cBlk []),
  cIf (tCmp .Eq (sl 4) (kst (.str "let"))) (cBlk [cUnp (eMeth (lk5 call mk) (sl 0) "find" [e2 ixP (sl 1) (kst (.int 2)), sl 2, e2 (binP .Add) (sl 3) (eTup [kst (.int 0)])]) (Tgt.run (.tup [.nm 6, .nm 8])), cAsg 5 (eCall (bltP .dict) [sl 2]), cIxSet (sl 5) (e2 ixP (sl 1) (kst (.int 1))) (sl 6), cUnp (eMeth (lk5 call mk) (sl 0) "find" [e2 ixP (sl 1) (kst (.int 3)), sl 5, e2 (binP .Add) (sl 3) (eTup [kst (.int 1)])]) (Tgt.run (.tup [.nm 9, .nm 7])), cRet (eTup [sl 9, eTup [kst (.str "let"), e2 ixP (sl 1) (kst (.int 1)), sl 8, sl 7]])]) (cBlk []),
  cIf (tCmp .Eq (sl 4) (kst (.str "as"))) (cBlk [cUnp (eMeth (lk5 call mk) (sl 0) "find" [e2 ixP (sl 1) (kst (.int 1)), sl 2, e2 (binP .Add) (sl 3) (eTup [kst (.int 0)])]) (Tgt.run (.tup [.nm 6, .nm 10])), cRet (eTup [e2 ixP (sl 1) (kst (.int 2)), eMeth (lk5 call mk) (sl 0) "cast" [sl 10, sl 6, e2 ixP (sl 1) (kst (.int 2)), sl 3]])]) (cBlk []),
  cRet (eMeth (lk5 call mk) (sl 0) "whole" [sl 1, sl 2, sl 3])]
theorem q_Caster_find (call mk : Nat → List PV → M PV) : blk (evS (lk5 call mk) fn5.sc 20) fn5.body = b_Caster_find call mk := by
  with_unfolding_all rfl
theorem w_Caster_find (d : Nat) {vs : List PV} (h : vs.length = 4) : callN tab (d + 1) 5 vs = cFn 11 (b_Caster_find (callN tab d) (iniN tab d)) vs := callN_c (F := fn5) (by rfl) (q_Caster_find _ _) (by rfl) h
abbrev lk6 (call mk : Nat → List PV → M PV) : Lk := ⟨tab, call, mk, fn6.N⟩
def b_Caster_whole (call mk : Nat → List PV → M PV) : SM := cBlk [cAsg 4 (e2 ixP (sl 1) (kst (.int 0))),
  cAsg 5 (eIf (tCmp .Eq (sl 4) (kst (.str "op"))) (eSl (sl 1) (ePart (kst (.int 2))) eNo) (eSl (sl 1) (ePart (kst (.int 1))) eNo)),
  cAsg 6 (eLc (eMeth (lk6 call mk) (sl 0) "find" [sl 15, sl 2, e2 (binP .Add) (sl 3) (eTup [sl 14])]) (Tgt.run (.tup [.nm 14, .nm 15])) (tYes) (sOf en1 [sl 5]) [14, 15]),
  cIf (tCmp .Eq (sl 4) (kst (.str "app"))) (cBlk [cUnp (sl 6) (Tgt.run (.tup [.tup [.nm 7, .nm 8], .tup [.nm 9, .nm 10]])), cIf (tCmp .Eq (sl 7) (kst (.tup [(.str "any")]))) (cBlk [cAsg 11 (eTup [kst (.str "arrow"), sl 9, kst (.tup [(.str "any")])]), cRet (eTup [kst (.tup [(.str "any")]), eTup [kst (.str "app"), eMeth (lk6 call mk) (sl 0) "cast" [sl 8, kst (.tup [(.str "any")]), sl 11, e2 (binP .Add) (sl 3) (eTup [kst (.int 0)])], sl 10]])]) (cBlk []), cIf (tCmp .NotEq (e2 ixP (sl 7) (kst (.int 0))) (kst (.str "arrow"))) (cBlk [cRai 1 ["code", "path"] [kst (.str "types"), sl 3]]) (cBlk []), cRet (eTup [e2 ixP (sl 7) (kst (.int 2)), eTup [kst (.str "app"), sl 8, eMeth (lk6 call mk) (sl 0) "cast" [sl 10, sl 9, e2 ixP (sl 7) (kst (.int 1)), e2 (binP .Add) (sl 3) (eTup [kst (.int 1)])]]])]) (cBlk []),
  cIf (tCmp .Eq (sl 4) (kst (.str "op"))) (cBlk [cAsg 12 (eLc (eMeth (lk6 call mk) (sl 0) "cast" [sl 15, sl 7, kst (.tup [(.str "int")]), e2 (binP .Add) (sl 3) (eTup [sl 14])]) (Tgt.run (.tup [.nm 14, .tup [.nm 7, .nm 15]])) (tYes) (sOf en1 [sl 6]) [14, 7, 15]), cRet (eTup [eIf (tCmp .In (e2 ixP (sl 1) (kst (.int 1))) (eTup [kst (.str "+"), kst (.str "-"), kst (.str "*")])) (kst (.tup [(.str "int")])) (kst (.tup [(.str "bool")])), eTup [kst (.str "op"), e2 ixP (sl 1) (kst (.int 1)), e2 ixP (sl 12) (kst (.int 0)), e2 ixP (sl 12) (kst (.int 1))]])]) (cBlk []),
  cAsg 13 (eMeth (lk6 call mk) (sl 0) "cast" [e2 ixP (e2 ixP (sl 6) (kst (.int 0))) (kst (.int 1)), e2 ixP (e2 ixP (sl 6) (kst (.int 0))) (kst (.int 0)), kst (.tup [(.str "bool")]), e2 (binP .Add) (sl 3) (eTup [kst (.int 0)])]),
  cAsg 7 (eCall (call 3) [e2 ixP (e2 ixP (sl 6) (kst (.int 1))) (kst (.int 0)), e2 ixP (e2 ixP (sl 6) (kst (.int 2))) (kst (.int 0))]),
  cIf (tCmp .Is (sl 7) (kst (.non))) (cBlk [cRai 1 ["code", "path"] [kst (.str "types"), sl 3]]) (cBlk []),
  cAsg 12 (eLc (eMeth (lk6 call mk) (sl 0) "cast" [e2 ixP (e2 ixP (sl 6) (sl 14)) (kst (.int 1)), e2 ixP (e2 ixP (sl 6) (sl 14)) (kst (.int 0)), sl 7, e2 (binP .Add) (sl 3) (eTup [sl 14])]) (Tgt.run (.nm 14)) (tYes) (sWalk (eTup [kst (.int 1), kst (.int 2)])) [14]),
  cRet (eTup [sl 7, eTup [kst (.str "if"), sl 13, e2 ixP (sl 12) (kst (.int 0)), e2 ixP (sl 12) (kst (.int 1))]])]
theorem q_Caster_whole (call mk : Nat → List PV → M PV) : blk (evS (lk6 call mk) fn6.sc 20) fn6.body = b_Caster_whole call mk := by
  with_unfolding_all rfl
theorem w_Caster_whole (d : Nat) {vs : List PV} (h : vs.length = 4) : callN tab (d + 1) 6 vs = cFn 16 (b_Caster_whole (callN tab d) (iniN tab d)) vs := callN_c (F := fn6) (by rfl) (q_Caster_whole _ _) (by rfl) h
abbrev lk7 (call mk : Nat → List PV → M PV) : Lk := ⟨tab, call, mk, fn7.N⟩
def b_with_casts (call mk : Nat → List PV → M PV) : SM := cBlk [cRet (eMeth (lk7 call mk) (eBare 3) "find" [sl 0, eDct0, eTup []])]
theorem q_with_casts (call mk : Nat → List PV → M PV) : blk (evS (lk7 call mk) fn7.sc 20) fn7.body = b_with_casts call mk := by
  with_unfolding_all rfl
theorem w_with_casts (d : Nat) {vs : List PV} (h : vs.length = 1) : callN tab (d + 1) 7 vs = cFn 1 (b_with_casts (callN tab d) (iniN tab d)) vs := callN_c (F := fn7) (by rfl) (q_with_casts _ _) (by rfl) h
abbrev lk8 (call mk : Nat → List PV → M PV) : Lk := ⟨tab, call, mk, fn8.N⟩
def b_CastRun___init__ (call mk : Nat → List PV → M PV) : SM := cBlk [cFldSet (lk8 call mk) (sl 0) "fuel" (sl 1)]
theorem q_CastRun___init__ (call mk : Nat → List PV → M PV) : blk (evS (lk8 call mk) fn8.sc 20) fn8.body = b_CastRun___init__ call mk := by
  with_unfolding_all rfl
theorem w_CastRun___init__ (d : Nat) {vs : List PV} (h : vs.length = 2) : callN tab (d + 1) 8 vs = cFn 2 (b_CastRun___init__ (callN tab d) (iniN tab d)) vs := callN_c (F := fn8) (by rfl) (q_CastRun___init__ _ _) (by rfl) h
abbrev lk9 (call mk : Nat → List PV → M PV) : Lk := ⟨tab, call, mk, fn9.N⟩
def b_CastRun_run (call mk : Nat → List PV → M PV) : SM := cBlk [cIf (tCmp .Eq (e1 (fun x => fldP (lk9 call mk) x "fuel") (sl 0)) (kst (.int 0))) (cBlk [cRai0 2]) (cBlk []),
  cAug (lk9 call mk) (sl 0) "fuel" (· - ·) (kst (.int 1)),
  cAsg 3 (e2 ixP (sl 1) (kst (.int 0))),
  cIf (tCmp .In (sl 3) (eTup [kst (.str "int"), kst (.str "bool")])) (cBlk [cRet (eTup [kst (.str "done"), sl 1])]) (cBlk []),
  cIf (tCmp .Eq (sl 3) (kst (.str "var"))) (cBlk [cRet (eTup [kst (.str "done"), e2 ixP (sl 2) (e2 ixP (sl 1) (kst (.int 1)))])]) (cBlk []),
  cIf (tCmp .Eq (sl 3) (kst (.str "lam"))) (cBlk [cRet (eTup [kst (.str "done"), eTup [kst (.str "closure"), e2 ixP (sl 1) (kst (.int 1)), e2 ixP (sl 1) (kst (.int 3)), sl 2]])]) (cBlk []),
  cAsg 4 (eMeth (lk9 call mk) (sl 0) "run" [eIf (tCmp .In (sl 3) (eTup [kst (.str "op"), kst (.str "let")])) (e2 ixP (sl 1) (kst (.int 2))) (e2 ixP (sl 1) (kst (.int 1))), sl 2]),
  cIf (tCmp .Eq (e2 ixP (sl 4) (kst (.int 0))) (kst (.str "blame"))) (cBlk [cRet (sl 4)]) (cBlk []),
  cIf (tCmp .Eq (sl 3) (kst (.str "cast"))) (cBlk [cRet (eMeth (lk9 call mk) (sl 0) "changed" [e2 ixP (sl 4) (kst (.int 1)), e2 ixP (sl 1) (kst (.int 2)), e2 ixP (sl 1) (kst (.int 3)), eTup [e2 ixP (sl 1) (kst (.int 4)), kst (.bl true)]])]) (cBlk []),
  cIf (tCmp .Eq (sl 3) (kst (.str "let"))) (cBlk [cAsg 5 (eCall (bltP .dict) [sl 2]), cIxSet (sl 5) (e2 ixP (sl 1) (kst (.int 1))) (e2 ixP (sl 4) (kst (.int 1))), cRet (eMeth (lk9 call mk) (sl 0) "run" [e2 ixP (sl 1) (kst (.int 3)), sl 5])]) (cBlk []),
  cIf (tCmp .Eq (sl 3) (kst (.str "if"))) (cBlk [cRet (eMeth (lk9 call mk) (sl 0) "run" [eIf (tTru (e2 ixP (e2 ixP (sl 4) (kst (.int 1))) (kst (.int 1)))) (e2 ixP (sl 1) (kst (.int 2))) (e2 ixP (sl 1) (kst (.int 3))), sl 2])]) (cBlk []),
  cAsg 6 (eMeth (lk9 call mk) (sl 0) "run" [eIf (tCmp .Eq (sl 3) (kst (.str "op"))) (e2 ixP (sl 1) (kst (.int 3))) (e2 ixP (sl 1) (kst (.int 2))), sl 2]),
  cIf (tCmp .Eq (e2 ixP (sl 6) (kst (.int 0))) (kst (.str "blame"))) (cBlk [cRet (sl 6)]) (cBlk []),
  cIf (tCmp .Eq (sl 3) (kst (.str "op"))) (cBlk [cRet (eTup [kst (.str "done"), eCall (call 0) [e2 ixP (sl 1) (kst (.int 1)), e2 ixP (e2 ixP (sl 4) (kst (.int 1))) (kst (.int 1)), e2 ixP (e2 ixP (sl 6) (kst (.int 1))) (kst (.int 1))]])]) (cBlk []),
  cRet (eMeth (lk9 call mk) (sl 0) "called" [e2 ixP (sl 4) (kst (.int 1)), e2 ixP (sl 6) (kst (.int 1))])]
theorem q_CastRun_run (call mk : Nat → List PV → M PV) : blk (evS (lk9 call mk) fn9.sc 20) fn9.body = b_CastRun_run call mk := by
  with_unfolding_all rfl
theorem w_CastRun_run (d : Nat) {vs : List PV} (h : vs.length = 3) : callN tab (d + 1) 9 vs = cFn 7 (b_CastRun_run (callN tab d) (iniN tab d)) vs := callN_c (F := fn9) (by rfl) (q_CastRun_run _ _) (by rfl) h
abbrev lk10 (call mk : Nat → List PV → M PV) : Lk := ⟨tab, call, mk, fn10.N⟩
def b_CastRun_called (call mk : Nat → List PV → M PV) : SM := cBlk [cIf (tCmp .Eq (e2 ixP (sl 1) (kst (.int 0))) (kst (.str "closure"))) (cBlk [cAsg 3 (eCall (bltP .dict) [e2 ixP (sl 1) (kst (.int 3))]), cIxSet (sl 3) (e2 ixP (sl 1) (kst (.int 1))) (sl 2), cRet (eMeth (lk10 call mk) (sl 0) "run" [e2 ixP (sl 1) (kst (.int 2)), sl 3])]) (cBlk []),
  cUnp (sl 1) (Tgt.run (.tup [.nm 4, .nm 5, .nm 6, .nm 7, .nm 8])),
  cAsg 9 (eMeth (lk10 call mk) (sl 0) "changed" [sl 2, e2 ixP (sl 7) (kst (.int 1)), e2 ixP (sl 6) (kst (.int 1)), eTup [e2 ixP (sl 8) (kst (.int 0)), e1 notV (e2 ixP (sl 8) (kst (.int 1)))]]),
  cIf (tCmp .Eq (e2 ixP (sl 9) (kst (.int 0))) (kst (.str "blame"))) (cBlk [cRet (sl 9)]) (cBlk []),
  cAsg 10 (eMeth (lk10 call mk) (sl 0) "called" [sl 5, e2 ixP (sl 9) (kst (.int 1))]),
  cRet (eIf (tCmp .Eq (e2 ixP (sl 10) (kst (.int 0))) (kst (.str "blame"))) (sl 10) (eMeth (lk10 call mk) (sl 0) "changed" [e2 ixP (sl 10) (kst (.int 1)), e2 ixP (sl 6) (kst (.int 2)), e2 ixP (sl 7) (kst (.int 2)), sl 8]))]
theorem q_CastRun_called (call mk : Nat → List PV → M PV) : blk (evS (lk10 call mk) fn10.sc 20) fn10.body = b_CastRun_called call mk := by
  with_unfolding_all rfl
theorem w_CastRun_called (d : Nat) {vs : List PV} (h : vs.length = 3) : callN tab (d + 1) 10 vs = cFn 11 (b_CastRun_called (callN tab d) (iniN tab d)) vs := callN_c (F := fn10) (by rfl) (q_CastRun_called _ _) (by rfl) h
abbrev lk11 (call mk : Nat → List PV → M PV) : Lk := ⟨tab, call, mk, fn11.N⟩
def b_CastRun_changed (call mk : Nat → List PV → M PV) : SM := cBlk [cIf (tCmp .Eq (e1 (fun x => fldP (lk11 call mk) x "fuel") (sl 0)) (kst (.int 0))) (cBlk [cRai0 2]) (cBlk []),
  cAug (lk11 call mk) (sl 0) "fuel" (· - ·) (kst (.int 1)),
  cIf (tCmp .Eq (sl 2) (sl 3)) (cBlk [cRet (eTup [kst (.str "done"), sl 1])]) (cBlk []),
  cIf (tAnd (tCmp .Eq (e2 ixP (sl 2) (kst (.int 0))) (kst (.str "arrow"))) (tCmp .Eq (e2 ixP (sl 3) (kst (.int 0))) (kst (.str "arrow")))) (cBlk [cRet (eTup [kst (.str "done"), eTup [kst (.str "wrapped"), sl 1, sl 2, sl 3, sl 4]])]) (cBlk []),
  cIf (tCmp .Eq (sl 3) (kst (.tup [(.str "any")]))) (cBlk [cAsg 5 (eTup [kst (.str "arrow"), kst (.tup [(.str "any")]), kst (.tup [(.str "any")])]), cIf (tAnd (tCmp .Eq (e2 ixP (sl 2) (kst (.int 0))) (kst (.str "arrow"))) (tCmp .NotEq (sl 2) (sl 5))) (cBlk [cAsg 1 (e2 ixP (eMeth (lk11 call mk) (sl 0) "changed" [sl 1, sl 2, sl 5, sl 4]) (kst (.int 1)))]) (cBlk []), cRet (eTup [kst (.str "done"), eTup [kst (.str "tagged"), sl 1, eIf (tCmp .Eq (e2 ixP (sl 2) (kst (.int 0))) (kst (.str "arrow"))) (sl 5) (sl 2)]])]) (cBlk []),
  cUnp (sl 1) (Tgt.run (.tup [.nm 6, .nm 7, .nm 8])),
  cIf (tCmp .NotEq (e2 ixP (sl 8) (kst (.int 0))) (e2 ixP (sl 3) (kst (.int 0)))) (cBlk [cRet (eTup [kst (.str "blame"), e2 ixP (sl 4) (kst (.int 0)), e2 ixP (sl 4) (kst (.int 1))])]) (cBlk []),
  cRet (eMeth (lk11 call mk) (sl 0) "changed" [sl 7, sl 8, sl 3, sl 4])]
theorem q_CastRun_changed (call mk : Nat → List PV → M PV) : blk (evS (lk11 call mk) fn11.sc 20) fn11.body = b_CastRun_changed call mk := by
  with_unfolding_all rfl
theorem w_CastRun_changed (d : Nat) {vs : List PV} (h : vs.length = 5) : callN tab (d + 1) 11 vs = cFn 9 (b_CastRun_changed (callN tab d) (iniN tab d)) vs := callN_c (F := fn11) (by rfl) (q_CastRun_changed _ _) (by rfl) h
abbrev lk12 (call mk : Nat → List PV → M PV) : Lk := ⟨tab, call, mk, fn12.N⟩
def b_shown_cast (call mk : Nat → List PV → M PV) : SM := cBlk [cIf (tCmp .Eq (e2 ixP (sl 0) (kst (.int 0))) (kst (.str "tagged"))) (cBlk [cRet (eCall (call 12) [e2 ixP (sl 0) (kst (.int 1))])]) (cBlk []),
  cRet (eIf (tCmp .In (e2 ixP (sl 0) (kst (.int 0))) (eTup [kst (.str "int"), kst (.str "bool")])) (sl 0) (eTup [kst (.str "function")]))]
theorem q_shown_cast (call mk : Nat → List PV → M PV) : blk (evS (lk12 call mk) fn12.sc 20) fn12.body = b_shown_cast call mk := by
  with_unfolding_all rfl
theorem w_shown_cast (d : Nat) {vs : List PV} (h : vs.length = 1) : callN tab (d + 1) 12 vs = cFn 1 (b_shown_cast (callN tab d) (iniN tab d)) vs := callN_c (F := fn12) (by rfl) (q_shown_cast _ _) (by rfl) h
abbrev lk13 (call mk : Nat → List PV → M PV) : Lk := ⟨tab, call, mk, fn13.N⟩
def b_run_casts (call mk : Nat → List PV → M PV) : SM := cBlk [cTry tab (cBlk [cAsg 2 (eMeth (lk13 call mk) (eCall (makeP (lk13 call mk) 4) [sl 1]) "run" [sl 0, eDct0])]) 2 (suiC (.ret (.tup [(.str "tired")]))) goneN,
  cRet (eIf (tCmp .Eq (e2 ixP (sl 2) (kst (.int 0))) (kst (.str "done"))) (eTup [kst (.str "value"), eCall (call 12) [e2 ixP (sl 2) (kst (.int 1))]]) (sl 2))]
theorem q_run_casts (call mk : Nat → List PV → M PV) : blk (evS (lk13 call mk) fn13.sc 20) fn13.body = b_run_casts call mk := by
  with_unfolding_all rfl
theorem w_run_casts (d : Nat) {vs : List PV} (h : vs.length = 2) : callN tab (d + 1) 13 vs = cFn 3 (b_run_casts (callN tab d) (iniN tab d)) vs := callN_c (F := fn13) (by rfl) (q_run_casts _ _) (by rfl) h
abbrev lk14 (call mk : Nat → List PV → M PV) : Lk := ⟨tab, call, mk, fn14.N⟩
def b__law_tape_1 (call mk : Nat → List PV → M PV) : SM := cBlk [cAsg 2 (e2 (binP .Mod) (eCall (bltP .int) [e2 (binP .Add) (e2 (binP .Mult) (sl 2) (kst (.int 31))) (sl 3)]) (kst (.int 2147483647)))]
def b__law_tape (call mk : Nat → List PV → M PV) : SM := cBlk [cAsg 1 (eLc (eCall (bltP .abs) [eCall (bltP .int) [sl 3]]) (Tgt.run (.nm 3)) (tYes) (sWalk (sl 0)) [3]),
  cAsg 2 (kst (.int 7)),
  cFor (sWalk (sl 1)) (Tgt.run (.nm 3)) (b__law_tape_1 call mk),
  cRet (eDct [.inr "cells", .inr "at", .inr "left", .inr "seed", .inr "salt"] [sl 1, kst (.int 0), kst (.int 0), sl 2, kst (.int 0)])]
theorem q__law_tape (call mk : Nat → List PV → M PV) : blk (evS (lk14 call mk) fn14.sc 20) fn14.body = b__law_tape call mk := by
  with_unfolding_all rfl
theorem w__law_tape (d : Nat) {vs : List PV} (h : vs.length = 1) : callN tab (d + 1) 14 vs = cFn 4 (b__law_tape (callN tab d) (iniN tab d)) vs := callN_c (F := fn14) (by rfl) (q__law_tape _ _) (by rfl) h
abbrev lk15 (call mk : Nat → List PV → M PV) : Lk := ⟨tab, call, mk, fn15.N⟩
def b__law_take (call mk : Nat → List PV → M PV) : SM := cBlk [cIf (tAnd (tCmp .Eq (e2 ixP (sl 0) (kst (.str "left"))) (kst (.int 0))) (tCmp .Lt (e2 ixP (sl 0) (kst (.str "at"))) (eCall (bltP .len) [e2 ixP (sl 0) (kst (.str "cells"))]))) (cBlk [cIxSet (sl 0) (kst (.str "left")) (e2 ixP (e2 ixP (sl 0) (kst (.str "cells"))) (e2 ixP (sl 0) (kst (.str "at")))), cIxSet (sl 0) (kst (.str "at")) (e2 (binP .Add) (e2 ixP (sl 0) (kst (.str "at"))) (kst (.int 1)))]) (cBlk []),
  cIf (tCmp .Gt (e2 ixP (sl 0) (kst (.str "left"))) (kst (.int 0))) (cBlk [cAsg 2 (e2 (binP .Mod) (eCall (bltP .int) [e2 ixP (sl 0) (kst (.str "left"))]) (sl 1)), cIxSet (sl 0) (kst (.str "left")) (e2 (binP .FloorDiv) (e2 ixP (sl 0) (kst (.str "left"))) (sl 1)), cRet (sl 2)]) (cBlk []),
  cIxSet (sl 0) (kst (.str "salt")) (e2 (binP .Add) (e2 ixP (sl 0) (kst (.str "salt"))) (kst (.int 1))),
  cAsg 3 (e2 (binP .Mod) (eCall (bltP .int) [e2 (binP .Add) (e2 (binP .Mult) (e2 ixP (sl 0) (kst (.str "seed"))) (kst (.int 48271))) (e2 (binP .Mult) (e2 ixP (sl 0) (kst (.str "salt"))) (kst (.int 69621)))]) (kst (.int 2147483647))),
  cAsg 3 (e2 (binP .Mod) (eCall (bltP .int) [e2 (binP .Add) (e2 (binP .Add) (e2 (binP .Mult) (sl 3) (sl 3)) (e2 (binP .Mult) (e2 ixP (sl 0) (kst (.str "salt"))) (kst (.int 40692)))) (kst (.int 12345))]) (kst (.int 2147483399))),
  cRet (e2 (binP .Mod) (eCall (bltP .int) [sl 3]) (sl 1))]
theorem q__law_take (call mk : Nat → List PV → M PV) : blk (evS (lk15 call mk) fn15.sc 20) fn15.body = b__law_take call mk := by
  with_unfolding_all rfl
theorem w__law_take (d : Nat) {vs : List PV} (h : vs.length = 2) : callN tab (d + 1) 15 vs = cFn 4 (b__law_take (callN tab d) (iniN tab d)) vs := callN_c (F := fn15) (by rfl) (q__law_take _ _) (by rfl) h
abbrev lk16 (call mk : Nat → List PV → M PV) : Lk := ⟨tab, call, mk, fn16.N⟩
def b__law_kind (call mk : Nat → List PV → M PV) : SM := cBlk [cIf (tOr (tCmp .Eq (sl 1) (kst (.int 0))) (tCmp .Eq (eCall (call 15) [sl 0, kst (.int 3)]) (kst (.int 0)))) (cBlk [cRet (e2 ixP (eLst [eTup [kst (.str "int")], eTup [kst (.str "bool")], eTup [kst (.str "any")], eTup [kst (.str "any")]]) (eCall (call 15) [sl 0, kst (.int 4)]))]) (cBlk []),
  cRet (eTup [kst (.str "arrow"), eCall (call 16) [sl 0, e2 (binP .Sub) (sl 1) (kst (.int 1))], eCall (call 16) [sl 0, e2 (binP .Sub) (sl 1) (kst (.int 1))]])]
theorem q__law_kind (call mk : Nat → List PV → M PV) : blk (evS (lk16 call mk) fn16.sc 20) fn16.body = b__law_kind call mk := by
  with_unfolding_all rfl
theorem w__law_kind (d : Nat) {vs : List PV} (h : vs.length = 2) : callN tab (d + 1) 16 vs = cFn 2 (b__law_kind (callN tab d) (iniN tab d)) vs := callN_c (F := fn16) (by rfl) (q__law_kind _ _) (by rfl) h
abbrev lk17 (call mk : Nat → List PV → M PV) : Lk := ⟨tab, call, mk, fn17.N⟩
def b__law_program (call mk : Nat → List PV → M PV) : SM := cBlk [cIf (tOr (tCmp .Eq (sl 2) (kst (.int 0))) (tCmp .Eq (eCall (call 15) [sl 0, kst (.int 6)]) (kst (.int 0)))) (cBlk [cAsg 3 (e2 (binP .Add) (eLst [eTup [kst (.str "int"), eCall (call 15) [sl 0, kst (.int 4)]], eTup [kst (.str "bool"), eCmp .Eq (eCall (call 15) [sl 0, kst (.int 2)]) (kst (.int 0))], eTup [kst (.str "int"), kst (.int 2)]]) (e2 (binP .Mult) (eLc (eTup [kst (.str "var"), sl 7]) (Tgt.run (.nm 7)) (tYes) (sWalk (sl 1)) [7]) (kst (.int 2)))), cRet (e2 ixP (sl 3) (eCall (call 15) [sl 0, eCall (bltP .len) [sl 3]]))]) (cBlk []),
  cAsg 4 (eCall (call 15) [sl 0, kst (.int 9)]),
  cPar [eCall (call 17) [sl 0, sl 1, e2 (binP .Sub) (sl 2) (kst (.int 1))], eCall (call 17) [sl 0, sl 1, e2 (binP .Sub) (sl 2) (kst (.int 1))]] (Tgt.run (.tup [.nm 5, .nm 6])),
  cIf (tCmp .Lt (sl 4) (kst (.int 2))) (cBlk [cRet (eTup [kst (.str "lam"), kst (.str "x"), eCall (call 16) [sl 0, kst (.int 2)], eCall (call 17) [sl 0, e2 (binP .Add) (sl 1) (eLst [kst (.str "x")]), e2 (binP .Sub) (sl 2) (kst (.int 1))]])]) (cBlk []),
  cIf (tCmp .Lt (sl 4) (kst (.int 4))) (cBlk [cRet (eTup [kst (.str "app"), eIf (tCmp .Gt (eCall (call 15) [sl 0, kst (.int 3)]) (kst (.int 0))) (eTup [kst (.str "lam"), kst (.str "y"), eCall (call 16) [sl 0, kst (.int 1)], eCall (call 17) [sl 0, e2 (binP .Add) (sl 1) (eLst [kst (.str "y")]), e2 (binP .Sub) (sl 2) (kst (.int 1))]]) (sl 5), sl 6])]) (cBlk []),
  cIf (tCmp .Eq (sl 4) (kst (.int 4))) (cBlk [cRet (eTup [kst (.str "if"), eTup [kst (.str "op"), kst (.str "<"), eTup [kst (.str "int"), eCall (call 15) [sl 0, kst (.int 3)]], eTup [kst (.str "int"), kst (.int 1)]], sl 5, sl 6])]) (cBlk []),
  cIf (tCmp .Eq (sl 4) (kst (.int 5))) (cBlk [cRet (eTup [kst (.str "op"), e2 ixP (eLst [kst (.str "+"), kst (.str "<"), kst (.str "*")]) (eCall (call 15) [sl 0, kst (.int 3)]), sl 5, sl 6])]) (cBlk []),
  cIf (tCmp .Eq (sl 4) (kst (.int 6))) (cBlk [cRet (eTup [kst (.str "let"), kst (.str "z"), sl 5, eCall (call 17) [sl 0, e2 (binP .Add) (sl 1) (eLst [kst (.str "z")]), e2 (binP .Sub) (sl 2) (kst (.int 1))]])]) (cBlk []),
  cRet (eTup [kst (.str "as"), sl 5, eCall (call 16) [sl 0, kst (.int 2)]])]
theorem q__law_program (call mk : Nat → List PV → M PV) : blk (evS (lk17 call mk) fn17.sc 20) fn17.body = b__law_program call mk := by
  with_unfolding_all rfl
theorem w__law_program (d : Nat) {vs : List PV} (h : vs.length = 3) : callN tab (d + 1) 17 vs = cFn 8 (b__law_program (callN tab d) (iniN tab d)) vs := callN_c (F := fn17) (by rfl) (q__law_program _ _) (by rfl) h
abbrev lk18 (call mk : Nat → List PV → M PV) : Lk := ⟨tab, call, mk, fn18.N⟩
def b__law_static (call mk : Nat → List PV → M PV) : SM := cBlk [cAsg 4 (eLc (sl 6) (Tgt.run (.nm 6)) (tCmp .Eq (e2 ixP (sl 2) (sl 6)) (sl 1)) (sWalk (sl 2)) [6]),
  cIf (tAnd (tCmp .NotEq (sl 4) (eLst [])) (tCmp .Eq (eCall (call 15) [sl 0, kst (.int 2)]) (kst (.int 0)))) (cBlk [cRet (eTup [kst (.str "var"), e2 ixP (sl 4) (eCall (call 15) [sl 0, eCall (bltP .len) [sl 4]])])]) (cBlk []),
  cIf (tCmp .Eq (e2 ixP (sl 1) (kst (.int 0))) (kst (.str "arrow"))) (cBlk [cAsg 5 (eCall (bltP .dict) [sl 2]), cAsg 6 (e2 (binP .Add) (kst (.str "x")) (eCall (bltP .str) [eCall (bltP .len) [sl 2]])), cIxSet (sl 5) (sl 6) (e2 ixP (sl 1) (kst (.int 1))), cRet (eTup [kst (.str "lam"), sl 6, e2 ixP (sl 1) (kst (.int 1)), eCall (call 18) [sl 0, e2 ixP (sl 1) (kst (.int 2)), sl 5, e2 (binP .Sub) (sl 3) (kst (.int 1))]])]) (cBlk []),
  cIf (tCmp .LtE (sl 3) (kst (.int 0))) (cBlk [cRet (eIf (tCmp .Eq (sl 1) (eTup [kst (.str "int")])) (eTup [kst (.str "int"), eCall (call 15) [sl 0, kst (.int 4)]]) (eTup [kst (.str "bool"), eCmp .Eq (eCall (call 15) [sl 0, kst (.int 2)]) (kst (.int 0))]))]) (cBlk []),
  cAsg 7 (eCall (call 15) [sl 0, kst (.int 4)]),
  cAsg 8 (e2 ixP (eLst [eTup [kst (.str "int")], eTup [kst (.str "bool")], eTup [kst (.str "arrow"), eTup [kst (.str "int")], eTup [kst (.str "int")]], eTup [kst (.str "arrow"), eTup [kst (.str "int")], eTup [kst (.str "bool")]]]) (eCall (call 15) [sl 0, kst (.int 4)])),
  cIf (tCmp .Lt (sl 7) (kst (.int 2))) (cBlk [cRet (eTup [kst (.str "app"), eCall (call 18) [sl 0, eTup [kst (.str "arrow"), sl 8, sl 1], sl 2, e2 (binP .Sub) (sl 3) (kst (.int 1))], eCall (call 18) [sl 0, sl 8, sl 2, e2 (binP .Sub) (sl 3) (kst (.int 1))]])]) (cBlk []),
  cIf (tCmp .Eq (sl 7) (kst (.int 2))) (cBlk [cRet (eTup [kst (.str "if"), eCall (call 18) [sl 0, eTup [kst (.str "bool")], sl 2, e2 (binP .Sub) (sl 3) (kst (.int 1))], eCall (call 18) [sl 0, sl 1, sl 2, e2 (binP .Sub) (sl 3) (kst (.int 1))], eCall (call 18) [sl 0, sl 1, sl 2, e2 (binP .Sub) (sl 3) (kst (.int 1))]])]) (cBlk []),
  cRet (eTup [kst (.str "op"), eIf (tCmp .Eq (sl 1) (eTup [kst (.str "int")])) (kst (.str "+")) (kst (.str "<")), eCall (call 18) [sl 0, eTup [kst (.str "int")], sl 2, e2 (binP .Sub) (sl 3) (kst (.int 1))], eCall (call 18) [sl 0, eTup [kst (.str "int")], sl 2, e2 (binP .Sub) (sl 3) (kst (.int 1))]])]
theorem q__law_static (call mk : Nat → List PV → M PV) : blk (evS (lk18 call mk) fn18.sc 20) fn18.body = b__law_static call mk := by
  with_unfolding_all rfl
theorem w__law_static (d : Nat) {vs : List PV} (h : vs.length = 4) : callN tab (d + 1) 18 vs = cFn 9 (b__law_static (callN tab d) (iniN tab d)) vs := callN_c (F := fn18) (by rfl) (q__law_static _ _) (by rfl) h
abbrev lk19 (call mk : Nat → List PV → M PV) : Lk := ⟨tab, call, mk, fn19.N⟩
def b__law_forgotten (call mk : Nat → List PV → M PV) : SM := cBlk [cIf (tCmp .Eq (eCall (call 15) [sl 0, kst (.int 3)]) (kst (.int 0))) (cBlk [cRet (eTup [kst (.str "any")])]) (cBlk []),
  cRet (eIf (tCmp .Eq (e2 ixP (sl 1) (kst (.int 0))) (kst (.str "arrow"))) (eTup [kst (.str "arrow"), eCall (call 19) [sl 0, e2 ixP (sl 1) (kst (.int 1))], eCall (call 19) [sl 0, e2 ixP (sl 1) (kst (.int 2))]]) (sl 1))]
theorem q__law_forgotten (call mk : Nat → List PV → M PV) : blk (evS (lk19 call mk) fn19.sc 20) fn19.body = b__law_forgotten call mk := by
  with_unfolding_all rfl
theorem w__law_forgotten (d : Nat) {vs : List PV} (h : vs.length = 2) : callN tab (d + 1) 19 vs = cFn 2 (b__law_forgotten (callN tab d) (iniN tab d)) vs := callN_c (F := fn19) (by rfl) (q__law_forgotten _ _) (by rfl) h
abbrev lk20 (call mk : Nat → List PV → M PV) : Lk := ⟨tab, call, mk, fn20.N⟩
def b__law_used_1 (call mk : Nat → List PV → M PV) : SM := cBlk [cPar [eTup [kst (.str "app"), sl 0, eIf (tCmp .Eq (e2 ixP (sl 1) (kst (.int 1))) (eTup [kst (.str "int")])) (eTup [kst (.str "int"), kst (.int 2)]) (eIf (tCmp .Eq (e2 ixP (sl 1) (kst (.int 1))) (eTup [kst (.str "bool")])) (eTup [kst (.str "bool"), kst (.bl true)]) (eTup [kst (.str "lam"), kst (.str "q"), eTup [kst (.str "int")], eIf (tCmp .Eq (e2 ixP (e2 ixP (sl 1) (kst (.int 1))) (kst (.int 2))) (eTup [kst (.str "int")])) (eTup [kst (.str "var"), kst (.str "q")]) (eTup [kst (.str "bool"), kst (.bl true)])]))], e2 ixP (sl 1) (kst (.int 2))] (Tgt.run (.tup [.nm 0, .nm 1]))]
def b__law_used (call mk : Nat → List PV → M PV) : SM := cBlk [cWhl (tCmp .Eq (e2 ixP (sl 1) (kst (.int 0))) (kst (.str "arrow"))) (b__law_used_1 call mk),
  cRet (sl 0)]
theorem q__law_used (call mk : Nat → List PV → M PV) : blk (evS (lk20 call mk) fn20.sc 20) fn20.body = b__law_used call mk := by
  with_unfolding_all rfl
theorem w__law_used (d : Nat) {vs : List PV} (h : vs.length = 2) : callN tab (d + 1) 20 vs = cFn 2 (b__law_used (callN tab d) (iniN tab d)) vs := callN_c (F := fn20) (by rfl) (q__law_used _ _) (by rfl) h
abbrev lk21 (call mk : Nat → List PV → M PV) : Lk := ⟨tab, call, mk, fn21.N⟩
def b__law_labels_1 (call mk : Nat → List PV → M PV) : SM := cBlk [cAsg 1 (e2 (binP .Add) (sl 1) (eCall (call 21) [sl 2]))]
def b__law_labels (call mk : Nat → List PV → M PV) : SM := cBlk [cIf (tOr (tNot (tTru (e1 (fun x => isiP x "tuple") (sl 0)))) (tCmp .Eq (sl 0) (eTup []))) (cBlk [cRet (eLst [])]) (cBlk []),
  cAsg 1 (eIf (tAnd (tCmp .Eq (e2 ixP (sl 0) (kst (.int 0))) (kst (.str "cast"))) (tCmp .Eq (eCall (bltP .len) [sl 0]) (kst (.int 5)))) (eLst [e2 ixP (sl 0) (kst (.int 4))]) (eLst [])),
  cFor (sWalk (sl 0)) (Tgt.run (.nm 2)) (b__law_labels_1 call mk),
  cRet (sl 1)]
theorem q__law_labels (call mk : Nat → List PV → M PV) : blk (evS (lk21 call mk) fn21.sc 20) fn21.body = b__law_labels call mk := by
  with_unfolding_all rfl
theorem w__law_labels (d : Nat) {vs : List PV} (h : vs.length = 1) : callN tab (d + 1) 21 vs = cFn 3 (b__law_labels (callN tab d) (iniN tab d)) vs := callN_c (F := fn21) (by rfl) (q__law_labels _ _) (by rfl) h
abbrev lk22 (call mk : Nat → List PV → M PV) : Lk := ⟨tab, call, mk, fn22.N⟩
def b_law_2 (call mk : Nat → List PV → M PV) : SM := cBlk [cAsg 10 (eCall (call 13) [e2 ixP (eCall (call 7) [eCall (call 20) [sl 9, sl 3]]) (kst (.int 1)), kst (.int 190)]), cIf (tCmp .NotIn (sl 10) (eTup [sl 7, eTup [kst (.str "tired")]])) (cBlk [cRet (kst (.bl false))]) (cBlk [])]
def b_law_1 (call mk : Nat → List PV → M PV) : SM := cBlk [cAsg 3 (e2 ixP (eLst [eTup [kst (.str "int")], eTup [kst (.str "bool")], eTup [kst (.str "arrow"), eTup [kst (.str "int")], eTup [kst (.str "bool")]], eTup [kst (.str "arrow"), eTup [kst (.str "arrow"), eTup [kst (.str "int")], eTup [kst (.str "int")]], eTup [kst (.str "int")]]]) (eCall (call 15) [sl 1, kst (.int 4)])), cAsg 4 (eCall (call 18) [sl 1, sl 3, eDct0, kst (.int 3)]), cAsg 5 (eCall (call 19) [sl 1, sl 3]), cAsg 6 (eIf (tCmp .NotEq (sl 5) (eTup [kst (.str "any")])) (eCall (call 19) [sl 1, sl 5]) (sl 5)), cAsg 7 (eCall (call 13) [e2 ixP (eCall (call 7) [eCall (call 20) [sl 4, sl 3]]) (kst (.int 1)), kst (.int 180)]), cIf (tCmp .Eq (sl 7) (eTup [kst (.str "tired")])) (cBlk [cCont]) (cBlk []), cAsg 8 (eLst [eTup [kst (.str "as"), eTup [kst (.str "as"), sl 4, sl 5], sl 3], eTup [kst (.str "as"), eTup [kst (.str "as"), eTup [kst (.str "as"), sl 4, sl 5], sl 6], sl 3], eTup [kst (.str "as"), eTup [kst (.str "as"), eTup [kst (.str "as"), sl 4, sl 5], sl 5], sl 3], eTup [kst (.str "as"), eTup [kst (.str "as"), eTup [kst (.str "as"), sl 4, eTup [kst (.str "any")]], sl 5], sl 3], eTup [kst (.str "as"), eTup [kst (.str "as"), eTup [kst (.str "as"), eTup [kst (.str "as"), sl 4, sl 5], sl 3], sl 6], sl 3]]), cFor (sWalk (sl 8)) (Tgt.run (.nm 9)) (b_law_2 call mk), cIf (tOr (tNot (tTru (eCall (call 2) [sl 5, sl 3]))) (tOr (tNot (tTru (eCall (call 2) [sl 6, sl 5]))) (tOr (tCmp .NotEq (eCall (call 3) [sl 5, sl 3]) (sl 3)) (tNot (tTru (eCall (call 1) [sl 6, sl 3])))))) (cBlk [cRet (kst (.bl false))]) (cBlk []), cAsg 11 (eCall (call 17) [sl 1, eLst [], kst (.int 4)]), cTry tab (cBlk [cUnp (eCall (call 7) [sl 11]) (Tgt.run (.tup [.nm 12, .nm 13]))]) 1 (suiC .cont) goneN, cAsg 14 (eCall (call 13) [sl 13, kst (.int 180)]), cIf (tAnd (tCmp .Eq (e2 ixP (sl 14) (kst (.int 0))) (kst (.str "blame"))) (tCmp .NotIn (e2 ixP (sl 14) (kst (.int 1))) (eCall (call 21) [sl 13]))) (cBlk [cRet (kst (.bl false))]) (cBlk []), cAsg 15 (eTup [kst (.str "as"), eTup [kst (.str "as"), sl 11, sl 12], sl 12]), cIf (tAnd (tCmp .NotIn (eCall (call 13) [e2 ixP (eCall (call 7) [sl 15]) (kst (.int 1)), kst (.int 180)]) (eTup [sl 14, eTup [kst (.str "tired")]])) (tCmp .NotEq (e2 ixP (sl 14) (kst (.int 0))) (kst (.str "blame")))) (cBlk [cRet (kst (.bl false))]) (cBlk [])]
def b_law (call mk : Nat → List PV → M PV) : SM := cBlk [cAsg 1 (eCall (call 14) [sl 0]),
  cFor (sOf rg1 [kst (.int 4)]) (Tgt.run (.nm 2)) (b_law_1 call mk),
  cRet (kst (.bl true))]
theorem q_law (call mk : Nat → List PV → M PV) : blk (evS (lk22 call mk) fn22.sc 20) fn22.body = b_law call mk := by
  with_unfolding_all rfl
theorem w_law (d : Nat) {vs : List PV} (h : vs.length = 1) : callN tab (d + 1) 22 vs = cFn 16 (b_law (callN tab d) (iniN tab d)) vs := callN_c (F := fn22) (by rfl) (q_law _ _) (by rfl) h
end Zk44

namespace Zk44
open PySem L2 Z
inductive Ty where
  | int | bool | any | arr (a b : Ty)
deriving DecidableEq
/-- the head word -/
def Ty.hd : Ty → Nat
  | .int => 0 | .bool => 1 | .any => 2 | .arr _ _ => 3
abbrev gen : Ty := .arr .any .any
inductive Sg where
  | add | sub | mul | lt | eq
deriving DecidableEq
inductive Tm where
  | int (n : Int) | bool (b : Bool) | var (x : Str) | lam (x : Str) (t : Ty) (b : Tm) | app (f a : Tm) | ite (c a b : Tm) | op (g : Sg) (a b : Tm) | lt (x : Str) (e b : Tm) | as (e : Tm) (t : Ty) | cast (e : Tm) (f t : Ty) (l : List Int)
inductive Vl where
  | int (n : Int) | bool (b : Bool) | clos (x : Str) (b : Tm) (env : Str → Option Vl) | wrap (f : Vl) (t u : Ty) (l : List Int) (p : Bool) | tag (v : Vl) (t : Ty)
abbrev Env := Str → Option Vl
abbrev Cx := Str → Option Ty
def put {α : Type} (e : Str → Option α) (x : Str) (v : α) : Str → Option α := fun y => if y = x then some v else e y

def fits : Ty → Ty → Bool
  | .any, _ => true
  | _, .any => true
  | .arr a b, .arr c d => decide (Ty.arr a b = .arr c d) || (fits a c && fits b d)
  | a, b => decide (a = b)
def lessK : Ty → Ty → Bool
  | .any, _ => true
  | .arr a b, .arr c d => decide (Ty.arr a b = .arr c d) || (lessK a c && lessK b d)
  | a, b => decide (a = b)
theorem fits_any (b : Ty) : fits .any b = true := by cases b <;> rfl
theorem fits_anyR (a : Ty) : fits a .any = true := by cases a <;> rfl
theorem fits_refl : ∀ a : Ty, fits a a = true
  | .int => rfl
  | .bool => rfl
  | .any => rfl
  | .arr a b => by unfold fits; simp
theorem fits_arr {a b c d : Ty} (h : fits (.arr a b) (.arr c d) = true) : fits a c = true ∧ fits b d = true := by
  unfold fits at h
  simp only [Bool.or_eq_true, Bool.and_eq_true, decide_eq_true_eq] at h
  rcases h with h | h
  · cases h
    exact ⟨fits_refl _, fits_refl _⟩
  · exact h
theorem fits_of_arr {a b c d : Ty} (h : fits a c = true) (h2 : fits b d = true) : fits (.arr a b) (.arr c d) = true := by
  unfold fits
  rw [h, h2]
  simp
theorem fits_comm : ∀ {a b : Ty}, fits a b = true → fits b a = true
  | .any, b, _ => fits_anyR b
  | .int, b, h => by cases b <;> first | rfl | cases h
  | .bool, b, h => by cases b <;> first | rfl | cases h
  | .arr a1 a2, b, h => by
    cases b with
    | any => rfl
    | arr c d =>
      obtain ⟨h1, h2⟩ := fits_arr h
      exact fits_of_arr (fits_comm h1) (fits_comm h2)
    | _ => cases h
theorem lessK_refl : ∀ a : Ty, lessK a a = true
  | .int => rfl
  | .bool => rfl
  | .any => rfl
  | .arr a b => by unfold lessK; simp
theorem lessK_arr {a b c d : Ty} (h : lessK (.arr a b) (.arr c d) = true) : lessK a c = true ∧ lessK b d = true := by
  unfold lessK at h
  simp only [Bool.or_eq_true, Bool.and_eq_true, decide_eq_true_eq] at h
  rcases h with h | h
  · cases h
    exact ⟨lessK_refl _, lessK_refl _⟩
  · exact h
theorem lessK_of {a b c d : Ty} (h : lessK a c = true) (h2 : lessK b d = true) : lessK (.arr a b) (.arr c d) = true := by
  unfold lessK
  rw [h, h2]
  simp
theorem lessK_trans : ∀ {a b c : Ty}, lessK a b = true → lessK b c = true → lessK a c = true
  | .any, _, c, _, _ => by cases c <;> rfl
  | .int, b, c, h, h2 => by cases b <;> first | exact h2 | cases h
  | .bool, b, c, h, h2 => by cases b <;> first | exact h2 | cases h
  | .arr a1 a2, b, c, h, h2 => by
    cases b with
    | arr b1 b2 =>
      cases c with
      | arr c1 c2 =>
        obtain ⟨q1, q2⟩ := lessK_arr h
        obtain ⟨r1, r2⟩ := lessK_arr h2
        exact lessK_of (lessK_trans q1 r1) (lessK_trans q2 r2)
      | _ => cases h2
    | _ => cases h
theorem less_fits : ∀ {a b : Ty}, lessK a b = true → fits a b = true
  | .any, b, _ => fits_any b
  | .int, b, h => by cases b <;> first | rfl | cases h
  | .bool, b, h => by cases b <;> first | rfl | cases h
  | .arr a1 a2, b, h => by
    cases b with
    | arr c d =>
      obtain ⟨h1, h2⟩ := lessK_arr h
      exact fits_of_arr (less_fits h1) (less_fits h2)
    | _ => cases h
/-- two types that know no more than a third one fit -/
theorem less_fits2 : ∀ {a b c : Ty}, lessK a c = true → lessK b c = true → fits a b = true
  | .any, b, _, _, _ => fits_any b
  | .int, b, c, h, h2 => by
    cases c with
    | int => cases b <;> first | rfl | cases h2
    | _ => cases h
  | .bool, b, c, h, h2 => by
    cases c with
    | bool => cases b <;> first | rfl | cases h2
    | _ => cases h
  | .arr a1 a2, b, c, h, h2 => by
    cases c with
    | arr c1 c2 =>
      cases b with
      | any => rfl
      | arr b1 b2 =>
        obtain ⟨q1, q2⟩ := lessK_arr h
        obtain ⟨r1, r2⟩ := lessK_arr h2
        exact fits_of_arr (less_fits2 q1 r1) (less_fits2 q2 r2)
      | _ => cases h2
    | _ => cases h
def common : Ty → Ty → Option Ty
  | .any, b => some b
  | a, .any => some a
  | .arr a b, .arr c d => match common a c, common b d with
    | some x, some y => some (.arr x y)
    | _, _ => none
  | a, b => if a = b then some a else none
theorem common_any (b : Ty) : common .any b = some b := by cases b <;> rfl
theorem common_fits : ∀ {a b : Ty}, fits a b = true → ∃ c, common a b = some c
  | .any, b, _ => ⟨b, common_any b⟩
  | .int, b, h => by cases b <;> first | exact ⟨_, rfl⟩ | cases h
  | .bool, b, h => by cases b <;> first | exact ⟨_, rfl⟩ | cases h
  | .arr a1 a2, b, h => by
    cases b with
    | any => exact ⟨_, rfl⟩
    | arr c d =>
      obtain ⟨h1, h2⟩ := fits_arr h
      obtain ⟨x, e1⟩ := common_fits h1
      obtain ⟨y, e2⟩ := common_fits h2
      exact ⟨.arr x y, by unfold common; rw [e1, e2]⟩
    | _ => cases h
theorem common_less : ∀ {a b : Ty}, lessK a b = true → common a b = some b
  | .any, b, _ => common_any b
  | .int, b, h => by cases b <;> first | rfl | cases h
  | .bool, b, h => by cases b <;> first | rfl | cases h
  | .arr a1 a2, b, h => by
    cases b with
    | arr c d =>
      obtain ⟨h1, h2⟩ := lessK_arr h
      unfold common
      rw [common_less h1, common_less h2]
    | _ => cases h
/-- what two types have in common fits both -/
theorem common_to : ∀ {a b c : Ty}, common a b = some c → fits a c = true ∧ fits b c = true
  | .any, b, c, h => by rw [common_any] at h; cases h; exact ⟨fits_any _, fits_refl _⟩
  | .int, b, c, h => by
    cases b with
    | int => cases h; exact ⟨rfl, rfl⟩
    | any => cases h; exact ⟨rfl, rfl⟩
    | _ => cases h
  | .bool, b, c, h => by
    cases b with
    | bool => cases h; exact ⟨rfl, rfl⟩
    | any => cases h; exact ⟨rfl, rfl⟩
    | _ => cases h
  | .arr a1 a2, b, c, h => by
    cases b with
    | any => cases h; exact ⟨fits_refl _, fits_any _⟩
    | arr b1 b2 =>
      unfold common at h
      split at h
      · rename_i x y e1 e2
        cases h
        obtain ⟨p1, p2⟩ := common_to e1
        obtain ⟨q1, q2⟩ := common_to e2
        exact ⟨fits_of_arr p1 q1, fits_of_arr p2 q2⟩
      · cases h
    | _ => cases h

def WHOLE : Int := 4294967296
def reckon : Sg → Int → Int → Vl
  | .eq, i, j => .bool (decide (i = j))
  | .lt, i, j => .bool (decide (i < j))
  | .add, i, j => .int ((i + j) % WHOLE)
  | .sub, i, j => .int ((i - j) % WHOLE)
  | .mul, i, j => .int ((i * j) % WHOLE)
inductive R where
  | done (v : Vl) (n : Nat) | blame (l : List Int) (p : Bool) (n : Nat) | tired | stuck
def R.bind (r : R) (f : Vl → Nat → R) : R := match r with
  | .done v n => f v n
  | .blame l p n => .blame l p n
  | .tired => .tired
  | .stuck => .stuck
structure Ev where
  run : Nat → Tm → Env → R
  called : Nat → Vl → Vl → R
  changed : Nat → Vl → Ty → Ty → List Int → Bool → R
def runS (E : Ev) (m : Nat) : Tm → Env → R
  | .int i, _ => .done (.int i) m
  | .bool b, _ => .done (.bool b) m
  | .var x, env => match env x with
    | some v => .done v m
    | none => .stuck
  | .lam x _ b, env => .done (.clos x b env) m
  | .app f a, env => (E.run m f env).bind fun v m => (E.run m a env).bind fun w m => E.called m v w
  | .ite c a b, env => (E.run m c env).bind fun v m => match v with
    | .bool true => E.run m a env
    | .bool false => E.run m b env
    | _ => .stuck
  | .op g a b, env => (E.run m a env).bind fun v m => (E.run m b env).bind fun w m => match v, w with
    | .int i, .int j => .done (reckon g i j) m
    | _, _ => .stuck
  | .lt x e b, env => (E.run m e env).bind fun v m => E.run m b (put env x v)
  | .as _ _, _ => .stuck
  | .cast e a b l, env => (E.run m e env).bind fun v m => E.changed m v a b l true
def calledS (E : Ev) (n : Nat) : Vl → Vl → R
  | .clos x b env, w => E.run n b (put env x w)
  | .wrap f (.arr a b) (.arr c d) l p, w => (E.changed n w c a l (!p)).bind fun w n => (E.called n f w).bind fun r n => E.changed n r b d l p
  | _, _ => .stuck
def toAny (E : Ev) (m : Nat) (v : Vl) (a : Ty) (l : List Int) (p : Bool) : R :=
  match a with
  | .arr _ _ => if a ≠ gen then match E.changed m v a gen l p with
      | .done v m => .done (.tag v gen) m
      | .tired => .tired
      | _ => .stuck
    else .done (.tag v gen) m
  | _ => .done (.tag v a) m
def fromAny (E : Ev) (m : Nat) (v : Vl) (b : Ty) (l : List Int) (p : Bool) : R :=
  match v with
  | .tag w own => if own.hd ≠ b.hd then .blame l p m else E.changed m w own b l p
  | _ => .stuck
def changedS (E : Ev) (m : Nat) (v : Vl) (a b : Ty) (l : List Int) (p : Bool) : R :=
  if a = b then .done v m else match a, b with
    | .arr a1 a2, .arr b1 b2 => .done (.wrap v (.arr a1 a2) (.arr b1 b2) l p) m
    | a, .any => toAny E m v a l p
    | _, b => fromAny E m v b l p
def ev : Nat → Ev
  | 0 => ⟨fun _ _ _ => .stuck, fun _ _ _ => .stuck, fun _ _ _ _ _ _ => .stuck⟩
  | d + 1 => ⟨fun n t env => match n with
      | 0 => .tired
      | m + 1 => runS (ev d) m t env, calledS (ev d), fun n v a b l p => match n with
      | 0 => .tired
      | m + 1 => changedS (ev d) m v a b l p⟩

def OkR (P : Vl → Prop) : R → Prop
  | .done v _ => P v
  | .blame _ _ _ => False
  | _ => True
theorem OkR.bind {P Q : Vl → Prop} {r : R} {f : Vl → Nat → R} (h : OkR P r) (k : ∀ v n, P v → OkR Q (f v n)) : OkR Q (r.bind f) := by
  cases r with
  | done v n => exact k v n h
  | blame l p n => exact h.elim
  | tired => trivial
  | stuck => trivial
theorem R.done_inv {r : R} {f : Vl → Nat → R} {v : Vl} {n : Nat} (h : r.bind f = .done v n) : ∃ w m, r = .done w m ∧ f w m = .done v n := by
  cases r with
  | done w m => exact ⟨w, m, rfl, h⟩
  | _ => cases h
def FnR (A : Vl → Vl → Prop) (B : Vl → Vl → Prop) (v v' : Vl) : Prop := ∀ w w', A w w' → ∀ r d n n', (ev d).called n v w = .done r n' → ∀ d2 n2, OkR (B r) ((ev d2).called n2 v' w')
/-- k the whole type of the left one; u what is known of it on the right -/
def LR : Ty → Ty → Vl → Vl → Prop
  | .int, .int, v, v' => ∃ i, v = .int i ∧ v' = .int i
  | .int, .any, v, v' => ∃ i, v = .int i ∧ v' = .tag (.int i) .int
  | .bool, .bool, v, v' => ∃ i, v = .bool i ∧ v' = .bool i
  | .bool, .any, v, v' => ∃ i, v = .bool i ∧ v' = .tag (.bool i) .bool
  | .arr a b, .any, v, v' => ∃ w, v' = .tag w gen ∧ FnR (LR a .any) (LR b .any) v w
  | .arr a b, .arr a1 b1, v, v' => FnR (LR a a1) (LR b b1) v v'
  | _, _, _, _ => False
/-- no part of it is unknown -/
def Ty.full : Ty → Bool
  | .any => false
  | .arr a b => a.full && b.full
  | _ => true
theorem cast_ok : ∀ (k u1 u2 : Ty) (v v' : Vl), lessK u1 k = true → lessK u2 k = true → LR k u1 v v' → ∀ (d n : Nat) (l : List Int) (p : Bool), OkR (LR k u2 v) ((ev d).changed n v' u1 u2 l p)
  | k, u1, u2, v, v', h1, h2, r, 0, n, l, p => trivial
  | k, u1, u2, v, v', h1, h2, r, d + 1, 0, l, p => trivial
  | k, u1, u2, v, v', h1, h2, r, d + 1, n + 1, l, p => by
    show OkR _ (changedS (ev d) n v' u1 u2 l p)
    unfold changedS
    by_cases e : u1 = u2
    · rw [if_pos e]
      subst e
      exact r
    · rw [if_neg e]
      cases k with
      | any => cases u1 <;> simp only [LR] at r
      | int =>
        cases u1 with
        | int =>
          cases u2 with
          | int => exact absurd rfl e
          | any =>
            simp only [LR] at r
            obtain ⟨i, rfl, rfl⟩ := r
            exact ⟨i, rfl, rfl⟩
          | _ => cases h2
        | any =>
          cases u2 with
          | any => exact absurd rfl e
          | int =>
            simp only [LR] at r
            obtain ⟨i, rfl, rfl⟩ := r
            show OkR _ (if (0 : Nat) ≠ 0 then .blame l p n else (ev d).changed n (.int i) .int .int l p)
            rw [if_neg (by decide)]
            cases d with
            | zero => trivial
            | succ d =>
              cases n with
              | zero => trivial
              | succ n =>
                show OkR _ (changedS (ev d) n (.int i) .int .int l p)
                unfold changedS
                rw [if_pos rfl]
                exact ⟨i, rfl, rfl⟩
          | _ => cases h2
        | _ => cases h1
      | bool =>
        cases u1 with
        | bool =>
          cases u2 with
          | bool => exact absurd rfl e
          | any =>
            simp only [LR] at r
            obtain ⟨i, rfl, rfl⟩ := r
            exact ⟨i, rfl, rfl⟩
          | _ => cases h2
        | any =>
          cases u2 with
          | any => exact absurd rfl e
          | bool =>
            simp only [LR] at r
            obtain ⟨i, rfl, rfl⟩ := r
            show OkR _ (if (1 : Nat) ≠ 1 then .blame l p n else (ev d).changed n (.bool i) .bool .bool l p)
            rw [if_neg (by decide)]
            cases d with
            | zero => trivial
            | succ d =>
              cases n with
              | zero => trivial
              | succ n =>
                show OkR _ (changedS (ev d) n (.bool i) .bool .bool l p)
                unfold changedS
                rw [if_pos rfl]
                exact ⟨i, rfl, rfl⟩
          | _ => cases h2
        | _ => cases h1
      | arr a b =>
        -- wrapped functions
        have wr : ∀ (a1 b1 a2 b2 : Ty) (w : Vl), lessK a1 a = true → lessK b1 b = true → lessK a2 a = true → lessK b2 b = true → FnR (LR a a1) (LR b b1) v w → FnR (LR a a2) (LR b b2) v (.wrap w (.arr a1 b1) (.arr a2 b2) l p) := by
          intro a1 b1 a2 b2 w g1 g2 g3 g4 hf x x' hx r0 d0 n0 n0' hc d2 n2
          cases d2 with
          | zero => trivial
          | succ d2 =>
            show OkR _ (((ev d2).changed n2 x' a2 a1 l (!p)).bind fun w' n => ((ev d2).called n w w').bind fun r n => (ev d2).changed n r b1 b2 l p)
            refine (cast_ok a a2 a1 x x' g3 g1 hx d2 n2 l (!p)).bind fun y m hy => ?_
            refine (hf x y hy r0 d0 n0 n0' hc d2 m).bind fun z m2 hz => ?_
            exact cast_ok b b1 b2 r0 z g2 g4 hz d2 m2 l p
        have arrow : ∀ (a1 b1 a2 b2 : Ty) (w : Vl) (d n : Nat), lessK a1 a = true → lessK b1 b = true → lessK a2 a = true → lessK b2 b = true → FnR (LR a a1) (LR b b1) v w → OkR (FnR (LR a a2) (LR b b2) v) ((ev d).changed n w (.arr a1 b1) (.arr a2 b2) l p) := by
          intro a1 b1 a2 b2 w d n g1 g2 g3 g4 hf
          cases d with
          | zero => trivial
          | succ d =>
            cases n with
            | zero => trivial
            | succ n =>
              show OkR _ (changedS (ev d) n w (.arr a1 b1) (.arr a2 b2) l p)
              unfold changedS
              by_cases e : Ty.arr a1 b1 = .arr a2 b2
              · rw [if_pos e]
                cases e
                exact hf
              · rw [if_neg e]
                exact wr a1 b1 a2 b2 w g1 g2 g3 g4 hf
        have la : lessK .any a = true := by cases a <;> rfl
        have lb : lessK .any b = true := by cases b <;> rfl
        cases u1 with
        | any =>
          simp only [LR] at r
          obtain ⟨w, rfl, hf⟩ := r
          cases u2 with
          | any => exact absurd rfl e
          | arr a2 b2 =>
            obtain ⟨g1, g2⟩ := lessK_arr h2
            show OkR _ (if (3 : Nat) ≠ 3 then .blame l p n else (ev d).changed n w gen (.arr a2 b2) l p)
            rw [if_neg (by decide)]
            have := arrow .any .any a2 b2 w d n la lb g1 g2 hf
            simp only [LR]
            exact this
          | _ => cases h2
        | arr a1 b1 =>
          obtain ⟨g1, g2⟩ := lessK_arr h1
          simp only [LR] at r
          cases u2 with
          | any =>
            show OkR _ (toAny (ev d) n v' (.arr a1 b1) l p)
            unfold toAny
            dsimp only
            by_cases eg : Ty.arr a1 b1 ≠ gen
            · rw [if_pos eg]
              have := arrow a1 b1 .any .any v' d n g1 g2 la lb r
              revert this
              cases (ev d).changed n v' (.arr a1 b1) gen l p with
              | done w m => intro h; exact ⟨w, rfl, h⟩
              | blame _ _ _ => intro h; exact h.elim
              | tired => intro _; trivial
              | stuck => intro _; trivial
            · rw [if_neg eg]
              have eg' : Ty.arr a1 b1 = gen := Decidable.of_not_not eg
              cases eg'
              exact ⟨v', rfl, r⟩
          | arr a2 b2 =>
            obtain ⟨g3, g4⟩ := lessK_arr h2
            simp only [LR]
            exact wr a1 b1 a2 b2 v' g1 g2 g3 g4 r
          | _ => cases h2
        | _ => cases h1
end Zk44

namespace Zk44
open PySem L2 Z
theorem put_eq {α : Type} {e : Str → Option α} {x y : Str} {v : α} : put e x v y = if y = x then some v else e y := rfl
inductive ST : Cx → Tm → Ty → Prop where
  | int {Γ : Cx} {i : Int} : 0 ≤ i → i < WHOLE → ST Γ (.int i) .int
  | bool {Γ : Cx} {b : Bool} : ST Γ (.bool b) .bool
  | var {Γ : Cx} {x : Str} {t : Ty} : Γ x = some t → ST Γ (.var x) t
  | lam {Γ : Cx} {x : Str} {a t : Ty} {b : Tm} : ST (put Γ x a) b t → ST Γ (.lam x a b) (.arr a t)
  | app {Γ : Cx} {f e : Tm} {a b : Ty} : ST Γ f (.arr a b) → ST Γ e a → ST Γ (.app f e) b
  | ite {Γ : Cx} {c a b : Tm} {t : Ty} : ST Γ c .bool → ST Γ a t → ST Γ b t → ST Γ (.ite c a b) t
  | add {Γ : Cx} {a b : Tm} : ST Γ a .int → ST Γ b .int → ST Γ (.op .add a b) .int
  | ltt {Γ : Cx} {a b : Tm} : ST Γ a .int → ST Γ b .int → ST Γ (.op .lt a b) .bool
def ER (Γ : Cx) (e e' : Env) : Prop := ∀ x t, Γ x = some t → ∃ v v', e x = some v ∧ e' x = some v' ∧ LR t t v v'
theorem ER.put {Γ : Cx} {e e' : Env} {x : Str} {t : Ty} {v v' : Vl} (h : ER Γ e e') (r : LR t t v v') : ER (put Γ x t) (put e x v) (put e' x v') := fun y u hu => by
  rw [put_eq] at hu
  rw [put_eq, put_eq]
  by_cases c : y = x
  · rw [if_pos c] at hu ⊢
    cases hu
    exact ⟨v, v', rfl, by rw [if_pos c], r⟩
  · rw [if_neg c] at hu ⊢
    obtain ⟨w, w', a, b, r⟩ := h y u hu
    exact ⟨w, w', a, by rw [if_neg c]; exact b, r⟩
def Rel (k u : Ty) (e e' : Env) (t t' : Tm) : Prop := ∀ v d n n', (ev d).run n t e = .done v n' → ∀ d2 n2, OkR (LR k u v) ((ev d2).run n2 t' e')
/-- one level down -/
theorem run_inv {d n : Nat} {t : Tm} {e : Env} {v : Vl} {n' : Nat} (h : (ev d).run n t e = .done v n') : ∃ d1 m, d = d1 + 1 ∧ n = m + 1 ∧ runS (ev d1) m t e = .done v n' := by
  cases d with
  | zero => cases h
  | succ d =>
    cases n with
    | zero => cases h
    | succ m => exact ⟨d, m, rfl, rfl, h⟩
theorem run_ok {P : Vl → Prop} {t : Tm} {e : Env} (h : ∀ d m, OkR P (runS (ev d) m t e)) : ∀ d n, OkR P ((ev d).run n t e)
  | 0, _ => trivial
  | d + 1, 0 => trivial
  | d + 1, n + 1 => h d n
theorem Rel.app {a b : Ty} {e e' : Env} {f f' x x' : Tm} (hf : Rel (.arr a b) (.arr a b) e e' f f') (hx : Rel a a e e' x x') : Rel b b e e' (.app f x) (.app f' x') := fun v d n n' h => by
  obtain ⟨d1, m, rfl, rfl, h⟩ := run_inv h
  obtain ⟨g, m1, h1, h⟩ := R.done_inv h
  obtain ⟨w, m2, h2, h⟩ := R.done_inv h
  refine run_ok fun d2 m' => ?_
  refine (hf g d1 m m1 h1 d2 m').bind fun g' m1' rg => ?_
  refine (hx w d1 m1 m2 h2 d2 m1').bind fun w' m2' rw' => ?_
  exact rg w w' rw' v d1 m2 n' h d2 m2'
theorem Rel.cast {k u1 u2 : Ty} {e e' : Env} {t t' : Tm} {l : List Int} (h : Rel k u1 e e' t t') (h1 : lessK u1 k = true) (h2 : lessK u2 k = true) : Rel k u2 e e' t (.cast t' u1 u2 l) := fun v d n n' hr => by
  refine run_ok fun d2 m' => ?_
  exact (h v d n n' hr d2 m').bind fun v' m1 r => cast_ok k u1 u2 v v' h1 h2 r d2 m1 l true
theorem LR.int {v v' : Vl} (h : LR .int .int v v') : ∃ i, v = .int i ∧ v' = .int i := by simp only [LR] at h; exact h
theorem LR.bool {v v' : Vl} (h : LR .bool .bool v v') : ∃ i, v = .bool i ∧ v' = .bool i := by simp only [LR] at h; exact h
theorem runS_var {E : Ev} {m : Nat} {x : Str} {env : Env} {v : Vl} (h : env x = some v) : runS E m (.var x) env = .done v m := by
  show (match env x with
    | some v => R.done v m
    | none => .stuck) = _
  rw [h]
theorem fund {Γ : Cx} {t : Tm} {k : Ty} (h : ST Γ t k) : ∀ {e e' : Env}, ER Γ e e' → Rel k k e e' t t := by
  induction h with
  | int h1 h2 =>
    intro e e' r v d n n' h
    obtain ⟨d1, m, rfl, rfl, h⟩ := run_inv h
    cases h
    exact run_ok fun d2 m' => by
      show LR .int .int _ _
      simp only [LR]
      exact ⟨_, rfl, rfl⟩
  | bool =>
    intro e e' r v d n n' h
    obtain ⟨d1, m, rfl, rfl, h⟩ := run_inv h
    cases h
    exact run_ok fun d2 m' => by
      show LR .bool .bool _ _
      simp only [LR]
      exact ⟨_, rfl, rfl⟩
  | @var Γ x t hx =>
    intro e e' r v d n n' h
    obtain ⟨d1, m, rfl, rfl, hh⟩ := run_inv h
    obtain ⟨w, w', a, b, r⟩ := r x t hx
    refine run_ok fun d2 m' => ?_
    rw [runS_var b]
    rw [runS_var a] at hh
    cases hh
    exact r
  | @lam Γ x a t b hb ih =>
    intro e e' r v d n n' h
    obtain ⟨d1, m, rfl, rfl, h⟩ := run_inv h
    cases h
    refine run_ok fun d2 m' => ?_
    show LR (.arr a t) (.arr a t) _ _
    simp only [LR]
    intro w w' rw' r0 d0 n0 n0' hc d2 n2
    cases d0 with
    | zero => cases hc
    | succ d0 =>
      cases d2 with
      | zero => trivial
      | succ d2 => exact ih (r.put rw') r0 d0 n0 n0' hc d2 n2
  | app hf hx ih1 ih2 => intro e e' r; exact (ih1 r).app (ih2 r)
  | ite hc ha hb ih1 ih2 ih3 =>
    intro e e' r v d n n' h
    obtain ⟨d1, m, rfl, rfl, h⟩ := run_inv h
    obtain ⟨g, m1, h1, h⟩ := R.done_inv h
    refine run_ok fun d2 m' => ?_
    refine (ih1 r g d1 m m1 h1 d2 m').bind fun g' m1' rg => ?_
    obtain ⟨i, rfl, rfl⟩ := rg.bool
    cases i with
    | true => exact ih2 r v d1 m1 n' h d2 m1'
    | false => exact ih3 r v d1 m1 n' h d2 m1'
  | add ha hb ih1 ih2 =>
    intro e e' r v d n n' h
    obtain ⟨d1, m, rfl, rfl, h⟩ := run_inv h
    obtain ⟨g, m1, h1, h⟩ := R.done_inv h
    obtain ⟨w, m2, h2, h⟩ := R.done_inv h
    refine run_ok fun d2 m' => ?_
    refine (ih1 r g d1 m m1 h1 d2 m').bind fun g' m1' rg => ?_
    refine (ih2 r w d1 m1 m2 h2 d2 m1').bind fun w' m2' rw' => ?_
    obtain ⟨i, rfl, rfl⟩ := rg.int
    obtain ⟨j, rfl, rfl⟩ := rw'.int
    cases h
    show LR .int .int _ _
    simp only [LR]
    exact ⟨_, rfl, rfl⟩
  | ltt ha hb ih1 ih2 =>
    intro e e' r v d n n' h
    obtain ⟨d1, m, rfl, rfl, h⟩ := run_inv h
    obtain ⟨g, m1, h1, h⟩ := R.done_inv h
    obtain ⟨w, m2, h2, h⟩ := R.done_inv h
    refine run_ok fun d2 m' => ?_
    refine (ih1 r g d1 m m1 h1 d2 m').bind fun g' m1' rg => ?_
    refine (ih2 r w d1 m1 m2 h2 d2 m1').bind fun w' m2' rw' => ?_
    obtain ⟨i, rfl, rfl⟩ := rg.int
    obtain ⟨j, rfl, rfl⟩ := rw'.int
    cases h
    show LR .bool .bool _ _
    simp only [LR]
    exact ⟨_, rfl, rfl⟩

def Ty.dep : Ty → Nat
  | .arr a b => 1 + max a.dep b.dep
  | _ => 0
abbrev DB : Nat := 38
def Sg.ty : Sg → Ty
  | .lt => .bool
  | .eq => .bool
  | _ => .int
inductive WT (S : List Int → Prop) : Cx → Tm → Ty → Prop where
  | int {Γ : Cx} {i : Int} : 0 ≤ i → i < WHOLE → WT S Γ (.int i) .int
  | bool {Γ : Cx} {b : Bool} : WT S Γ (.bool b) .bool
  | var {Γ : Cx} {x : Str} {t : Ty} : Γ x = some t → WT S Γ (.var x) t
  | lam {Γ : Cx} {x : Str} {a t : Ty} {b : Tm} : WT S (put Γ x a) b t → WT S Γ (.lam x a b) (.arr a t)
  | app {Γ : Cx} {f e : Tm} {a b : Ty} : WT S Γ f (.arr a b) → WT S Γ e a → WT S Γ (.app f e) b
  | ite {Γ : Cx} {c a b : Tm} {t : Ty} : WT S Γ c .bool → WT S Γ a t → WT S Γ b t → WT S Γ (.ite c a b) t
  | op {Γ : Cx} {g : Sg} {a b : Tm} : WT S Γ a .int → WT S Γ b .int → WT S Γ (.op g a b) g.ty
  | lt {Γ : Cx} {x : Str} {e b : Tm} {a t : Ty} : WT S Γ e a → WT S (put Γ x a) b t → WT S Γ (.lt x e b) t
  | cast {Γ : Cx} {e : Tm} {a b : Ty} {l : List Int} : WT S Γ e a → fits a b = true → a.dep ≤ DB → b.dep ≤ DB → S l → WT S Γ (.cast e a b l) b
inductive VT (S : List Int → Prop) : Vl → Ty → Prop where
  | int {i : Int} : 0 ≤ i → i < WHOLE → VT S (.int i) .int
  | bool {b : Bool} : VT S (.bool b) .bool
  | clos {Γ : Cx} {g : Str → Vl} {x : Str} {b : Tm} {env : Env} {a t : Ty} : (∀ y t, Γ y = some t → env y = some (g y)) → (∀ y t, Γ y = some t → VT S (g y) t) → WT S (put Γ x a) b t → VT S (.clos x b env) (.arr a t)
  | wrap {f : Vl} {a b c d : Ty} {l : List Int} {p : Bool} : VT S f (.arr a b) → fits (.arr a b) (.arr c d) = true → (Ty.arr a b).dep ≤ DB → (Ty.arr c d).dep ≤ DB → S l → VT S (.wrap f (.arr a b) (.arr c d) l p) (.arr c d)
  | tag {v : Vl} {t : Ty} : VT S v t → (t = .int ∨ t = .bool ∨ t = gen) → VT S (.tag v t) .any
def ET (S : List Int → Prop) (Γ : Cx) (e : Env) : Prop := ∀ y t, Γ y = some t → ∃ v, e y = some v ∧ VT S v t
theorem ET.put {S : List Int → Prop} {Γ : Cx} {e : Env} {x : Str} {t : Ty} {v : Vl} (h : ET S Γ e) (r : VT S v t) : ET S (put Γ x t) (put e x v) := fun y u hu => by
  rw [put_eq] at hu
  rw [put_eq]
  by_cases c : y = x
  · rw [if_pos c] at hu ⊢
    cases hu
    exact ⟨v, rfl, r⟩
  · rw [if_neg c] at hu ⊢
    exact h y u hu
theorem ET.clos {S : List Int → Prop} {Γ : Cx} {x : Str} {b : Tm} {env : Env} {a t : Ty} (h : ET S Γ env) (w : WT S (Zk44.put Γ x a) b t) : VT S (.clos x b env) (.arr a t) := by
  refine .clos (Γ := Γ) (g := fun y => (env y).getD (.int 0)) (fun y t hy => ?_) (fun y t hy => ?_) w
  · obtain ⟨v, e, _⟩ := h y t hy
    rw [e] <;> rfl
  · obtain ⟨v, e, r⟩ := h y t hy
    rw [e]
    exact r
def GR (S : List Int → Prop) (P : Vl → Prop) (n : Nat) : R → Prop
  | .done v m => P v ∧ m < n
  | .blame l _ _ => S l
  | .tired => True
  | .stuck => False
theorem GR.bind {S : List Int → Prop} {P Q : Vl → Prop} {n k : Nat} {r : R} {f : Vl → Nat → R} (h : GR S P n r) (q : ∀ v m, P v → m < n → GR S Q k (f v m)) : GR S Q k (r.bind f) := by
  cases r with
  | done v m => exact q v m h.1 h.2
  | blame l p m => exact h
  | tired => trivial
  | stuck => exact h.elim
theorem GR.mono {S : List Int → Prop} {P : Vl → Prop} {n k : Nat} {r : R} (h : GR S P n r) (hk : n ≤ k) : GR S P k r := by
  cases r with
  | done v m => exact ⟨h.1, Nat.lt_of_lt_of_le h.2 hk⟩
  | _ => exact h
theorem VT.inv_arr {S : List Int → Prop} {v : Vl} {a b : Ty} (h : VT S v (.arr a b)) : (∃ Γ x t env, v = .clos x t env ∧ ET S Γ env ∧ WT S (Zk44.put Γ x a) t b) ∨ ∃ f c d l p, v = .wrap f (.arr c d) (.arr a b) l p ∧ VT S f (.arr c d) ∧ fits (.arr c d) (.arr a b) = true ∧ (Ty.arr c d).dep ≤ DB ∧ (Ty.arr a b).dep ≤ DB ∧ S l := by
  cases h with
  | clos h1 h2 h3 => exact .inl ⟨_, _, _, _, rfl, fun y t hy => ⟨_, h1 y t hy, h2 y t hy⟩, h3⟩
  | wrap h1 h2 h3 h4 h5 => exact .inr ⟨_, _, _, _, _, rfl, h1, h2, h3, h4, h5⟩
theorem reckon_ty {S : List Int → Prop} (g : Sg) (i j : Int) : VT S (reckon g i j) g.ty := by
  have hw : (0 : Int) < WHOLE := by decide
  cases g with
  | add => exact .int (Int.emod_nonneg _ (by decide)) (Int.emod_lt_of_pos _ hw)
  | sub => exact .int (Int.emod_nonneg _ (by decide)) (Int.emod_lt_of_pos _ hw)
  | mul => exact .int (Int.emod_nonneg _ (by decide)) (Int.emod_lt_of_pos _ hw)
  | lt => exact .bool
  | eq => exact .bool
theorem dep_arr {a b : Ty} (h : (Ty.arr a b).dep ≤ DB) : a.dep ≤ DB ∧ b.dep ≤ DB := by
  simp only [Ty.dep] at h
  omega
theorem sound (S : List Int → Prop) : ∀ d : Nat, (∀ n t Γ env k, WT S Γ t k → ET S Γ env → n + 1 ≤ d → GR S (VT S · k) n ((ev d).run n t env)) ∧
    (∀ n f w a b, VT S f (.arr a b) → VT S w a → n + 2 ≤ d → GR S (VT S · b) n ((ev d).called n f w)) ∧
    (∀ n v a b l p, VT S v a → fits a b = true → a.dep ≤ DB → b.dep ≤ DB → S l → n + 1 ≤ d → GR S (VT S · b) n ((ev d).changed n v a b l p))
  | 0 => ⟨fun n t Γ env k _ _ h => absurd h (by omega), fun n f w a b _ _ h => absurd h (by omega), fun n v a b l p _ _ _ _ _ h => absurd h (by omega)⟩
  | d + 1 => by
    obtain ⟨ih1, ih2, ih3⟩ := sound S d
    refine ⟨fun n t Γ env k w he hd => ?_, fun n f w a b hf hw hd => ?_, fun n v a b l p hv hfit da db sl hd => ?_⟩
    · cases n with
      | zero => trivial
      | succ m =>
        show GR S _ (m + 1) (runS (ev d) m t env)
        cases w with
        | int h1 h2 => exact ⟨.int h1 h2, Nat.lt_succ_self m⟩
        | bool => exact ⟨.bool, Nat.lt_succ_self m⟩
        | var hx =>
          obtain ⟨v, e, r⟩ := he _ _ hx
          rw [runS_var e]
          exact ⟨r, Nat.lt_succ_self m⟩
        | lam hb => exact ⟨he.clos hb, Nat.lt_succ_self m⟩
        | app hf hx =>
          refine (ih1 m _ _ _ _ hf he (by omega)).bind fun g m1 hg l1 => ?_
          refine (ih1 m1 _ _ _ _ hx he (by omega)).bind fun y m2 hy l2 => ?_
          exact (ih2 m2 _ _ _ _ hg hy (by omega)).mono (by omega)
        | ite hc ha hb =>
          refine (ih1 m _ _ _ _ hc he (by omega)).bind fun g m1 hg l1 => ?_
          cases hg with
          | @bool i =>
            cases i with
            | true => exact (ih1 m1 _ _ _ _ ha he (by omega)).mono (by omega)
            | false => exact (ih1 m1 _ _ _ _ hb he (by omega)).mono (by omega)
        | op ha hb =>
          refine (ih1 m _ _ _ _ ha he (by omega)).bind fun g m1 hg l1 => ?_
          refine (ih1 m1 _ _ _ _ hb he (by omega)).bind fun y m2 hy l2 => ?_
          cases hg
          cases hy
          exact ⟨reckon_ty _ _ _, by omega⟩
        | lt hx hb =>
          refine (ih1 m _ _ _ _ hx he (by omega)).bind fun g m1 hg l1 => ?_
          exact (ih1 m1 _ _ _ _ hb (he.put hg) (by omega)).mono (by omega)
        | cast hx hf d1 d2 sl =>
          refine (ih1 m _ _ _ _ hx he (by omega)).bind fun g m1 hg l1 => ?_
          exact (ih3 m1 _ _ _ _ _ hg hf d1 d2 sl (by omega)).mono (by omega)
    · show GR S _ n (calledS (ev d) n f w)
      rcases hf.inv_arr with ⟨Γ, x, t, env, rfl, he, hb⟩ | ⟨g, c, e, l, p, rfl, hg, hfit, d1, d2, sl⟩
      · exact ih1 n _ _ _ _ hb (he.put hw) (by omega)
      · obtain ⟨f1, f2⟩ := fits_arr hfit
        obtain ⟨a1, a2⟩ := dep_arr d1
        obtain ⟨b1, b2⟩ := dep_arr d2
        refine (ih3 n _ _ _ _ _ hw (fits_comm f1) b1 a1 sl (by omega)).bind fun y m hy l1 => ?_
        refine (ih2 m _ _ _ _ hg hy (by omega)).bind fun z m2 hz l2 => ?_
        exact (ih3 m2 _ _ _ _ _ hz f2 a2 b2 sl (by omega)).mono (by omega)
    · cases n with
      | zero => trivial
      | succ m =>
        show GR S _ (m + 1) (changedS (ev d) m v a b l p)
        unfold changedS
        by_cases e : a = b
        · rw [if_pos e]
          subst e
          exact ⟨hv, Nat.lt_succ_self m⟩
        · rw [if_neg e]
          have from_ : ∀ b, fits .any b = true → b ≠ .any → b.dep ≤ DB → VT S v .any → GR S (VT S · b) (m + 1) (fromAny (ev d) m v b l p) := fun b _ nb db hv => by
            cases hv with
            | @tag w own hw hg =>
              show GR S _ _ (if own.hd ≠ b.hd then .blame l p m else (ev d).changed m w own b l p)
              by_cases c : own.hd ≠ b.hd
              · rw [if_pos c]
                exact sl
              · rw [if_neg c]
                have c' : own.hd = b.hd := Decidable.of_not_not c
                refine (ih3 m _ _ _ _ _ hw ?_ ?_ db sl (by omega)).mono (by omega)
                · rcases hg with rfl | rfl | rfl
                  · cases b <;> first | rfl | cases c'
                  · cases b <;> first | rfl | cases c'
                  · cases b with
                    | arr x y => exact fits_of_arr (fits_any _) (fits_any _)
                    | _ => cases c'
                · rcases hg with rfl | rfl | rfl <;> decide
          cases a with
          | int =>
            cases b with
            | int => exact absurd rfl e
            | any => exact ⟨.tag hv (.inl rfl), Nat.lt_succ_self m⟩
            | _ => cases hfit
          | bool =>
            cases b with
            | bool => exact absurd rfl e
            | any => exact ⟨.tag hv (.inr (.inl rfl)), Nat.lt_succ_self m⟩
            | _ => cases hfit
          | any =>
            cases b with
            | any => exact absurd rfl e
            | int => exact from_ _ hfit (by decide) db hv
            | bool => exact from_ _ hfit (by decide) db hv
            | arr x y => exact from_ _ hfit (by intro h; cases h) db hv
          | arr a1 a2 =>
            cases b with
            | any =>
              show GR S _ _ (toAny (ev d) m v (.arr a1 a2) l p)
              unfold toAny
              dsimp only
              by_cases eg : Ty.arr a1 a2 ≠ gen
              · rw [if_pos eg]
                cases d with
                | zero => omega
                | succ d =>
                  cases m with
                  | zero => trivial
                  | succ m =>
                    show GR S _ _ (match changedS (ev d) m v (.arr a1 a2) gen l p with
                      | .done v m => .done (.tag v gen) m
                      | .tired => .tired
                      | _ => .stuck)
                    unfold changedS
                    rw [if_neg eg]
                    exact ⟨.tag (.wrap hv (fits_of_arr (fits_anyR _) (fits_anyR _)) da (by decide) sl) (.inr (.inr rfl)), by omega⟩
              · rw [if_neg eg]
                have eg' : Ty.arr a1 a2 = gen := Decidable.of_not_not eg
                rw [eg'] at hv
                exact ⟨.tag hv (.inr (.inr rfl)), Nat.lt_succ_self m⟩
            | arr b1 b2 => exact ⟨.wrap hv hfit da db sl, Nat.lt_succ_self m⟩
            | _ => cases hfit
end Zk44

namespace Zk44
open PySem L2 Z
def castP (e : Tm) (a b : Ty) (l : List Int) : Option Tm := if fits a b = true then some (if a = b then e else .cast e a b l) else none
def find : Tm → Zk44.Cx → List Int → Option (Ty × Tm)
  | .int i, _, _ => some (.int, .int i)
  | .bool b, _, _ => some (.bool, .bool b)
  | .var x, Γ, _ => match Γ x with
    | some t => some (t, .var x)
    | none => none
  | .lam x a b, Γ, p => match find b (put Γ x a) (p ++ [0]) with
    | some (k, b') => some (.arr a k, .lam x a b')
    | none => none
  | .lt x e b, Γ, p => match find e Γ (p ++ [0]) with
    | some (k, e') => match find b (put Γ x k) (p ++ [1]) with
      | some (r, b') => some (r, .lt x e' b')
      | none => none
    | none => none
  | .as e t, Γ, p => match find e Γ (p ++ [0]) with
    | some (k, e') => match castP e' k t p with
      | some e'' => some (t, e'')
      | none => none
    | none => none
  | .app f a, Γ, p => match find f Γ (p ++ [0]) with
    | some (k, f') => match find a Γ (p ++ [1]) with
      | some (own, a') => match k with
        | .any => match castP f' .any (.arr own .any) (p ++ [0]) with
          | some f'' => some (.any, .app f'' a')
          | none => none
        | .arr x y => match castP a' own x (p ++ [1]) with
          | some a'' => some (y, .app f' a'')
          | none => none
        | _ => none
      | none => none
    | none => none
  | .op g a b, Γ, p => match find a Γ (p ++ [0]) with
    | some (k, a') => match find b Γ (p ++ [1]) with
      | some (k', b') => match castP a' k .int (p ++ [0]) with
        | some a'' => match castP b' k' .int (p ++ [1]) with
          | some b'' => some (g.ty, .op g a'' b'')
          | none => none
        | none => none
      | none => none
    | none => none
  | .ite c a b, Γ, p => match find c Γ (p ++ [0]) with
    | some (kc, c') => match find a Γ (p ++ [1]) with
      | some (ka, a') => match find b Γ (p ++ [2]) with
        | some (kb, b') => match castP c' kc .bool (p ++ [0]) with
          | some c'' => match common ka kb with
            | some t => match castP a' ka t (p ++ [1]) with
              | some a'' => match castP b' kb t (p ++ [2]) with
                | some b'' => some (t, .ite c'' a'' b'')
                | none => none
              | none => none
            | none => none
          | none => none
        | none => none
      | none => none
    | none => none
  | .cast _ _ _ _, _, _ => none
def labs : Tm → List (List Int)
  | .lam _ _ b => labs b
  | .app f a => labs f ++ labs a
  | .ite c a b => labs c ++ (labs a ++ labs b)
  | .op _ a b => labs a ++ labs b
  | .lt _ e b => labs e ++ labs b
  | .as e _ => labs e
  | .cast e _ _ l => l :: labs e
  | _ => []
def Src (B : Nat) : Tm → Prop
  | .int i => 0 ≤ i ∧ i < WHOLE
  | .lam _ a b => a.dep ≤ B ∧ Src B b
  | .app f a => Src B f ∧ Src B a
  | .ite c a b => Src B c ∧ Src B a ∧ Src B b
  | .op _ a b => Src B a ∧ Src B b
  | .lt _ e b => Src B e ∧ Src B b
  | .as e t => Src B e ∧ t.dep ≤ B
  | .cast _ _ _ _ => False
  | _ => True
def msr : Tm → Nat
  | .lam _ _ b => msr b + 1
  | .app f a => max (msr f) (msr a) + 1
  | .ite c a b => max (msr c) (max (msr a) (msr b))
  | .op _ a b => max (msr a) (msr b)
  | .lt _ e b => msr e + msr b
  | .as e _ => msr e
  | _ => 0
theorem common_dep : ∀ {a b c : Ty}, common a b = some c → c.dep ≤ max a.dep b.dep
  | .any, b, c, h => by rw [common_any] at h; cases h; exact Nat.le_max_right _ _
  | .int, b, c, h => by
    cases b <;> first | (cases h; exact Nat.zero_le _) | cases h
  | .bool, b, c, h => by
    cases b <;> first | (cases h; exact Nat.zero_le _) | cases h
  | .arr a1 a2, b, c, h => by
    cases b with
    | any => cases h; exact Nat.le_max_left _ _
    | arr b1 b2 =>
      unfold common at h
      split at h
      · rename_i x y e1 e2
        cases h
        have h1 := common_dep e1
        have h2 := common_dep e2
        simp only [Ty.dep]
        omega
      · cases h
    | _ => cases h
theorem castP_wt {S : List Int → Prop} {Γ : Zk44.Cx} {e e' : Tm} {a b : Ty} {l : List Int} (h : castP e a b l = some e') (hs : ∀ x ∈ labs e', S x) (da : a.dep ≤ DB) (db : b.dep ≤ DB) (w : (∀ x ∈ labs e, S x) → WT S Γ e a) : WT S Γ e' b := by
  unfold castP at h
  by_cases hf : fits a b = true
  · rw [if_pos hf] at h
    by_cases e1 : a = b
    · rw [if_pos e1] at h
      cases h
      subst e1
      exact w hs
    · rw [if_neg e1] at h
      cases h
      exact .cast (w fun x hx => hs x (List.mem_cons_of_mem _ hx)) hf da db (hs _ (List.mem_cons_self ..))
  · rw [if_neg hf] at h
    cases h
/-- the labels that stood go on -/
theorem castP_sub {e e' : Tm} {a b : Ty} {l : List Int} (h : castP e a b l = some e') : ∀ x ∈ labs e, x ∈ labs e' := by
  unfold castP at h
  by_cases hf : fits a b = true
  · rw [if_pos hf] at h
    by_cases e1 : a = b
    · rw [if_pos e1] at h
      cases h
      exact fun x h => h
    · rw [if_neg e1] at h
      cases h
      exact fun x h => List.mem_cons_of_mem _ h
  · rw [if_neg hf] at h
    cases h
theorem put_dep {Γ : Zk44.Cx} {x : Str} {a : Ty} {B B' : Nat} (h : ∀ y u, Γ y = some u → u.dep ≤ B) (h2 : B ≤ B') (ha : a.dep ≤ B') : ∀ y u, put Γ x a y = some u → u.dep ≤ B' := fun y u hu => by
  rw [put_eq] at hu
  by_cases c : y = x
  · rw [if_pos c] at hu
    cases hu
    exact ha
  · rw [if_neg c] at hu
    exact Nat.le_trans (h y u hu) h2
theorem find_wt {S : List Int → Prop} {B0 : Nat} : ∀ (t : Tm) (Γ : Zk44.Cx) (p : List Int) (k : Ty) (t' : Tm) (B : Nat), find t Γ p = some (k, t') → Src B0 t → (∀ x u, Γ x = some u → u.dep ≤ B) → B0 ≤ B → B + msr t + 1 ≤ DB →
    k.dep ≤ B + msr t ∧ ((∀ l ∈ labs t', S l) → WT S Γ t' k)
  | .int i, Γ, p, k, t', B, h, hs, hg, hb, hm => by
    cases h
    exact ⟨Nat.zero_le _, fun _ => .int hs.1 hs.2⟩
  | .bool b, Γ, p, k, t', B, h, hs, hg, hb, hm => by
    cases h
    exact ⟨Nat.zero_le _, fun _ => .bool⟩
  | .var x, Γ, p, k, t', B, h, hs, hg, hb, hm => by
    unfold find at h
    cases hx : Γ x with
    | none => rw [hx] at h; cases h
    | some u =>
      rw [hx] at h
      cases h
      exact ⟨Nat.le_trans (hg x _ hx) (Nat.le_add_right _ _), fun _ => .var hx⟩
  | .lam x a b, Γ, p, k, t', B, h, hs, hg, hb, hm => by
    unfold find at h
    simp only [msr] at hm ⊢
    split at h
    · rename_i k1 b1 e1
      cases h
      obtain ⟨d1, w1⟩ := find_wt (S := S) b _ _ _ _ B e1 hs.2 (put_dep hg (Nat.le_refl _) (Nat.le_trans hs.1 hb)) hb (by omega)
      refine ⟨?_, fun hl => .lam (w1 hl)⟩
      have := hs.1
      simp only [Ty.dep]
      omega
    · cases h
  | .lt x e b, Γ, p, k, t', B, h, hs, hg, hb, hm => by
    unfold find at h
    simp only [msr] at hm ⊢
    split at h
    · rename_i k1 e1 h1
      split at h
      · rename_i r b1 h2
        cases h
        obtain ⟨d1, w1⟩ := find_wt (S := S) e _ _ _ _ B h1 hs.1 hg hb (by omega)
        obtain ⟨d2, w2⟩ := find_wt (S := S) b _ _ _ _ (B + msr e) h2 hs.2 (put_dep hg (by omega) d1) (by omega) (by omega)
        refine ⟨by omega, fun hl => ?_⟩
        exact .lt (w1 fun x hx => hl x (List.mem_append_left _ hx)) (w2 fun x hx => hl x (List.mem_append_right _ hx))
      · cases h
    · cases h
  | .as e t, Γ, p, k, t', B, h, hs, hg, hb, hm => by
    unfold find at h
    simp only [msr] at hm ⊢
    split at h
    · rename_i k1 e1 h1
      split at h
      · rename_i e2 h2
        cases h
        obtain ⟨d1, w1⟩ := find_wt (S := S) e _ _ _ _ B h1 hs.1 hg hb (by omega)
        have := hs.2
        refine ⟨by omega, fun hl => castP_wt h2 hl (by omega) (by omega) w1⟩
      · cases h
    · cases h
  | .app f a, Γ, p, k, t', B, h, hs, hg, hb, hm => by
    unfold find at h
    simp only [msr] at hm ⊢
    split at h
    · rename_i k1 f1 h1
      split at h
      · rename_i own a1 h2
        obtain ⟨d1, w1⟩ := find_wt (S := S) f _ _ _ _ B h1 hs.1 hg hb (by omega)
        obtain ⟨d2, w2⟩ := find_wt (S := S) a _ _ _ _ B h2 hs.2 hg hb (by omega)
        split at h
        · split at h
          · rename_i f2 h3
            cases h
            refine ⟨Nat.zero_le _, fun hl => ?_⟩
            have hd : (Ty.arr own .any).dep ≤ DB := by simp only [Ty.dep]; omega
            exact .app (castP_wt h3 (fun x hx => hl x (List.mem_append_left _ hx)) (Nat.zero_le _) hd w1) (w2 fun x hx => hl x (List.mem_append_right _ hx))
          · cases h
        · rename_i x y
          split at h
          · rename_i a2 h3
            cases h
            simp only [Ty.dep] at d1
            refine ⟨by omega, fun hl => ?_⟩
            exact .app (w1 fun x hx => hl x (List.mem_append_left _ hx)) (castP_wt h3 (fun x hx => hl x (List.mem_append_right _ hx)) (by omega) (by omega) w2)
          · cases h
        · cases h
      · cases h
    · cases h
  | .op g a b, Γ, p, k, t', B, h, hs, hg, hb, hm => by
    unfold find at h
    simp only [msr] at hm ⊢
    split at h
    · rename_i k1 a1 h1
      split at h
      · rename_i k2 b1 h2
        split at h
        · rename_i a2 h3
          split at h
          · rename_i b2 h4
            cases h
            obtain ⟨d1, w1⟩ := find_wt (S := S) a _ _ _ _ B h1 hs.1 hg hb (by omega)
            obtain ⟨d2, w2⟩ := find_wt (S := S) b _ _ _ _ B h2 hs.2 hg hb (by omega)
            refine ⟨?_, fun hl => ?_⟩
            · cases g <;> exact Nat.zero_le _
            · exact .op (castP_wt h3 (fun x hx => hl x (List.mem_append_left _ hx)) (by omega) (Nat.zero_le _) w1) (castP_wt h4 (fun x hx => hl x (List.mem_append_right _ hx)) (by omega) (Nat.zero_le _) w2)
          · cases h
        · cases h
      · cases h
    · cases h
  | .ite c a b, Γ, p, k, t', B, h, hs, hg, hb, hm => by
    unfold find at h
    simp only [msr] at hm ⊢
    split at h
    · rename_i kc c1 h1
      split at h
      · rename_i ka a1 h2
        split at h
        · rename_i kb b1 h3
          split at h
          · rename_i c2 h4
            split at h
            · rename_i u h5
              split at h
              · rename_i a2 h6
                split at h
                · rename_i b2 h7
                  cases h
                  obtain ⟨d1, w1⟩ := find_wt (S := S) c _ _ _ _ B h1 hs.1 hg hb (by omega)
                  obtain ⟨d2, w2⟩ := find_wt (S := S) a _ _ _ _ B h2 hs.2.1 hg hb (by omega)
                  obtain ⟨d3, w3⟩ := find_wt (S := S) b _ _ _ _ B h3 hs.2.2 hg hb (by omega)
                  have dk := common_dep h5
                  refine ⟨by omega, fun hl => ?_⟩
                  exact .ite (castP_wt h4 (fun x hx => hl x (List.mem_append_left _ hx)) (by omega) (Nat.zero_le _) w1)
                    (castP_wt h6 (fun x hx => hl x (List.mem_append_right _ (List.mem_append_left _ hx))) (by omega) (by omega) w2)
                    (castP_wt h7 (fun x hx => hl x (List.mem_append_right _ (List.mem_append_right _ hx))) (by omega) (by omega) w3)
                · cases h
              · cases h
            · cases h
          · cases h
        · cases h
      · cases h
    · cases h
  | .cast _ _ _ _, Γ, p, k, t', B, h, hs, hg, hb, hm => by cases h
theorem castP_same {e : Tm} {a : Ty} {l : List Int} : castP e a a l = some e := by
  unfold castP
  rw [if_pos (fits_refl a), if_pos rfl]
theorem common_refl (a : Ty) : common a a = some a := common_less (lessK_refl a)
/-- where all types are known nothing is put in -/
theorem find_st {Γ : Zk44.Cx} {t : Tm} {k : Ty} (h : ST Γ t k) : ∀ p, find t Γ p = some (k, t) := by
  induction h with
  | int h1 h2 => intro p; rfl
  | bool => intro p; rfl
  | var hx => intro p; unfold find; rw [hx]
  | lam hb ih => intro p; unfold find; rw [ih]
  | app hf hx ih1 ih2 => intro p; unfold find; rw [ih1, ih2]; dsimp only; rw [castP_same]
  | ite hc ha hb ih1 ih2 ih3 => intro p; unfold find; rw [ih1, ih2, ih3]; dsimp only; rw [castP_same, common_refl]; dsimp only; rw [castP_same, castP_same]
  | add ha hb ih1 ih2 => intro p; unfold find; rw [ih1, ih2]; dsimp only; rw [castP_same, castP_same]; rfl
  | ltt ha hb ih1 ih2 => intro p; unfold find; rw [ih1, ih2]; dsimp only; rw [castP_same, castP_same]; rfl

inductive TS : Tm → Tm → Prop where
  | int {i : Int} : TS (.int i) (.int i)
  | bool {b : Bool} : TS (.bool b) (.bool b)
  | var {x : Str} : TS (.var x) (.var x)
  | lam {x : Str} {a : Ty} {b b' : Tm} : TS b b' → TS (.lam x a b) (.lam x a b')
  | app {f f' a a' : Tm} : TS f f' → TS a a' → TS (.app f a) (.app f' a')
  | ite {c c' a a' b b' : Tm} : TS c c' → TS a a' → TS b b' → TS (.ite c a b) (.ite c' a' b')
  | op {g : Sg} {a a' b b' : Tm} : TS a a' → TS b b' → TS (.op g a b) (.op g a' b')
  | lt {x : Str} {a a' b b' : Tm} : TS a a' → TS b b' → TS (.lt x a b) (.lt x a' b')
  | cast {e e' : Tm} {a b : Ty} {l l' : List Int} : TS e e' → TS (.cast e a b l) (.cast e' a b l')
inductive VS : Vl → Vl → Prop where
  | int {i : Int} : VS (.int i) (.int i)
  | bool {b : Bool} : VS (.bool b) (.bool b)
  | clos {x : Str} {b b' : Tm} {e e' : Env} {g : Str → Vl} : TS b b' → (∀ y, e y = none → e' y = none) → (∀ y v, e y = some v → e' y = some (g y)) → (∀ y v, e y = some v → VS v (g y)) → VS (.clos x b e) (.clos x b' e')
  | wrap {f f' : Vl} {a b : Ty} {l l' : List Int} {p p' : Bool} : VS f f' → VS (.wrap f a b l p) (.wrap f' a b l' p')
  | tag {v v' : Vl} {t : Ty} : VS v v' → VS (.tag v t) (.tag v' t)
inductive RS : R → R → Prop where
  | done {v v' : Vl} {n : Nat} : VS v v' → RS (.done v n) (.done v' n)
  | blame {l l' : List Int} {p p' : Bool} {n n' : Nat} : RS (.blame l p n) (.blame l' p' n')
  | tired : RS .tired .tired
  | stuck : RS .stuck .stuck
theorem RS.bind {r r' : R} {f f' : Vl → Nat → R} (h : RS r r') (k : ∀ v v' n, VS v v' → RS (f v n) (f' v' n)) : RS (r.bind f) (r'.bind f') := by
  cases h with
  | done h => exact k _ _ _ h
  | blame => exact .blame
  | tired => exact .tired
  | stuck => exact .stuck
def ES (e e' : Env) : Prop := (∀ y, e y = none → e' y = none) ∧ ∀ y v, e y = some v → ∃ v', e' y = some v' ∧ VS v v'
theorem ES.put {e e' : Env} {x : Str} {v v' : Vl} (h : ES e e') (r : VS v v') : ES (put e x v) (Zk44.put e' x v') := by
  refine ⟨fun y hy => ?_, fun y w hy => ?_⟩
  · rw [put_eq] at hy ⊢
    by_cases c : y = x
    · rw [if_pos c] at hy; cases hy
    · rw [if_neg c] at hy ⊢; exact h.1 y hy
  · rw [put_eq] at hy ⊢
    by_cases c : y = x
    · rw [if_pos c] at hy ⊢; cases hy; exact ⟨v', rfl, r⟩
    · rw [if_neg c] at hy ⊢; exact h.2 y w hy
theorem ES.clos {e e' : Env} (h : ES e e') {x : Str} {b b' : Tm} (hb : TS b b') : VS (.clos x b e) (.clos x b' e') := by
  refine .clos (g := fun y => (e' y).getD (.int 0)) hb h.1 (fun y v hy => ?_) fun y v hy => ?_
  · obtain ⟨v', q, _⟩ := h.2 y v hy
    rw [q] <;> rfl
  · obtain ⟨v', q, r⟩ := h.2 y v hy
    rw [q]
    exact r
theorem sim : ∀ d : Nat, (∀ n t t' e e', TS t t' → ES e e' → RS ((ev d).run n t e) ((ev d).run n t' e')) ∧ (∀ n f f' w w', VS f f' → VS w w' → RS ((ev d).called n f w) ((ev d).called n f' w')) ∧
    ∀ n v v' a b l l' p p', VS v v' → RS ((ev d).changed n v a b l p) ((ev d).changed n v' a b l' p')
  | 0 => ⟨fun _ _ _ _ _ _ _ => .stuck, fun _ _ _ _ _ _ _ => .stuck, fun _ _ _ _ _ _ _ _ _ _ => .stuck⟩
  | d + 1 => by
    obtain ⟨ih1, ih2, ih3⟩ := sim d
    refine ⟨fun n t t' e e' ht he => ?_, fun n f f' w w' hf hw => ?_, fun n v v' a b l l' p p' hv => ?_⟩
    · cases n with
      | zero => exact .tired
      | succ m =>
        show RS (runS (ev d) m t e) (runS (ev d) m t' e')
        cases ht with
        | int => exact .done .int
        | bool => exact .done .bool
        | @var x =>
          cases hx : e x with
          | none =>
            have h2 := he.1 x hx
            show RS (match e x with
              | some v => R.done v m
              | none => .stuck) (match e' x with
              | some v => R.done v m
              | none => .stuck)
            rw [hx, h2]
            exact .stuck
          | some v =>
            obtain ⟨v', h2, r⟩ := he.2 x v hx
            rw [runS_var hx, runS_var h2]
            exact .done r
        | lam hb => exact .done (he.clos hb)
        | app hf hx => exact (ih1 m _ _ _ _ hf he).bind fun v v' m1 hv => (ih1 m1 _ _ _ _ hx he).bind fun w w' m2 hw => ih2 m2 _ _ _ _ hv hw
        | ite hc ha hb =>
          refine (ih1 m _ _ _ _ hc he).bind fun v v' m1 hv => ?_
          cases hv with
          | @bool i =>
            cases i with
            | true => exact ih1 m1 _ _ _ _ ha he
            | false => exact ih1 m1 _ _ _ _ hb he
          | _ => exact .stuck
        | op ha hb =>
          refine (ih1 m _ _ _ _ ha he).bind fun v v' m1 hv => (ih1 m1 _ _ _ _ hb he).bind fun w w' m2 hw => ?_
          cases hv with
          | int =>
            cases hw with
            | int =>
              refine .done ?_
              rename_i g _ _ _ _ _ _
              cases g <;> constructor
            | _ => exact .stuck
          | _ => cases hw <;> exact .stuck
        | lt hx hb => exact (ih1 m _ _ _ _ hx he).bind fun v v' m1 hv => ih1 m1 _ _ _ _ hb (he.put hv)
        | cast hx => exact (ih1 m _ _ _ _ hx he).bind fun v v' m1 hv => ih3 m1 _ _ _ _ _ _ _ _ hv
    · show RS (calledS (ev d) n f w) (calledS (ev d) n f' w')
      cases hf with
      | clos hb h1 h2 h3 => exact ih1 n _ _ _ _ hb (ES.put ⟨h1, fun y v hy => ⟨_, h2 y v hy, h3 y v hy⟩⟩ hw)
      | @wrap g g' a b l l' p p' hg =>
        cases a with
        | arr a1 a2 =>
          cases b with
          | arr b1 b2 => exact (ih3 n _ _ _ _ _ _ _ _ hw).bind fun v v' m hv => (ih2 m _ _ _ _ hg hv).bind fun r r' m2 hr => ih3 m2 _ _ _ _ _ _ _ _ hr
          | _ => exact .stuck
        | _ => cases b <;> exact .stuck
      | _ => exact .stuck
    · cases n with
      | zero => exact .tired
      | succ m =>
        show RS (changedS (ev d) m v a b l p) (changedS (ev d) m v' a b l' p')
        unfold changedS
        by_cases e : a = b
        · rw [if_pos e, if_pos e]
          exact .done hv
        · rw [if_neg e, if_neg e]
          have fr : ∀ b, RS (fromAny (ev d) m v b l p) (fromAny (ev d) m v' b l' p') := fun b => by
            cases hv with
            | @tag w w' t hw =>
              show RS (if t.hd ≠ b.hd then .blame l p m else (ev d).changed m w t b l p) (if t.hd ≠ b.hd then .blame l' p' m else (ev d).changed m w' t b l' p')
              by_cases c : t.hd ≠ b.hd
              · rw [if_pos c, if_pos c]; exact .blame
              · rw [if_neg c, if_neg c]; exact ih3 m _ _ _ _ _ _ _ _ hw
            | _ => exact .stuck
          have ta : ∀ a, RS (toAny (ev d) m v a l p) (toAny (ev d) m v' a l' p') := fun a => by
            cases a with
            | arr a1 a2 =>
              unfold toAny
              dsimp only
              by_cases eg : Ty.arr a1 a2 ≠ gen
              · rw [if_pos eg, if_pos eg]
                have := ih3 m v v' (.arr a1 a2) gen l l' p p' hv
                revert this
                generalize (ev d).changed m v (.arr a1 a2) gen l p = r
                generalize (ev d).changed m v' (.arr a1 a2) gen l' p' = r'
                intro h
                cases h with
                | done h => exact .done (.tag h)
                | blame => exact .stuck
                | tired => exact .tired
                | stuck => exact .stuck
              · rw [if_neg eg, if_neg eg]
                exact .done (.tag hv)
            | _ => exact .done (.tag hv)
          cases a with
          | arr a1 a2 =>
            cases b with
            | arr b1 b2 => exact .done (.wrap hv)
            | any => exact ta _
            | _ => exact fr _
          | int => cases b <;> first | exact ta _ | exact fr _
          | bool => cases b <;> first | exact ta _ | exact fr _
          | any => cases b <;> first | exact ta _ | exact fr _
/-- types and programs that are found -/
def FS : Option (Ty × Tm) → Option (Ty × Tm) → Prop
  | none, none => True
  | some (k, t), some (k', t') => k = k' ∧ TS t t'
  | _, _ => False
theorem castP_sim {e e' : Tm} {a b : Ty} {l l' : List Int} (h : TS e e') : (castP e a b l = none ∧ castP e' a b l' = none) ∨ ∃ x x', castP e a b l = some x ∧ castP e' a b l' = some x' ∧ TS x x' := by
  unfold castP
  by_cases hf : fits a b = true
  · rw [if_pos hf, if_pos hf]
    by_cases e1 : a = b
    · rw [if_pos e1, if_pos e1]; exact .inr ⟨_, _, rfl, rfl, h⟩
    · rw [if_neg e1, if_neg e1]; exact .inr ⟨_, _, rfl, rfl, .cast h⟩
  · rw [if_neg hf, if_neg hf]; exact .inl ⟨rfl, rfl⟩
theorem FS.cases {a b : Option (Ty × Tm)} (h : FS a b) : (a = none ∧ b = none) ∨ ∃ k t t', a = some (k, t) ∧ b = some (k, t') ∧ TS t t' := by
  cases a with
  | none => cases b with
    | none => exact .inl ⟨rfl, rfl⟩
    | some _ => exact h.elim
  | some x => cases b with
    | none => exact h.elim
    | some y =>
      obtain ⟨k, t⟩ := x
      obtain ⟨k', t'⟩ := y
      obtain ⟨rfl, h⟩ := h
      exact .inr ⟨_, _, _, rfl, rfl, h⟩
theorem find_sim : ∀ (t : Tm) (Γ : Zk44.Cx) (p q : List Int), FS (find t Γ p) (find t Γ q)
  | .int i, Γ, p, q => ⟨rfl, .int⟩
  | .bool b, Γ, p, q => ⟨rfl, .bool⟩
  | .var x, Γ, p, q => by
    unfold find
    cases Γ x with
    | none => trivial
    | some t => exact ⟨rfl, .var⟩
  | .lam x a b, Γ, p, q => by
    unfold find
    rcases (find_sim b (put Γ x a) (p ++ [0]) (q ++ [0])).cases with ⟨e1, e2⟩ | ⟨k, t, t', e1, e2, h⟩
    · rw [e1, e2]; trivial
    · rw [e1, e2]; exact ⟨rfl, .lam h⟩
  | .lt x e b, Γ, p, q => by
    unfold find
    rcases (find_sim e Γ (p ++ [0]) (q ++ [0])).cases with ⟨e1, e2⟩ | ⟨k, t, t', e1, e2, h⟩
    · rw [e1, e2]; trivial
    · rw [e1, e2]
      dsimp only
      rcases (find_sim b (put Γ x k) (p ++ [1]) (q ++ [1])).cases with ⟨e3, e4⟩ | ⟨k2, t2, t2', e3, e4, h2⟩
      · rw [e3, e4]; trivial
      · rw [e3, e4]; exact ⟨rfl, .lt h h2⟩
  | .as e u, Γ, p, q => by
    unfold find
    rcases (find_sim e Γ (p ++ [0]) (q ++ [0])).cases with ⟨e1, e2⟩ | ⟨k, t, t', e1, e2, h⟩
    · rw [e1, e2]; trivial
    · rw [e1, e2]
      dsimp only
      rcases castP_sim (a := k) (b := u) (l := p) (l' := q) h with ⟨e3, e4⟩ | ⟨x, x', e3, e4, h2⟩
      · rw [e3, e4]; trivial
      · rw [e3, e4]; exact ⟨rfl, h2⟩
  | .app f a, Γ, p, q => by
    unfold find
    rcases (find_sim f Γ (p ++ [0]) (q ++ [0])).cases with ⟨e1, e2⟩ | ⟨k, t, t', e1, e2, h⟩
    · rw [e1, e2]; trivial
    · rw [e1, e2]
      dsimp only
      rcases (find_sim a Γ (p ++ [1]) (q ++ [1])).cases with ⟨e3, e4⟩ | ⟨k2, t2, t2', e3, e4, h2⟩
      · rw [e3, e4]; trivial
      · rw [e3, e4]
        dsimp only
        cases k with
        | any =>
          dsimp only
          rcases castP_sim (a := .any) (b := .arr k2 .any) (l := p ++ [0]) (l' := q ++ [0]) h with ⟨e5, e6⟩ | ⟨x, x', e5, e6, h3⟩
          · rw [e5, e6]; trivial
          · rw [e5, e6]; exact ⟨rfl, .app h3 h2⟩
        | arr u v =>
          dsimp only
          rcases castP_sim (a := k2) (b := u) (l := p ++ [1]) (l' := q ++ [1]) h2 with ⟨e5, e6⟩ | ⟨x, x', e5, e6, h3⟩
          · rw [e5, e6]; trivial
          · rw [e5, e6]; exact ⟨rfl, .app h h3⟩
        | _ => trivial
  | .op g a b, Γ, p, q => by
    unfold find
    rcases (find_sim a Γ (p ++ [0]) (q ++ [0])).cases with ⟨e1, e2⟩ | ⟨k, t, t', e1, e2, h⟩
    · rw [e1, e2]; trivial
    · rw [e1, e2]
      dsimp only
      rcases (find_sim b Γ (p ++ [1]) (q ++ [1])).cases with ⟨e3, e4⟩ | ⟨k2, t2, t2', e3, e4, h2⟩
      · rw [e3, e4]; trivial
      · rw [e3, e4]
        dsimp only
        rcases castP_sim (a := k) (b := .int) (l := p ++ [0]) (l' := q ++ [0]) h with ⟨e5, e6⟩ | ⟨x, x', e5, e6, h3⟩
        · rw [e5, e6]; trivial
        · rw [e5, e6]
          dsimp only
          rcases castP_sim (a := k2) (b := .int) (l := p ++ [1]) (l' := q ++ [1]) h2 with ⟨e7, e8⟩ | ⟨y, y', e7, e8, h4⟩
          · rw [e7, e8]; trivial
          · rw [e7, e8]; exact ⟨rfl, .op h3 h4⟩
  | .ite c a b, Γ, p, q => by
    unfold find
    rcases (find_sim c Γ (p ++ [0]) (q ++ [0])).cases with ⟨e1, e2⟩ | ⟨k, t, t', e1, e2, h⟩
    · rw [e1, e2]; trivial
    · rw [e1, e2]
      dsimp only
      rcases (find_sim a Γ (p ++ [1]) (q ++ [1])).cases with ⟨e3, e4⟩ | ⟨k2, t2, t2', e3, e4, h2⟩
      · rw [e3, e4]; trivial
      · rw [e3, e4]
        dsimp only
        rcases (find_sim b Γ (p ++ [2]) (q ++ [2])).cases with ⟨e5, e6⟩ | ⟨k3, t3, t3', e5, e6, h3⟩
        · rw [e5, e6]; trivial
        · rw [e5, e6]
          dsimp only
          rcases castP_sim (a := k) (b := .bool) (l := p ++ [0]) (l' := q ++ [0]) h with ⟨e7, e8⟩ | ⟨x, x', e7, e8, h4⟩
          · rw [e7, e8]; trivial
          · rw [e7, e8]
            dsimp only
            cases common k2 k3 with
            | none => trivial
            | some u =>
              dsimp only
              rcases castP_sim (a := k2) (b := u) (l := p ++ [1]) (l' := q ++ [1]) h2 with ⟨e9, e10⟩ | ⟨y, y', e9, e10, h5⟩
              · rw [e9, e10]; trivial
              · rw [e9, e10]
                dsimp only
                rcases castP_sim (a := k3) (b := u) (l := p ++ [2]) (l' := q ++ [2]) h3 with ⟨e11, e12⟩ | ⟨z, z', e11, e12, h6⟩
                · rw [e11, e12]; trivial
                · rw [e11, e12]; exact ⟨rfl, .ite h4 h5 h6⟩
  | .cast _ _ _ _, Γ, p, q => trivial
end Zk44

namespace Zk44
open PySem L2 Z
def encT : Ty → PV
  | .int => .tup [.str "int"]
  | .bool => .tup [.str "bool"]
  | .any => .tup [.str "any"]
  | .arr a b => .tup [.str "arrow", encT a, encT b]
def dT : Ty → PyData
  | .int => .tuple [.str "int"]
  | .bool => .tuple [.str "bool"]
  | .any => .tuple [.str "any"]
  | .arr a b => .tuple [.str "arrow", dT a, dT b]
theorem dat_T : ∀ a : Ty, dat (encT a) = some (dT a)
  | .int => by simp only [encT, dT, dat, datL, Option.map_some]
  | .bool => by simp only [encT, dT, dat, datL, Option.map_some]
  | .any => by simp only [encT, dT, dat, datL, Option.map_some]
  | .arr a b => by simp only [encT, dT, dat, datL, dat_T a, dat_T b, Option.map_some]
theorem sOk : PyData.strOk (Str.ofString "arrow") = true := by decide +kernel
theorem lay_T : ∀ a : Ty, (dT a).canLay0 = true
  | .int => by decide +kernel
  | .bool => by decide +kernel
  | .any => by decide +kernel
  | .arr a b => by simp [dT, PyData.canLay0, PyData.canLayAll0, lay_T a, lay_T b, sOk]
theorem dep_T : ∀ a : Ty, (dT a).depth ≤ a.dep + 1
  | .int => by decide +kernel
  | .bool => by decide +kernel
  | .any => by decide +kernel
  | .arr a b => by
    have h1 := dep_T a
    have h2 := dep_T b
    simp only [dT, PyData.depth, PyData.depthAll, Ty.dep]
    omega
theorem shaped_T {a : Ty} (h : a.dep ≤ DB) : SeqAt.shaped (dT a) = true := by
  unfold SeqAt.shaped
  rw [lay_T]
  have := dep_T a
  have h : a.dep ≤ 38 := h
  simp only [Bool.true_and, decide_eq_true_eq]
  omega
theorem eqv_T : ∀ a b : Ty, PyData.eqv (dT a) (dT b) = decide (a = b)
  | .arr a b, .arr c d => by
    simp only [dT, PyData.eqv, PyData.eqvAll, eqv_T a c, eqv_T b d, Ty.arr.injEq]
    simp
  | .int, b => by cases b <;> first | decide | (simp [dT, PyData.eqv, PyData.eqvAll])
  | .bool, b => by cases b <;> first | decide | (simp [dT, PyData.eqv, PyData.eqvAll])
  | .any, b => by cases b <;> first | decide | (simp [dT, PyData.eqv, PyData.eqvAll])
  | .arr a c, .int => by simp [dT, PyData.eqv, PyData.eqvAll]
  | .arr a c, .bool => by simp [dT, PyData.eqv, PyData.eqvAll]
  | .arr a c, .any => by simp [dT, PyData.eqv, PyData.eqvAll]
theorem encT_tup (a : Ty) : ∃ l, encT a = .tup l := by cases a <;> exact ⟨_, rfl⟩
theorem eq_T {a b : Ty} {s : Store} (h : a.dep ≤ DB) (h2 : b.dep ≤ DB) : eqP (encT a) (encT b) s = .ok (decide (a = b)) s := by
  obtain ⟨l, e⟩ := encT_tup a
  rw [dat_eq (dat_T a) (dat_T b) (shaped_T h) (shaped_T h2) (by rw [e]; intro x h; cases h) (by rw [e]; intro x h; cases h) (by rw [e]; intro x h; cases h), eqv_T]
theorem c_eqT {a b : Ty} {s : Store} {P : Bool → Store → Prop} {E : XP} (h : a.dep ≤ DB) (h2 : b.dep ≤ DB) (q : P (decide (a = b)) s) : W (cmpP .Eq (encT a) (encT b)) s P E := W_ok (eq_T h h2) q
theorem c_inT {a b c : Ty} {s : Store} {P : Bool → Store → Prop} {E : XP} (h : a.dep ≤ DB) (h2 : b.dep ≤ DB) (h3 : c.dep ≤ DB) (q : P (decide (b = a) || decide (c = a)) s) : W (cmpP .In (encT a) (.tup [encT b, encT c])) s P E := by
  refine w_inT (d := dT a) (ds := [dT b, dT c]) ?_ (dat_T a) (by simp only [datL, dat_T]) (shaped_T h) ?_ ?_
  · obtain ⟨l, e⟩ := encT_tup a
    rw [e]; rfl
  · unfold SeqAt.shaped
    have h4 := dep_T b
    have h5 := dep_T c
    have h6 : b.dep ≤ 38 := h2
    have h7 : c.dep ≤ 38 := h3
    simp only [PyData.canLay0, PyData.canLayAll0, lay_T, PyData.depth, PyData.depthAll, Bool.and_self, Bool.true_and, decide_eq_true_eq]
    exact decide_eq_true (by omega)
  · simp only [List.any_cons, List.any_nil, eqv_T, Bool.or_false]
    exact q
end Zk44

section
set_option maxHeartbeats 4000000
namespace Zk44
open PySem L2 Z
local macro_rules | `(tactic| infer_instance) => `(tactic| first
  | with_reducible first
    | refine k_asg ?_ | refine k_exp ?_ | refine k_ret ?_ | refine k_pop ?_ | refine k_retN ?_ | refine k_ixSet ?_ | refine k_fldSet ?_ | refine k_aug ?_ | refine k_par ?_ | refine k_unp ?_ | refine k_pass ?_ | refine k_cont ?_ | refine k_break ?_ | refine k_rai0 ?_ | refine k_whl ?_ | refine k_in ?_ | refine k_end ?_
    | refine w_call ?_ | refine w_cons ?_ | refine w_nil ?_ | refine w_e2 ?_ | refine w_e1 ?_ | refine w_cmp ?_ | refine w_tcmp ?_ | refine w_ttru ?_ | refine w_sl ?_ | refine w_meth ?_ | refine w_dct ?_ | refine w_lc ?_ | refine w_unlT ?_ | refine w_dct0 ?_ | refine w_bare ?_ | refine w_and ?_ | refine w_or ?_ | refine w_part ?_ | refine w_walk ?_ | refine w_of ?_
    | refine lp_n ?_ | refine lp_c ?_ | refine lp_b ?_ | refine lp_r ?_ | refine sq_n ?_ | refine sq_r ?_ | refine fnR_n ?_ | refine fnR_r ?_ | refine if_ff ?_ | refine if_tt ?_
  | ((with_reducible apply k_if0); (case e => exact rfl))
  | ((with_reducible apply k_if1); (case e => exact rfl))
  | with_reducible refine k_if ?_
  | ((with_reducible apply w_if0); (case e => exact rfl))
  | ((with_reducible apply w_if1); (case e => exact rfl))
  | with_reducible first | refine w_if ?_ | refine w_tand ?_ | refine w_tor ?_ | refine w_tnot ?_ | refine k_for ?_
  | ((with_reducible apply w_tup); (case hl => exact Nat.le_of_ble_eq_true rfl))
  | ((with_reducible apply w_lst); (case hl => exact Nat.le_of_ble_eq_true rfl))
  | ((with_reducible apply k_rai); (case h1 => exact rfl); (case h2 => exact Nat.le_of_ble_eq_true rfl))
  | ((with_reducible apply if_r0); (case h => exact rfl))
  | ((with_reducible apply if_r1); (case h => exact rfl))
  | ((with_reducible apply W_ok); (case h => exact rfl)))
section
variable {s : Store} {E : XP}
theorem fits_eq {a b : Ty} : fits a b = (if a = .any ∨ b = .any ∨ a = b then true else match a, b with
    | .arr a c, .arr b d => fits a b && fits c d
    | _, _ => false) := by
  cases a with
  | any => rw [fits_any, if_pos (.inl rfl)]
  | int => cases b <;> rfl
  | bool => cases b <;> rfl
  | arr a c =>
    cases b with
    | any => rfl
    | arr b d =>
      by_cases e : Ty.arr a c = .arr b d
      · rw [e, fits_refl, if_pos (.inr (.inr rfl))]
      · rw [if_neg (by
          rintro (h | h | h)
          · cases h
          · cases h
          · exact e h), show fits (.arr a c) (.arr b d) = (decide (Ty.arr a c = .arr b d) || (fits a b && fits c d)) from rfl, decide_eq_false e]
        rfl
    | _ => rfl
theorem fits_ok : ∀ (a b : Ty) (d : Nat) (Q : PV → Store → Prop), a.dep + 1 ≤ d → a.dep ≤ DB → b.dep ≤ DB → Q (.bl (fits a b)) s → W (callN tab d i_fits [encT a, encT b]) s Q E
  | a, b, 0, Q, h, _, _, _ => absurd h (by omega)
  | a, b, d + 1, Q, h, ha, hb, q => by
    rw [w_fits d rfl]
    refine W_cFn ?_
    unfold b_fits
    repeat infer_instance
    refine c_inT (a := .any) (b := a) (c := b) (Nat.zero_le _) ha hb ?_
    rw [fits_eq] at q
    by_cases h1 : (decide (a = .any) || decide (b = .any)) = true
    · refine ift h1 ?_
      repeat infer_instance
      rw [if_pos (by simp only [Bool.or_eq_true, decide_eq_true_eq] at h1; rcases h1 with h | h <;> simp [h])] at q
      exact q
    · refine iff_ h1 ?_
      repeat infer_instance
      refine c_eqT ha hb ?_
      refine ifd (fun e => ?_) fun e => ?_
      · repeat infer_instance
        rw [if_pos (.inr (.inr e))] at q
        exact q
      · rw [if_neg (by
          simp only [Bool.or_eq_true, decide_eq_true_eq, not_or] at h1
          rintro (h | h | h)
          · exact h1.1 h
          · exact h1.2 h
          · exact e h)] at q
        cases a with
        | arr a c =>
          cases b with
          | arr b z =>
            replace q : Q (.bl (fits a b && fits c z)) s := q
            obtain ⟨a1, a2⟩ := dep_arr ha
            obtain ⟨b1, b2⟩ := dep_arr hb
            simp only [Ty.dep] at h
            simp only [encT]
            repeat infer_instance
            refine fits_ok a b d _ (by omega) a1 b1 ?_
            refine ⟨_, rfl, ?_⟩
            cases hf : fits a b with
            | true =>
              rw [hf] at q
              refine ift rfl ?_
              repeat infer_instance
              refine fits_ok c z d _ (by omega) a2 b2 ?_
              repeat infer_instance
              exact q
            | false =>
              rw [hf] at q
              refine iff_ (by decide) ?_
              repeat infer_instance
              exact q
          | _ =>
            simp only [encT]
            repeat infer_instance
            exact q
        | _ =>
          simp only [encT]
          repeat infer_instance
          exact q
theorem less_eq {a b : Ty} : lessK a b = (if a = .any ∨ a = b then true else match a, b with
    | .arr a c, .arr b d => lessK a b && lessK c d
    | _, _ => false) := by
  cases a with
  | any => cases b <;> rfl
  | int => cases b <;> rfl
  | bool => cases b <;> rfl
  | arr a c =>
    cases b with
    | arr b d =>
      by_cases e : Ty.arr a c = .arr b d
      · rw [e, lessK_refl, if_pos (.inr rfl)]
      · rw [if_neg (by
          rintro (h | h)
          · cases h
          · exact e h), show lessK (.arr a c) (.arr b d) = (decide (Ty.arr a c = .arr b d) || (lessK a b && lessK c d)) from rfl, decide_eq_false e]
        rfl
    | _ => rfl
theorem less_ok : ∀ (a b : Ty) (d : Nat) (Q : PV → Store → Prop), a.dep + 1 ≤ d → a.dep ≤ DB → b.dep ≤ DB → Q (.bl (lessK a b)) s → W (callN tab d i_less_known [encT a, encT b]) s Q E
  | a, b, 0, Q, h, _, _, _ => absurd h (by omega)
  | a, b, d + 1, Q, h, ha, hb, q => by
    rw [w_less_known d rfl]
    refine W_cFn ?_
    unfold b_less_known
    repeat infer_instance
    refine c_eqT (b := .any) ha (Nat.zero_le _) ?_
    rw [less_eq] at q
    by_cases h1 : a = .any
    · refine ift (decide_eq_true h1) ?_
      repeat infer_instance
      rw [if_pos (.inl h1)] at q
      exact q
    · refine iff_ (by simpa using h1) ?_
      repeat infer_instance
      refine c_eqT ha hb ?_
      refine ifd (fun e => ?_) fun e => ?_
      · repeat infer_instance
        rw [if_pos (.inr e)] at q
        exact q
      · rw [if_neg (by
          rintro (h | h)
          · exact h1 h
          · exact e h)] at q
        cases a with
        | arr a c =>
          cases b with
          | arr b z =>
            replace q : Q (.bl (lessK a b && lessK c z)) s := q
            obtain ⟨a1, a2⟩ := dep_arr ha
            obtain ⟨b1, b2⟩ := dep_arr hb
            simp only [Ty.dep] at h
            simp only [encT]
            repeat infer_instance
            refine less_ok a b d _ (by omega) a1 b1 ?_
            refine ⟨_, rfl, ?_⟩
            cases hf : lessK a b with
            | true =>
              rw [hf] at q
              refine ift rfl ?_
              repeat infer_instance
              refine less_ok c z d _ (by omega) a2 b2 ?_
              repeat infer_instance
              exact q
            | false =>
              rw [hf] at q
              refine iff_ (by decide) ?_
              repeat infer_instance
              exact q
          | _ =>
            simp only [encT]
            repeat infer_instance
            exact q
        | _ =>
          simp only [encT]
          repeat infer_instance
          exact q
def encO : Option Ty → PV
  | some a => encT a
  | none => .non
theorem common_none {a b : Ty} (h : fits a b = false) : common a b = none := by
  cases e : common a b with
  | none => rfl
  | some c =>
    have : ∀ {a b c : Ty}, common a b = some c → fits a b = true := fun {a b c} h => by
      induction a generalizing b c with
      | any => exact fits_any b
      | int => cases b <;> first | rfl | cases h
      | bool => cases b <;> first | rfl | cases h
      | arr a1 a2 ih1 ih2 =>
        cases b with
        | any => rfl
        | arr b1 b2 =>
          unfold common at h
          split at h
          · rename_i x y e1 e2
            exact fits_of_arr (ih1 e1) (ih2 e2)
          · cases h
        | _ => cases h
    rw [this e] at h
    cases h
theorem common_ok : ∀ (a b : Ty) (d : Nat) (Q : PV → Store → Prop), a.dep + 2 ≤ d → a.dep ≤ DB → b.dep ≤ DB → Q (encO (common a b)) s → W (callN tab d i_common [encT a, encT b]) s Q E
  | a, b, 0, Q, h, _, _, _ => absurd h (by omega)
  | a, b, d + 1, Q, h, ha, hb, q => by
    rw [w_common d rfl]
    refine W_cFn ?_
    unfold b_common
    repeat infer_instance
    refine fits_ok a b d _ (by omega) ha hb ?_
    repeat infer_instance
    cases hf : fits a b with
    | false =>
      refine ift rfl ?_
      repeat infer_instance
      rw [common_none hf] at q
      exact q
    | true =>
      refine iff_ (by decide) ?_
      repeat infer_instance
      refine c_eqT (b := .any) ha (Nat.zero_le _) ?_
      refine ifd (fun e => ?_) fun e => ?_
      · subst e
        repeat infer_instance
        rw [common_any] at q
        exact q
      · repeat infer_instance
        refine c_eqT (b := .any) hb (Nat.zero_le _) ?_
        refine ifd (fun e2 => ?_) fun e2 => ?_
        · subst e2
          repeat infer_instance
          have : common a .any = some a := by cases a <;> rfl
          rw [this] at q
          exact q
        · cases a with
          | any => exact absurd rfl e
          | arr a c =>
            cases b with
            | any => exact absurd rfl e2
            | arr b z =>
              obtain ⟨a1, a2⟩ := dep_arr ha
              obtain ⟨b1, b2⟩ := dep_arr hb
              obtain ⟨f1, f2⟩ := fits_arr hf
              obtain ⟨x, hx⟩ := common_fits f1
              obtain ⟨y, hy⟩ := common_fits f2
              simp only [Ty.dep] at h
              have hxy : common (.arr a c) (.arr b z) = some (.arr x y) := by
                unfold common
                rw [hx, hy]
              rw [hxy] at q
              simp only [encT]
              repeat infer_instance
              refine common_ok a b d _ (by omega) a1 b1 ?_
              rw [hx]
              repeat infer_instance
              refine common_ok c z d _ (by omega) a2 b2 ?_
              rw [hy]
              repeat infer_instance
              exact q
            | _ => cases hf
          | _ =>
            simp only [encT]
            repeat infer_instance
            cases b <;> first | exact q | cases hf | exact absurd rfl e2
end
end Zk44

end
section
set_option maxHeartbeats 4000000
namespace Zk44
open PySem L2 Z
local macro_rules | `(tactic| infer_instance) => `(tactic| first
  | with_reducible first
    | refine k_asg ?_ | refine k_exp ?_ | refine k_ret ?_ | refine k_pop ?_ | refine k_retN ?_ | refine k_ixSet ?_ | refine k_fldSet ?_ | refine k_aug ?_ | refine k_par ?_ | refine k_unp ?_ | refine k_pass ?_ | refine k_cont ?_ | refine k_break ?_ | refine k_rai0 ?_ | refine k_whl ?_ | refine k_in ?_ | refine k_end ?_
    | refine w_call ?_ | refine w_cons ?_ | refine w_nil ?_ | refine w_e2 ?_ | refine w_e1 ?_ | refine w_cmp ?_ | refine w_tcmp ?_ | refine w_ttru ?_ | refine w_sl ?_ | refine w_meth ?_ | refine w_dct ?_ | refine w_lc ?_ | refine w_unlT ?_ | refine w_dct0 ?_ | refine w_bare ?_ | refine w_and ?_ | refine w_or ?_ | refine w_part ?_ | refine w_walk ?_ | refine w_of ?_
    | refine lp_n ?_ | refine lp_c ?_ | refine lp_b ?_ | refine lp_r ?_ | refine sq_n ?_ | refine sq_r ?_ | refine fnR_n ?_ | refine fnR_r ?_ | refine if_ff ?_ | refine if_tt ?_
  | ((with_reducible apply k_if0); (case e => exact rfl))
  | ((with_reducible apply k_if1); (case e => exact rfl))
  | with_reducible refine k_if ?_
  | ((with_reducible apply w_if0); (case e => exact rfl))
  | ((with_reducible apply w_if1); (case e => exact rfl))
  | with_reducible first | refine w_if ?_ | refine w_tand ?_ | refine w_tor ?_ | refine w_tnot ?_ | refine k_for ?_
  | ((with_reducible apply w_tup); (case hl => exact Nat.le_of_ble_eq_true rfl))
  | ((with_reducible apply w_lst); (case hl => exact Nat.le_of_ble_eq_true rfl))
  | ((with_reducible apply k_rai); (case h1 => exact rfl); (case h2 => exact Nat.le_of_ble_eq_true rfl))
  | ((with_reducible apply if_r0); (case h => exact rfl))
  | ((with_reducible apply if_r1); (case h => exact rfl))
  | ((with_reducible apply W_ok); (case h => exact rfl)))
abbrev encP (p : List Int) : PV := .tup (p.map .int)
def Sg.str : Sg → Str
  | .add => "+" | .sub => "-" | .mul => "*" | .lt => "<" | .eq => "=="
def encM : Tm → PV
  | .int n => .tup [.str "int", .int n]
  | .bool b => .tup [.str "bool", .bl b]
  | .var x => .tup [.str "var", .str x]
  | .lam x t b => .tup [.str "lam", .str x, encT t, encM b]
  | .app f a => .tup [.str "app", encM f, encM a]
  | .ite c a b => .tup [.str "if", encM c, encM a, encM b]
  | .op g a b => .tup [.str "op", .str g.str, encM a, encM b]
  | .lt x e b => .tup [.str "let", .str x, encM e, encM b]
  | .as e t => .tup [.str "as", encM e, encT t]
  | .cast e a b l => .tup [.str "cast", encM e, encT a, encT b, encP l]
def ht : Tm → Nat
  | .lam _ _ b => ht b + 1
  | .app f a => max (ht f) (ht a) + 1
  | .ite c a b => max (ht c) (max (ht a) (ht b)) + 1
  | .op _ a b => max (ht a) (ht b) + 1
  | .lt _ e b => max (ht e) (ht b) + 1
  | .as e _ => ht e + 1
  | .cast e _ _ _ => ht e + 1
  | _ => 0
abbrev TPe : XP → Store → Prop := fun E s => ∀ f s', Gr s s' → E c_TypeProblem f s'
section
variable {s : Store} {E : XP}
theorem cast_walk {e : Tm} {a b : Ty} {l : List Int} {self : Nat} {d : Nat} {Q : PV → Store → Prop} (hd : a.dep + 2 ≤ d) (ha : a.dep ≤ DB) (hb : b.dep ≤ DB)
    (q : ∀ e', castP e a b l = some e' → Q (encM e') s) (qe : castP e a b l = none → TPe E s) : W (callN tab d i_Caster_cast [.ref self, encM e, encT a, encT b, encP l]) s Q E := by
  cases d with
  | zero => omega
  | succ d =>
    rw [w_Caster_cast d rfl]
    refine W_cFn ?_
    unfold b_Caster_cast
    repeat infer_instance
    refine fits_ok a b d _ (by omega) ha hb ?_
    repeat infer_instance
    unfold castP at q qe
    cases hf : fits a b with
    | false =>
      rw [hf] at qe
      refine ift rfl ?_
      repeat infer_instance
      exact qe (by simp) _ _ Gr.refl
    | true =>
      rw [hf] at q
      refine iff_ (by decide) ?_
      repeat infer_instance
      refine c_eqT ha hb ?_
      refine ifd (fun h => ?_) fun h => ?_
      · repeat infer_instance
        exact q e (by simp [h])
      · repeat infer_instance
        exact q (.cast e a b l) (by simp [h])
/-- a dict of types -/
def DR (s : Store) (n : Nat) (Γ : Zk44.Cx) (N : Nat) : Prop := ∃ l, dctOf s n = some l ∧ l.length ≤ N ∧ ∀ x, dget l (.inr x) = (Γ x).map encT
theorem DR.gr {s s' : Store} {n N : Nat} {Γ : Zk44.Cx} (h : DR s n Γ N) (g : Gr s s') : DR s' n Γ N := by
  obtain ⟨l, a, b, c⟩ := h
  exact ⟨l, g.dct a, b, c⟩
theorem DR.put {s : Store} {n N : Nat} {Γ : Zk44.Cx} {l : List (Key × PV)} {x : Str} {t : Ty} (h2 : l.length ≤ N) (h3 : ∀ x, dget l (.inr x) = (Γ x).map encT) (hs : s[n]? = some (.dct (dput l (.inr x) (encT t)))) : DR s n (put Γ x t) (N + 1) := by
  refine ⟨_, dctOf_dct hs, Nat.le_trans dput_len (by omega), fun y => ?_⟩
  rw [dget_put, put_eq, h3]
  by_cases c : y = x
  · subst c
    rw [if_pos rfl, if_pos rfl]; rfl
  · rw [if_neg (fun h => c (Sum.inr.inj h)), if_neg c]
theorem encP_app {p : List Int} {i : Int} : PV.tup (p.map .int ++ [.int i]) = encP (p ++ [i]) := by simp
def appP (k : Ty) (f : Tm) (own : Ty) (a : Tm) (p : List Int) : Option (Ty × Tm) := match k with
  | .any => match castP f .any (.arr own .any) (p ++ [0]) with
    | some f'' => some (.any, .app f'' a)
    | none => none
  | .arr x y => match castP a own x (p ++ [1]) with
    | some a'' => some (y, .app f a'')
    | none => none
  | _ => none
theorem find_app {f a f' a' : Tm} {Γ : Zk44.Cx} {p : List Int} {k own : Ty} (hf : find f Γ (p ++ [0]) = some (k, f')) (ha : find a Γ (p ++ [1]) = some (own, a')) : find (.app f a) Γ p = appP k f' own a' p := by
  unfold find
  rw [hf]
  dsimp only
  rw [ha]
  cases k <;> rfl
theorem find_op {g : Sg} {f a f' a' : Tm} {Γ : Zk44.Cx} {p : List Int} {k own : Ty} (hf : find f Γ (p ++ [0]) = some (k, f')) (ha : find a Γ (p ++ [1]) = some (own, a')) : find (.op g f a) Γ p = (match castP f' k .int (p ++ [0]) with
        | some a'' => match castP a' own .int (p ++ [1]) with
          | some b'' => some (g.ty, .op g a'' b'')
          | none => none
        | none => none) := by
  conv => lhs; unfold find
  rw [hf]
  dsimp only
  rw [ha] <;> rfl
theorem find_ite {c a b c' a' b' : Tm} {Γ : Zk44.Cx} {p : List Int} {kc ka kb : Ty} (hc : find c Γ (p ++ [0]) = some (kc, c')) (ha : find a Γ (p ++ [1]) = some (ka, a')) (hb : find b Γ (p ++ [2]) = some (kb, b')) : find (.ite c a b) Γ p = (match castP c' kc .bool (p ++ [0]) with
          | some c'' => match common ka kb with
            | some t => match castP a' ka t (p ++ [1]) with
              | some a'' => match castP b' kb t (p ++ [2]) with
                | some b'' => some (t, .ite c'' a'' b'')
                | none => none
              | none => none
            | none => none
          | none => none) := by
  conv => lhs; unfold find
  rw [hc]
  dsimp only
  rw [ha]
  dsimp only
  rw [hb] <;> rfl
theorem w_enL {s : Store} {E : XP} {P : Sc → Store → Prop} {n : Nat} {l : List PV} (hs : lstOf s n = some l) (h : P (.liveE n) s) : W (en1 [.ref n]) s P E := by
  refine W_ok ?_ h
  show (match lstOf s n with
    | some _ => RE.ok (Sc.liveE n) s
    | none => .bad) = _
  rw [hs]
theorem lst_of {s : Store} {n : Nat} {l : List PV} (h : s[n]? = some (.lst l)) : lstOf s n = some l := by unfold lstOf; rw [h]
theorem lenE {s : Store} {n : Nat} {l : List PV} (h : s[n]? = some (.lst l)) : lenI s (.liveE n) = l.length := by
  show ((lstOf s n).getD []).length = _
  rw [lst_of h]
  rfl
theorem getE {s : Store} {n i : Nat} {l : List PV} (h : s[n]? = some (.lst l)) : getI s (.liveE n) i = some ((l[i]?).map fun v => .tup [.int (i : Int), v]) := by
  show ((lstOf s n).map fun l => (l[i]?).map fun v => PV.tup [.int (i : Int), v]) = _
  rw [lst_of h]
  rfl
theorem w_whole {d self n : Nat} {f : PV} {p : PV} {s : Store} {Q : PV → Store → Prop} {E : XP} (h : SW (b_Caster_whole (callN tab d) (iniN tab d)) (([PV.ref self, f, PV.ref n, p] : List PV).map some ++ List.replicate (16 - 4) none) s (fnR Q) E) : W (callN tab (d + 1) 6 [.ref self, f, .ref n, p]) s Q E := by
  rw [w_Caster_whole d rfl]
  exact W_cFn h
theorem find_walk : ∀ (t : Tm) (d N B B0 : Nat) (Γ : Zk44.Cx) (p : List Int) (self n : Nat) (s : Store) (Q : PV → Store → Prop), 2 * ht t + 60 ≤ d → p.length + ht t ≤ 900 → N + ht t ≤ 900 → Src B0 t → (∀ x u, Γ x = some u → u.dep ≤ B) → B0 ≤ B → B + msr t + 1 ≤ DB →
    s[self]? = some (.ins c_Caster []) → DR s n Γ N → (∀ k t' s', find t Γ p = some (k, t') → Gr s s' → Q (.tup [encT k, encM t']) s') → (find t Γ p = none → TPe E s) → W (callN tab d i_Caster_find [.ref self, encM t, .ref n, encP p]) s Q E
  | t, 0, N, B, B0, Γ, p, self, n, s, Q, hd, _, _, _, _, _, _, _, _, _, _ => absurd hd (by omega)
  | .int i, d + 1, N, B, B0, Γ, p, self, n, s, Q, hd, hp, hN, hs, hg, hb, hm, ho, hn, q, qe => by
    rw [w_Caster_find d rfl]
    refine W_cFn ?_
    unfold b_Caster_find
    simp only [encM]
    repeat infer_instance
    exact q .int (.int i) s rfl Gr.refl
  | .bool i, d + 1, N, B, B0, Γ, p, self, n, s, Q, hd, hp, hN, hs, hg, hb, hm, ho, hn, q, qe => by
    rw [w_Caster_find d rfl]
    refine W_cFn ?_
    unfold b_Caster_find
    simp only [encM]
    repeat infer_instance
    exact q .bool (.bool i) s rfl Gr.refl
  | .var x, d + 1, N, B, B0, Γ, p, self, n, s, Q, hd, hp, hN, hs, hg, hb, hm, ho, hn, q, qe => by
    rw [w_Caster_find d rfl]
    refine W_cFn ?_
    unfold b_Caster_find
    simp only [encM]
    repeat infer_instance
    obtain ⟨l, h1, h2, h3⟩ := hn
    refine w_ninK h1 rfl ?_
    unfold find at q qe
    rw [h3]
    cases hx : Γ x with
    | none =>
      rw [hx] at qe
      refine ift (by rfl) ?_
      repeat infer_instance
      exact qe rfl _ _ Gr.refl
    | some u =>
      rw [hx] at q
      refine iff_ (by simp) ?_
      repeat infer_instance
      refine w_getK h1 rfl (by rw [h3, hx]; rfl) ?_
      repeat infer_instance
      exact q u (.var x) s rfl Gr.refl
  | .lam x a b, d + 1, N, B, B0, Γ, p, self, n, s, Q, hd, hp, hN, hs, hg, hb, hm, ho, hn, q, qe => by
    rw [w_Caster_find d rfl]
    refine W_cFn ?_
    unfold b_Caster_find
    simp only [encM]
    repeat infer_instance
    obtain ⟨l, h1, h2, h3⟩ := hn
    refine w_dictK h1 ?_
    repeat infer_instance
    simp only [ht] at hd hp hN
    simp only [msr] at hm
    refine w_putD push_get (by omega) ?_
    repeat infer_instance
    have g1 : Gr s ((s ++ [SO.dct l]).set s.length (SO.dct (dput l (.inr x) (encT a)))) := Gr.push.put (Nat.le_refl _)
    refine w_methP (g1 _ _ ho) rfl rfl rfl ?_
    repeat infer_instance
    refine w_addT (by simp; omega) ?_
    repeat infer_instance
    rw [encP_app]
    refine find_walk b d (N + 1) B B0 (put Γ x a) _ self s.length _ _ (by omega) (by simp; omega) (by omega) hs.2 (put_dep hg (Nat.le_refl _) (Nat.le_trans hs.1 hb)) hb (by omega) (g1 _ _ ho) (DR.put h2 h3 (put_get (by simp))) (fun k t' s' hf g => ?_) (fun hf => ?_)
    · repeat infer_instance
      refine ⟨_, rfl, ?_⟩
      repeat infer_instance
      exact q (.arr a k) (.lam x a t') s' (by unfold find; rw [hf]) (g1.trans g)
    · exact fun f s' g => qe (by unfold find; rw [hf]) f s' (g1.trans g)
  | .lt x e b, d + 1, N, B, B0, Γ, p, self, n, s, Q, hd, hp, hN, hs, hg, hb, hm, ho, hn, q, qe => by
    rw [w_Caster_find d rfl]
    refine W_cFn ?_
    unfold b_Caster_find
    simp only [encM]
    repeat infer_instance
    simp only [ht] at hd hp hN
    simp only [msr] at hm
    refine w_methP ho rfl rfl rfl ?_
    repeat infer_instance
    refine w_addT (by simp; omega) ?_
    repeat infer_instance
    rw [encP_app]
    refine find_walk e d N B B0 Γ _ self n _ _ (by omega) (by simp; omega) (by omega) hs.1 hg hb (by omega) ho hn (fun k e' s1 hf g1 => ?_) (fun hf => fun f s' g => qe (by unfold find; rw [hf]) f s' g)
    repeat infer_instance
    refine ⟨_, rfl, ?_⟩
    repeat infer_instance
    obtain ⟨dk, _⟩ := find_wt (S := fun _ => True) e _ _ _ _ B hf hs.1 hg hb (by omega)
    obtain ⟨l, h1, h2, h3⟩ := hn.gr g1
    refine w_dictK h1 ?_
    repeat infer_instance
    refine w_putD push_get (by omega) ?_
    repeat infer_instance
    have g2 : Gr s1 ((s1 ++ [SO.dct l]).set s1.length (SO.dct (dput l (.inr x) (encT k)))) := Gr.push.put (Nat.le_refl _)
    refine w_methP (g2 _ _ (g1 _ _ ho)) rfl rfl rfl ?_
    repeat infer_instance
    refine w_addT (by simp; omega) ?_
    repeat infer_instance
    rw [encP_app]
    refine find_walk b d (N + 1) (B + msr e) B0 (put Γ x k) _ self s1.length _ _ (by omega) (by simp; omega) (by omega) hs.2 (put_dep hg (by omega) dk) (by omega) (by omega) (g2 _ _ (g1 _ _ ho)) (DR.put h2 h3 (put_get (by simp))) (fun r b' s' hf2 g => ?_) (fun hf2 => fun f s' g => qe (by unfold find; rw [hf]; dsimp only; rw [hf2]) f s' ((g1.trans g2).trans g))
    repeat infer_instance
    refine ⟨_, rfl, ?_⟩
    repeat infer_instance
    exact q r (.lt x e' b') s' (by unfold find; rw [hf]; dsimp only; rw [hf2]) ((g1.trans g2).trans g)
  | .as e u, d + 1, N, B, B0, Γ, p, self, n, s, Q, hd, hp, hN, hs, hg, hb, hm, ho, hn, q, qe => by
    rw [w_Caster_find d rfl]
    refine W_cFn ?_
    unfold b_Caster_find
    simp only [encM]
    repeat infer_instance
    simp only [ht] at hd hp hN
    simp only [msr] at hm
    refine w_methP ho rfl rfl rfl ?_
    repeat infer_instance
    refine w_addT (by simp; omega) ?_
    repeat infer_instance
    rw [encP_app]
    refine find_walk e d N B B0 Γ _ self n _ _ (by omega) (by simp; omega) (by omega) hs.1 hg hb (by omega) ho hn (fun k e' s1 hf g1 => ?_) (fun hf => fun f s' g => qe (by unfold find; rw [hf]) f s' g)
    repeat infer_instance
    refine ⟨_, rfl, ?_⟩
    repeat infer_instance
    obtain ⟨dk, _⟩ := find_wt (S := fun _ => True) e _ _ _ _ B hf hs.1 hg hb (by omega)
    have h5 := hs.2
    have hDB : DB = 38 := rfl
    refine w_methP (g1 _ _ ho) rfl rfl rfl ?_
    repeat infer_instance
    refine cast_walk (by omega) (by omega) (by omega) (fun e2 h2 => ?_) (fun h2 => fun f s' g => qe (by unfold find; rw [hf]; dsimp only; rw [h2]) f s' (g1.trans g))
    repeat infer_instance
    exact q u e2 s1 (by unfold find; rw [hf]; dsimp only; rw [h2]) g1
  | .app f a, d + 1, N, B, B0, Γ, p, self, n, s, Q, hd, hp, hN, hs, hg, hb, hm, ho, hn, q, qe => by
    rw [w_Caster_find d rfl]
    refine W_cFn ?_
    unfold b_Caster_find
    simp only [encM]
    repeat infer_instance
    simp only [ht] at hd hp hN
    simp only [msr] at hm
    refine w_methP ho rfl rfl rfl ?_
    repeat infer_instance
    obtain ⟨d, rfl⟩ : ∃ d', d = d' + 1 := ⟨d - 1, by omega⟩
    refine (w_whole (f := encM (.app f a)) ?_ : W (callN tab (d + 1) 6 [PV.ref self, encM (.app f a), PV.ref n, encP p]) s _ E)
    simp only [encM]
    unfold b_Caster_whole
    repeat infer_instance
    have hDB : DB = 38 := rfl
    have g0 : Gr s (s ++ [SO.lst []]) := Gr.push
    refine w_lcI (acc := []) rfl rfl ?_
    repeat infer_instance
    refine w_methP (g0 _ _ ho) rfl rfl rfl ?_
    repeat infer_instance
    refine w_addT (by simp; omega) ?_
    repeat infer_instance
    rw [encP_app]
    refine find_walk f d N B B0 Γ (p ++ [0]) self n _ _ (by omega) (by simp; omega) (by omega) hs.1 hg hb (by omega) (g0 _ _ ho) (hn.gr g0) (fun k f' s1 hf g1 => ?_) (fun hf => fun z s' g => qe (by unfold find; rw [hf]) z s' (g0.trans g))
    refine ⟨g1 _ _ push_get, by decide, ?_⟩
    obtain ⟨d1, _⟩ := find_wt (S := fun _ => True) f _ _ _ _ B hf hs.1 hg hb (by omega)
    have l1 := (g0.trans g1).len
    have l1' := g1.len
    generalize hs2 : s1.set s.length (SO.lst ([] ++ [.tup [encT k, encM f']])) = s2
    have g2 : Gr s s2 := by rw [← hs2]; exact (g0.trans g1).put (Nat.le_refl _)
    have e2 : s2[s.length]? = some (.lst [.tup [encT k, encM f']]) := by rw [← hs2]; exact put_get (by simp at l1'; omega)
    refine w_lcI (acc := [.tup [encT k, encM f']]) rfl rfl ?_
    repeat infer_instance
    refine w_methP (g2 _ _ ho) rfl rfl rfl ?_
    repeat infer_instance
    refine w_addT (by simp; omega) ?_
    repeat infer_instance
    rw [encP_app]
    refine find_walk a d N B B0 Γ (p ++ [1]) self n _ _ (by omega) (by simp; omega) (by omega) hs.2 hg hb (by omega) (g2 _ _ ho) (hn.gr g2) (fun own a' s3 ha g3 => ?_) (fun ha => fun z s' g => qe (by unfold find; rw [hf]; dsimp only; rw [ha]) z s' (g2.trans g))
    refine ⟨g3 _ _ e2, by simp, ?_⟩
    obtain ⟨d2, _⟩ := find_wt (S := fun _ => True) a _ _ _ _ B ha hs.2 hg hb (by omega)
    have l3 := (g2.trans g3).len
    have l3' := g3.len
    have l2 : s.length < s2.length := (List.getElem?_eq_some_iff.mp e2).1
    generalize hs4 : s3.set s.length (SO.lst ([.tup [encT k, encM f']] ++ [.tup [encT own, encM a']])) = s4
    have g4 : Gr s s4 := by rw [← hs4]; exact (g2.trans g3).put (Nat.le_refl _)
    have e4 : s4[s.length]? = some (.lst [.tup [encT k, encM f'], .tup [encT own, encM a']]) := by rw [← hs4]; exact put_get (by omega)
    refine w_lcE rfl ?_
    repeat infer_instance
    refine w_unlL (l := [.tup [encT k, encM f'], .tup [encT own, encM a']]) (by unfold lstOf; rw [e4]) ?_
    refine ⟨_, rfl, ?_⟩
    repeat infer_instance
    refine c_eqT (b := .any) (by omega) (Nat.zero_le _) ?_
    have unf := find_app hf ha
    refine ifd (fun e => ?_) fun e => ?_
    · subst e
      repeat infer_instance
      refine w_methP (g4 _ _ ho) rfl rfl rfl ?_
      repeat infer_instance
      refine w_addT (by simp; omega) ?_
      repeat infer_instance
      rw [encP_app]
      refine cast_walk (a := .any) (b := .arr own .any) (by simp only [Ty.dep]; omega) (Nat.zero_le _) (by simp only [Ty.dep]; omega) (fun f2 h2 => ?_) (fun h2 => fun z s' g => qe (by rw [unf]; unfold appP; dsimp only; rw [h2]) z s' (g4.trans g))
      repeat infer_instance
      exact q .any (.app f2 a') s4 (by rw [unf]; unfold appP; dsimp only; rw [h2]) g4
    · cases k with
      | any => exact absurd rfl e
      | arr x y =>
        simp only [Ty.dep] at d1
        simp only [encT]
        repeat infer_instance
        refine w_methP (g4 _ _ ho) rfl rfl rfl ?_
        repeat infer_instance
        refine w_addT (by simp; omega) ?_
        repeat infer_instance
        rw [encP_app]
        refine cast_walk (a := own) (b := x) (by omega) (by omega) (by omega) (fun f2 h2 => ?_) (fun h2 => fun z s' g => qe (by rw [unf]; unfold appP; dsimp only; rw [h2]) z s' (g4.trans g))
        repeat infer_instance
        exact q y (.app f' f2) s4 (by rw [unf]; unfold appP; dsimp only; rw [h2]) g4
      | _ =>
        simp only [encT]
        repeat infer_instance
        exact qe (by rw [unf]; rfl) _ _ g4
  | .op g f a, d + 1, N, B, B0, Γ, p, self, n, s, Q, hd, hp, hN, hs, hg, hb, hm, ho, hn, q, qe => by
    rw [w_Caster_find d rfl]
    refine W_cFn ?_
    unfold b_Caster_find
    simp only [encM]
    repeat infer_instance
    simp only [ht] at hd hp hN
    simp only [msr] at hm
    refine w_methP ho rfl rfl rfl ?_
    repeat infer_instance
    obtain ⟨d, rfl⟩ : ∃ d', d = d' + 1 := ⟨d - 1, by omega⟩
    refine (w_whole (f := encM (.op g f a)) ?_ : W (callN tab (d + 1) 6 [PV.ref self, encM (.op g f a), PV.ref n, encP p]) s _ E)
    simp only [encM]
    unfold b_Caster_whole
    repeat infer_instance
    have hDB : DB = 38 := rfl
    have g0 : Gr s (s ++ [SO.lst []]) := Gr.push
    refine w_lcI (acc := []) rfl rfl ?_
    repeat infer_instance
    refine w_methP (g0 _ _ ho) rfl rfl rfl ?_
    repeat infer_instance
    refine w_addT (by simp; omega) ?_
    repeat infer_instance
    rw [encP_app]
    refine find_walk f d N B B0 Γ (p ++ [0]) self n _ _ (by omega) (by simp; omega) (by omega) hs.1 hg hb (by omega) (g0 _ _ ho) (hn.gr g0) (fun k f' s1 hf g1 => ?_) (fun hf => fun z s' g => qe (by unfold find; rw [hf]) z s' (g0.trans g))
    refine ⟨g1 _ _ push_get, by decide, ?_⟩
    obtain ⟨d1, _⟩ := find_wt (S := fun _ => True) f _ _ _ _ B hf hs.1 hg hb (by omega)
    have l1 := (g0.trans g1).len
    have l1' := g1.len
    generalize hs2 : s1.set s.length (SO.lst ([] ++ [.tup [encT k, encM f']])) = s2
    have g2 : Gr s s2 := by rw [← hs2]; exact (g0.trans g1).put (Nat.le_refl _)
    have e2 : s2[s.length]? = some (.lst [.tup [encT k, encM f']]) := by rw [← hs2]; exact put_get (by simp at l1'; omega)
    refine w_lcI (acc := [.tup [encT k, encM f']]) rfl rfl ?_
    repeat infer_instance
    refine w_methP (g2 _ _ ho) rfl rfl rfl ?_
    repeat infer_instance
    refine w_addT (by simp; omega) ?_
    repeat infer_instance
    rw [encP_app]
    refine find_walk a d N B B0 Γ (p ++ [1]) self n _ _ (by omega) (by simp; omega) (by omega) hs.2 hg hb (by omega) (g2 _ _ ho) (hn.gr g2) (fun own a' s3 ha g3 => ?_) (fun ha => fun z s' g => qe (by unfold find; rw [hf]; dsimp only; rw [ha]) z s' (g2.trans g))
    refine ⟨g3 _ _ e2, by simp, ?_⟩
    obtain ⟨d2, _⟩ := find_wt (S := fun _ => True) a _ _ _ _ B ha hs.2 hg hb (by omega)
    have l3 := (g2.trans g3).len
    have l3' := g3.len
    have l2 : s.length < s2.length := (List.getElem?_eq_some_iff.mp e2).1
    generalize hs4 : s3.set s.length (SO.lst ([.tup [encT k, encM f']] ++ [.tup [encT own, encM a']])) = s4
    have g4 : Gr s s4 := by rw [← hs4]; exact (g2.trans g3).put (Nat.le_refl _)
    have e4 : s4[s.length]? = some (.lst [.tup [encT k, encM f'], .tup [encT own, encM a']]) := by rw [← hs4]; exact put_get (by omega)
    refine w_lcE rfl ?_
    repeat infer_instance
    have unf := find_op (g := g) hf ha
    refine w_enL (lst_of e4) ?_
    rw [lenE e4]
    have g5 : Gr s (s4 ++ [SO.lst []]) := g4.app
    refine w_lcI (acc := []) (by rw [getE (Gr.push _ _ e4)]; rfl) rfl ?_
    repeat infer_instance
    refine w_methP (g5 _ _ ho) rfl rfl rfl ?_
    repeat infer_instance
    refine w_addT (by simp; omega) ?_
    repeat infer_instance
    rw [encP_app]
    refine cast_walk (a := k) (b := .int) (l := p ++ [0]) (by omega) (by omega) (Nat.zero_le _) (fun f2 h2 => ?_) (fun h2 => fun z s' g => qe (by rw [unf, h2]) z s' (g5.trans g))
    refine ⟨push_get, by decide, ?_⟩
    generalize hs5 : (s4 ++ [SO.lst []]).set s4.length (SO.lst ([] ++ [encM f2])) = s5
    have l4 : s.length ≤ s4.length := g4.len
    have g6 : Gr s s5 := by rw [← hs5]; exact g5.put l4
    have g64 : Gr s4 s5 := by rw [← hs5]; exact Gr.push.put (Nat.le_refl _)
    have e6 : s5[s4.length]? = some (.lst [encM f2]) := by rw [← hs5]; exact put_get (by simp)
    refine w_lcI (acc := [encM f2]) (by rw [getE (g64 _ _ e4)]; rfl) rfl ?_
    repeat infer_instance
    refine w_methP (g6 _ _ ho) rfl rfl rfl ?_
    repeat infer_instance
    refine w_addT (by simp; omega) ?_
    repeat infer_instance
    rw [encP_app]
    refine cast_walk (a := own) (b := .int) (l := p ++ [1]) (by omega) (by omega) (Nat.zero_le _) (fun a2 h3 => ?_) (fun h3 => fun z s' g => qe (by rw [unf, h2]; dsimp only; rw [h3]) z s' (g6.trans g))
    refine ⟨e6, by simp, ?_⟩
    generalize hs7 : s5.set s4.length (SO.lst ([encM f2] ++ [encM a2])) = s7
    have g7 : Gr s s7 := by rw [← hs7]; exact g6.put l4
    have g74 : Gr s4 s7 := by rw [← hs7]; exact g64.put (Nat.le_refl _)
    have e7 : s7[s4.length]? = some (.lst [encM f2, encM a2]) := by rw [← hs7]; exact put_get (List.getElem?_eq_some_iff.mp e6).1
    refine w_lcE (by rw [getE (g74 _ _ e4)]; rfl) ?_
    repeat infer_instance
    have fin := q g.ty (.op g f2 a2) s7 (by rw [unf, h2]; dsimp only; rw [h3]) g7
    cases g <;>
    · repeat infer_instance
      refine w_at (lst_of e7) rfl ?_
      repeat infer_instance
      refine w_at (lst_of e7) rfl ?_
      repeat infer_instance
      exact fin
  | .ite f a b, d + 1, N, B, B0, Γ, p, self, n, s, Q, hd, hp, hN, hs, hg, hb, hm, ho, hn, q, qe => by
    rw [w_Caster_find d rfl]
    refine W_cFn ?_
    unfold b_Caster_find
    simp only [encM]
    repeat infer_instance
    simp only [ht] at hd hp hN
    simp only [msr] at hm
    refine w_methP ho rfl rfl rfl ?_
    repeat infer_instance
    obtain ⟨d, rfl⟩ : ∃ d', d = d' + 1 := ⟨d - 1, by omega⟩
    refine (w_whole (f := encM (.ite f a b)) ?_ : W (callN tab (d + 1) 6 [PV.ref self, encM (.ite f a b), PV.ref n, encP p]) s _ E)
    simp only [encM]
    unfold b_Caster_whole
    repeat infer_instance
    have hDB : DB = 38 := rfl
    have g0 : Gr s (s ++ [SO.lst []]) := Gr.push
    refine w_lcI (acc := []) rfl rfl ?_
    repeat infer_instance
    refine w_methP (g0 _ _ ho) rfl rfl rfl ?_
    repeat infer_instance
    refine w_addT (by simp; omega) ?_
    repeat infer_instance
    rw [encP_app]
    refine find_walk f d N B B0 Γ (p ++ [0]) self n _ _ (by omega) (by simp; omega) (by omega) hs.1 hg hb (by omega) (g0 _ _ ho) (hn.gr g0) (fun k f' s1 hf g1 => ?_) (fun hf => fun z s' g => qe (by unfold find; rw [hf]) z s' (g0.trans g))
    refine ⟨g1 _ _ push_get, by decide, ?_⟩
    obtain ⟨d1, _⟩ := find_wt (S := fun _ => True) f _ _ _ _ B hf hs.1 hg hb (by omega)
    have l1 := (g0.trans g1).len
    have l1' := g1.len
    generalize hs2 : s1.set s.length (SO.lst ([] ++ [.tup [encT k, encM f']])) = s2
    have g2 : Gr s s2 := by rw [← hs2]; exact (g0.trans g1).put (Nat.le_refl _)
    have e2 : s2[s.length]? = some (.lst [.tup [encT k, encM f']]) := by rw [← hs2]; exact put_get (by simp at l1'; omega)
    refine w_lcI (acc := [.tup [encT k, encM f']]) rfl rfl ?_
    repeat infer_instance
    refine w_methP (g2 _ _ ho) rfl rfl rfl ?_
    repeat infer_instance
    refine w_addT (by simp; omega) ?_
    repeat infer_instance
    rw [encP_app]
    refine find_walk a d N B B0 Γ (p ++ [1]) self n _ _ (by omega) (by simp; omega) (by omega) hs.2.1 hg hb (by omega) (g2 _ _ ho) (hn.gr g2) (fun own a' s3 ha g3 => ?_) (fun ha => fun z s' g => qe (by unfold find; rw [hf]; dsimp only; rw [ha]) z s' (g2.trans g))
    refine ⟨g3 _ _ e2, by simp, ?_⟩
    obtain ⟨d2, _⟩ := find_wt (S := fun _ => True) a _ _ _ _ B ha hs.2.1 hg hb (by omega)
    have l3 := (g2.trans g3).len
    have l3' := g3.len
    have l2 : s.length < s2.length := (List.getElem?_eq_some_iff.mp e2).1
    generalize hs4 : s3.set s.length (SO.lst ([.tup [encT k, encM f']] ++ [.tup [encT own, encM a']])) = s4
    have g4 : Gr s s4 := by rw [← hs4]; exact (g2.trans g3).put (Nat.le_refl _)
    have e4 : s4[s.length]? = some (.lst [.tup [encT k, encM f'], .tup [encT own, encM a']]) := by rw [← hs4]; exact put_get (by omega)
    refine w_lcI (acc := [.tup [encT k, encM f'], .tup [encT own, encM a']]) rfl rfl ?_
    repeat infer_instance
    refine w_methP (g4 _ _ ho) rfl rfl rfl ?_
    repeat infer_instance
    refine w_addT (by simp; omega) ?_
    repeat infer_instance
    rw [encP_app]
    refine find_walk b d N B B0 Γ (p ++ [2]) self n _ _ (by omega) (by simp; omega) (by omega) hs.2.2 hg hb (by omega) (g4 _ _ ho) (hn.gr g4) (fun kb b' s5 hb' g5 => ?_) (fun hb' => fun z s' g => qe (by unfold find; rw [hf]; dsimp only; rw [ha]; dsimp only; rw [hb']) z s' (g4.trans g))
    refine ⟨g5 _ _ e4, by simp, ?_⟩
    obtain ⟨d3, _⟩ := find_wt (S := fun _ => True) b _ _ _ _ B hb' hs.2.2 hg hb (by omega)
    have l4 : s.length < s4.length := (List.getElem?_eq_some_iff.mp e4).1
    have l5 := g5.len
    generalize hs6 : s5.set s.length (SO.lst ([.tup [encT k, encM f'], .tup [encT own, encM a']] ++ [.tup [encT kb, encM b']])) = s6
    have g6 : Gr s s6 := by rw [← hs6]; exact (g4.trans g5).put (Nat.le_refl _)
    have e6 : s6[s.length]? = some (.lst [.tup [encT k, encM f'], .tup [encT own, encM a'], .tup [encT kb, encM b']]) := by rw [← hs6]; exact put_get (by omega)
    have unf := find_ite hf ha hb'
    refine w_lcE rfl ?_
    repeat infer_instance
    refine w_methP (g6 _ _ ho) rfl rfl rfl ?_
    repeat infer_instance
    refine w_at (lst_of e6) rfl ?_
    repeat infer_instance
    refine w_at (lst_of e6) rfl ?_
    repeat infer_instance
    refine w_addT (by simp; omega) ?_
    repeat infer_instance
    rw [encP_app]
    refine cast_walk (a := k) (b := .bool) (by omega) (by omega) (Nat.zero_le _) (fun f2 h2 => ?_) (fun h2 => fun z s' g => qe (by rw [unf, h2]) z s' (g6.trans g))
    repeat infer_instance
    refine w_at (lst_of e6) rfl ?_
    repeat infer_instance
    refine w_at (lst_of e6) rfl ?_
    repeat infer_instance
    refine common_ok own kb d _ (by omega) (by omega) (by omega) ?_
    cases hk : common own kb with
    | none =>
      repeat infer_instance
      exact qe (by rw [unf, h2]; dsimp only; rw [hk]) _ _ g6
    | some u =>
      have du := common_dep hk
      obtain ⟨ul, eu⟩ := encT_tup u
      rw [show encO (some u) = PV.tup ul from eu]
      repeat infer_instance
      have g7 : Gr s (s6 ++ [SO.lst []]) := g6.app
      have l6 : s.length < s6.length := (List.getElem?_eq_some_iff.mp e6).1
      have e7 := (Gr.push (r := [SO.lst []])) _ _ e6
      refine w_lcI (acc := []) rfl rfl ?_
      repeat infer_instance
      refine w_methP (g7 _ _ ho) rfl rfl rfl ?_
      repeat infer_instance
      refine w_at (lst_of e7) rfl ?_
      repeat infer_instance
      refine w_at (lst_of e7) rfl ?_
      repeat infer_instance
      refine w_addT (by simp; omega) ?_
      repeat infer_instance
      rw [encP_app, ← eu]
      refine cast_walk (a := own) (b := u) (by omega) (by omega) (by omega) (fun a2 h3 => ?_) (fun h3 => fun z s' g => qe (by rw [unf, h2]; dsimp only; rw [hk]; dsimp only; rw [h3]) z s' (g7.trans g))
      refine ⟨push_get, by decide, ?_⟩
      generalize hs8 : (s6 ++ [SO.lst []]).set s6.length (SO.lst ([] ++ [encM a2])) = s8
      have g8 : Gr s s8 := by rw [← hs8]; exact g7.put (by omega)
      have g86 : Gr s6 s8 := by rw [← hs8]; exact Gr.push.put (Nat.le_refl _)
      have e8 : s8[s6.length]? = some (.lst [encM a2]) := by rw [← hs8]; exact put_get (by simp)
      refine w_lcI (acc := [encM a2]) rfl rfl ?_
      rw [eu]
      repeat infer_instance
      refine w_methP (g8 _ _ ho) rfl rfl rfl ?_
      repeat infer_instance
      refine w_at (lst_of (g86 _ _ e6)) rfl ?_
      repeat infer_instance
      refine w_at (lst_of (g86 _ _ e6)) rfl ?_
      repeat infer_instance
      refine w_addT (by simp; omega) ?_
      repeat infer_instance
      rw [encP_app, ← eu]
      refine cast_walk (a := kb) (b := u) (by omega) (by omega) (by omega) (fun b2 h4 => ?_) (fun h4 => fun z s' g => qe (by rw [unf, h2]; dsimp only; rw [hk]; dsimp only; rw [h3]; dsimp only; rw [h4]) z s' (g8.trans g))
      refine ⟨e8, by simp, ?_⟩
      generalize hs9 : s8.set s6.length (SO.lst ([encM a2] ++ [encM b2])) = s9
      have g9 : Gr s s9 := by rw [← hs9]; exact g8.put (by omega)
      have e9 : s9[s6.length]? = some (.lst [encM a2, encM b2]) := by rw [← hs9]; exact put_get (List.getElem?_eq_some_iff.mp e8).1
      refine w_lcE rfl ?_
      rw [eu]
      repeat infer_instance
      refine w_at (lst_of e9) rfl ?_
      repeat infer_instance
      refine w_at (lst_of e9) rfl ?_
      repeat infer_instance
      rw [← eu]
      exact q u (.ite f2 a2 b2) s9 (by rw [unf, h2]; dsimp only; rw [hk]; dsimp only; rw [h3]; dsimp only; rw [h4]) g9
  | .cast _ _ _ _, d + 1, N, B, B0, Γ, p, self, n, s, Q, hd, hp, hN, hs, hg, hb, hm, ho, hn, q, qe => hs.elim
end
end Zk44

end
section
set_option maxHeartbeats 4000000
namespace Zk44
open PySem L2 Z
local macro_rules | `(tactic| infer_instance) => `(tactic| first
  | with_reducible first
    | refine k_asg ?_ | refine k_exp ?_ | refine k_ret ?_ | refine k_pop ?_ | refine k_retN ?_ | refine k_ixSet ?_ | refine k_fldSet ?_ | refine k_aug ?_ | refine k_par ?_ | refine k_unp ?_ | refine k_pass ?_ | refine k_cont ?_ | refine k_break ?_ | refine k_rai0 ?_ | refine k_whl ?_ | refine k_in ?_ | refine k_end ?_
    | refine w_call ?_ | refine w_cons ?_ | refine w_nil ?_ | refine w_e2 ?_ | refine w_e1 ?_ | refine w_cmp ?_ | refine w_tcmp ?_ | refine w_ttru ?_ | refine w_sl ?_ | refine w_meth ?_ | refine w_dct ?_ | refine w_lc ?_ | refine w_unlT ?_ | refine w_dct0 ?_ | refine w_bare ?_ | refine w_and ?_ | refine w_or ?_ | refine w_part ?_ | refine w_walk ?_ | refine w_of ?_
    | refine lp_n ?_ | refine lp_c ?_ | refine lp_b ?_ | refine lp_r ?_ | refine sq_n ?_ | refine sq_r ?_ | refine fnR_n ?_ | refine fnR_r ?_ | refine if_ff ?_ | refine if_tt ?_
  | ((with_reducible apply k_if0); (case e => exact rfl))
  | ((with_reducible apply k_if1); (case e => exact rfl))
  | with_reducible refine k_if ?_
  | ((with_reducible apply w_if0); (case e => exact rfl))
  | ((with_reducible apply w_if1); (case e => exact rfl))
  | with_reducible first | refine w_if ?_ | refine w_tand ?_ | refine w_tor ?_ | refine w_tnot ?_ | refine k_for ?_
  | ((with_reducible apply w_tup); (case hl => exact Nat.le_of_ble_eq_true rfl))
  | ((with_reducible apply w_lst); (case hl => exact Nat.le_of_ble_eq_true rfl))
  | ((with_reducible apply k_rai); (case h1 => exact rfl); (case h2 => exact Nat.le_of_ble_eq_true rfl))
  | ((with_reducible apply if_r0); (case h => exact rfl))
  | ((with_reducible apply if_r1); (case h => exact rfl))
  | ((with_reducible apply W_ok); (case h => exact rfl)))
section
variable {s : Store} {E : XP}
theorem with_walk {t : Tm} {d B0 : Nat} {Q : PV → Store → Prop} (hd : 2 * ht t + 61 ≤ d) (hh : ht t ≤ 800) (hs : Src B0 t) (hm : B0 + msr t + 1 ≤ DB)
    (q : ∀ k t' s', find t (fun _ => none) [] = some (k, t') → Gr s s' → Q (.tup [encT k, encM t']) s') (qe : find t (fun _ => none) [] = none → TPe E s) : W (callN tab d i_with_casts [encM t]) s Q E := by
  obtain ⟨d, rfl⟩ : ∃ d', d = d' + 1 := ⟨d - 1, by omega⟩
  rw [w_with_casts d rfl]
  refine W_cFn ?_
  unfold b_with_casts
  repeat infer_instance
  refine w_methP push_get rfl rfl rfl ?_
  repeat infer_instance
  have g : Gr s ((s ++ [SO.ins 3 []]) ++ [SO.dct []]) := Gr.push.app
  refine find_walk t d 0 B0 B0 (fun _ => none) [] s.length (s ++ [SO.ins 3 []]).length _ _ (by omega) (by simp; omega) (by omega) hs (fun x u h => by cases h) (Nat.le_refl _) hm (Gr.push _ _ push_get) ⟨[], dctOf_dct push_get, Nat.zero_le _, fun x => rfl⟩ (fun k t' s' h g1 => q k t' s' h (g.trans g1)) (fun h f s' g1 => qe h f s' (g.trans g1))
theorem mul_ok {i j : Int} (h1 : 0 ≤ i) (h2 : i < WHOLE) : mulB i j = true := by
  unfold mulB
  unfold WHOLE at h2
  rw [decide_eq_true (show -(2 ^ 64) < i by omega), decide_eq_true (show i < 2 ^ 64 by omega)]
  rfl
/-- what is done, as data -/
def encB : Vl → PV
  | .int i => .tup [.str "int", .int i]
  | .bool b => .tup [.str "bool", .bl b]
  | _ => .non
theorem reckon_ok {g : Sg} {i j : Int} {d : Nat} {Q : PV → Store → Prop} (hi : 0 ≤ i) (hi2 : i < WHOLE) (hd : 1 ≤ d) (q : ∀ s', Gr s s' → Q (encB (reckon g i j)) s') : W (callN tab d i_reckon [.str g.str, .int i, .int j]) s Q E := by
  obtain ⟨d, rfl⟩ : ∃ d', d = d' + 1 := ⟨d - 1, by omega⟩
  rw [w_reckon d rfl]
  refine W_cFn ?_
  unfold b_reckon
  have fin : ∀ x : Int, g.str ≠ "==" → g.str ≠ "<" → True := fun _ _ _ => trivial
  cases g with
  | eq =>
    repeat infer_instance
    exact q s Gr.refl
  | lt =>
    repeat infer_instance
    exact q s Gr.refl
  | add =>
    repeat infer_instance
    refine w_mul (mul_ok hi hi2) ?_
    repeat infer_instance
    refine ⟨push_get, ?_⟩
    repeat infer_instance
    refine w_get (v := .int (i + j)) (put_get (by simp)) rfl ?_
    repeat infer_instance
    exact q _ (Gr.push.put (Nat.le_refl _))
  | sub =>
    repeat infer_instance
    refine w_mul (mul_ok hi hi2) ?_
    repeat infer_instance
    refine ⟨push_get, ?_⟩
    repeat infer_instance
    refine w_get (v := .int (i - j)) (put_get (by simp)) rfl ?_
    repeat infer_instance
    exact q _ (Gr.push.put (Nat.le_refl _))
  | mul =>
    repeat infer_instance
    refine w_mul (mul_ok hi hi2) ?_
    repeat infer_instance
    refine ⟨push_get, ?_⟩
    repeat infer_instance
    refine w_get (v := .int (i * j)) (put_get (by simp)) rfl ?_
    repeat infer_instance
    exact q _ (Gr.push.put (Nat.le_refl _))
end
/-- a value, as data in a store; N: the greatest size of an environment -/
inductive VR (s : Store) (N : Nat) : Vl → PV → Prop where
  | int {n : Int} : VR s N (.int n) (.tup [.str "int", .int n])
  | bool {b : Bool} : VR s N (.bool b) (.tup [.str "bool", .bl b])
  | clos {x : Str} {b : Tm} {env : Env} {n : Nat} {l : List (Key × PV)} {g : Str → PV} : dctOf s n = some l → l.length ≤ N → (∀ y v, env y = some v → dget l (.inr y) = some (g y)) → (∀ y v, env y = some v → VR s N v (g y)) → VR s N (.clos x b env) (.tup [.str "closure", .str x, encM b, .ref n])
  | wrap {f : Vl} {pf : PV} {a b : Ty} {l : List Int} {p : Bool} : VR s N f pf → VR s N (.wrap f a b l p) (.tup [.str "wrapped", pf, encT a, encT b, .tup [encP l, .bl p]])
  | tag {v : Vl} {pv : PV} {t : Ty} : VR s N v pv → VR s N (.tag v t) (.tup [.str "tagged", pv, encT t])
theorem VR.mono {s s' : Store} {N N' : Nat} {v : Vl} {pv : PV} (h : VR s N v pv) (hd : ∀ n l, dctOf s n = some l → dctOf s' n = some l) (hn : N ≤ N') : VR s' N' v pv := by
  induction h with
  | int => exact .int
  | bool => exact .bool
  | clos h1 h2 h3 h4 ih => exact .clos (hd _ _ h1) (Nat.le_trans h2 hn) h3 ih
  | wrap h ih => exact .wrap ih
  | tag h ih => exact .tag ih
def EnvR (s : Store) (N n : Nat) (env : Env) : Prop := ∃ l, dctOf s n = some l ∧ l.length ≤ N ∧ ∀ y v, env y = some v → ∃ pv, dget l (.inr y) = some pv ∧ VR s N v pv
theorem EnvR.mono {s s' : Store} {N N' n : Nat} {env : Env} (h : EnvR s N n env) (hd : ∀ n l, dctOf s n = some l → dctOf s' n = some l) (hn : N ≤ N') : EnvR s' N' n env := by
  obtain ⟨l, a, b, c⟩ := h
  refine ⟨l, hd _ _ a, Nat.le_trans b hn, fun y v e => ?_⟩
  obtain ⟨pv, e1, e2⟩ := c y v e
  exact ⟨pv, e1, e2.mono hd hn⟩
theorem EnvR.clos {s : Store} {N n : Nat} {env : Env} {x : Str} {b : Tm} (h : EnvR s N n env) : VR s N (.clos x b env) (.tup [.str "closure", .str x, encM b, .ref n]) := by
  obtain ⟨l, a, b, c⟩ := h
  refine .clos (g := fun y => (dget l (.inr y)).getD .non) a b (fun y v e => ?_) fun y v e => ?_
  · obtain ⟨pv, e1, _⟩ := c y v e
    rw [e1]; rfl
  · obtain ⟨pv, e1, e2⟩ := c y v e
    rw [e1]; exact e2
theorem VR.env {s : Store} {N : Nat} {env : Env} {x : Str} {b : Tm} {pv : PV} (h : VR s N (.clos x b env) pv) : ∃ n, pv = .tup [.str "closure", .str x, encM b, .ref n] ∧ EnvR s N n env := by
  cases h with
  | clos h1 h2 h3 h4 => exact ⟨_, rfl, _, h1, h2, fun y v e => ⟨_, h3 y v e, h4 y v e⟩⟩
abbrev fuelO (n : Nat) : SO := .ins c_CastRun [("fuel", .int (n : Int))]
theorem Kp.dct {t : Nat} {s s' : Store} (k : Kp t s s') {o : SO} (ht : s[t]? = some o) (ho : ∀ l, o ≠ .dct l) (hr : ∀ l, o ≠ .rod l) : ∀ n l, dctOf s n = some l → dctOf s' n = some l := fun n l h => by
  have hn : n ≠ t := by
    rintro rfl
    unfold dctOf at h
    rw [ht] at h
    cases o with
    | dct l => exact ho _ rfl
    | rod l => exact hr _ rfl
    | _ => cases h
  unfold dctOf at h ⊢
  cases e : s[n]? with
  | none => rw [e] at h; cases h
  | some u => rw [e] at h; rw [k.get e hn]; exact h
def PostR (self : Nat) (s : Store) (Q : PV → Store → Prop) (E : XP) : R → Prop
  | .done v m => ∀ pv s', VR s' (900 - m) v pv → Kp self s s' → s'[self]? = some (fuelO m) → Q (.tup [.str "done", pv]) s'
  | .blame l p _ => ∀ s', Kp self s s' → Q (.tup [.str "blame", encP l, .bl p]) s'
  | .tired => ∀ s', Kp self s s' → E c_Tired [] s'
  | .stuck => True
theorem PostR.base {self : Nat} {s s' : Store} {Q : PV → Store → Prop} {E : XP} {r : R} (h : PostR self s Q E r) (k : Kp self s s') : PostR self s' Q E r := by
  cases r with
  | done v m => exact fun pv s2 a b c => h pv s2 a (k.trans b) c
  | blame l p m => exact fun s2 a => h s2 (k.trans a)
  | tired => exact fun s2 a => h s2 (k.trans a)
  | stuck => trivial
theorem PostR.sub {S : List Int → Prop} {P : Vl → Prop} {self n : Nat} {s : Store} {Q Q1 : PV → Store → Prop} {E : XP} {r : R} {f : Vl → Nat → R} (hP : PostR self s Q E (r.bind f)) (hG : GR S P n r)
    (h1 : ∀ v m pv s', P v → m < n → VR s' (900 - m) v pv → Kp self s s' → s'[self]? = some (fuelO m) → PostR self s' Q E (f v m) → Q1 (.tup [.str "done", pv]) s')
    (h2 : ∀ l p s', Q (.tup [.str "blame", encP l, .bl p]) s' → Q1 (.tup [.str "blame", encP l, .bl p]) s') : PostR self s Q1 E r := by
  cases r with
  | done v m => exact fun pv s' a b c => h1 v m pv s' hG.1 hG.2 a b c (PostR.base hP b)
  | blame l p m => exact fun s' a => h2 l p s' (hP s' a)
  | tired => exact hP
  | stuck => trivial
end Zk44

end
section
set_option maxHeartbeats 4000000
namespace Zk44
open PySem L2 Z
local macro_rules | `(tactic| infer_instance) => `(tactic| first
  | with_reducible first
    | refine k_asg ?_ | refine k_exp ?_ | refine k_ret ?_ | refine k_pop ?_ | refine k_retN ?_ | refine k_ixSet ?_ | refine k_fldSet ?_ | refine k_aug ?_ | refine k_par ?_ | refine k_unp ?_ | refine k_pass ?_ | refine k_cont ?_ | refine k_break ?_ | refine k_rai0 ?_ | refine k_whl ?_ | refine k_in ?_ | refine k_end ?_
    | refine w_call ?_ | refine w_cons ?_ | refine w_nil ?_ | refine w_e2 ?_ | refine w_e1 ?_ | refine w_cmp ?_ | refine w_tcmp ?_ | refine w_ttru ?_ | refine w_sl ?_ | refine w_meth ?_ | refine w_dct ?_ | refine w_lc ?_ | refine w_unlT ?_ | refine w_dct0 ?_ | refine w_bare ?_ | refine w_and ?_ | refine w_or ?_ | refine w_part ?_ | refine w_walk ?_ | refine w_of ?_
    | refine lp_n ?_ | refine lp_c ?_ | refine lp_b ?_ | refine lp_r ?_ | refine sq_n ?_ | refine sq_r ?_ | refine fnR_n ?_ | refine fnR_r ?_ | refine if_ff ?_ | refine if_tt ?_
  | ((with_reducible apply k_if0); (case e => exact rfl))
  | ((with_reducible apply k_if1); (case e => exact rfl))
  | with_reducible refine k_if ?_
  | ((with_reducible apply w_if0); (case e => exact rfl))
  | ((with_reducible apply w_if1); (case e => exact rfl))
  | with_reducible first | refine w_if ?_ | refine w_tand ?_ | refine w_tor ?_ | refine w_tnot ?_ | refine k_for ?_
  | ((with_reducible apply w_tup); (case hl => exact Nat.le_of_ble_eq_true rfl))
  | ((with_reducible apply w_lst); (case hl => exact Nat.le_of_ble_eq_true rfl))
  | ((with_reducible apply k_rai); (case h1 => exact rfl); (case h2 => exact Nat.le_of_ble_eq_true rfl))
  | ((with_reducible apply if_r0); (case h => exact rfl))
  | ((with_reducible apply if_r1); (case h => exact rfl))
  | ((with_reducible apply W_ok); (case h => exact rfl)))
def ChangedP (S : List Int → Prop) (d : Nat) : Prop := ∀ (n : Nat) (v : Vl) (a b : Ty) (l : List Int) (p : Bool) (self : Nat) (s : Store) (pv : PV) (Q : PV → Store → Prop) (E : XP), VT S v a → fits a b = true → a.dep ≤ DB → b.dep ≤ DB → S l → n + 1 ≤ d → n ≤ 900 →
  s[self]? = some (fuelO n) → VR s (900 - n) v pv → PostR self s Q E ((ev d).changed n v a b l p) → W (callN tab (d + 1) i_CastRun_changed [.ref self, pv, encT a, encT b, .tup [encP l, .bl p]]) s Q E
theorem VR.kp {self n m : Nat} {s s' : Store} {v : Vl} {pv : PV} (h : VR s (900 - n) v pv) (hs : s[self]? = some (fuelO n)) (k : Kp self s s') (hm : m ≤ n) : VR s' (900 - m) v pv := h.mono (Zk44.Kp.dct k hs (fun l h => by cases h) fun l h => by cases h) (by omega)
theorem EnvR.kp {self n m ne : Nat} {s s' : Store} {env : Env} (h : EnvR s (900 - n) ne env) (hs : s[self]? = some (fuelO n)) (k : Kp self s s') (hm : m ≤ n) : EnvR s' (900 - m) ne env := h.mono (Zk44.Kp.dct k hs (fun l h => by cases h) fun l h => by cases h) (by omega)
/-- a unit of fuel is spent -/
theorem spent {self n : Nat} {s1 : Store} (h : s1[self]? = some (.ins 4 (putFP "fuel" (.int ((n + 1 : Nat) - 1 : Int)) [("fuel", .int ((n + 1 : Nat) : Int))]))) : s1[self]? = some (fuelO n) := by
  rw [h]
  exact congrArg (fun z => some (SO.ins 4 [("fuel", PV.int z)])) (show ((n + 1 : Nat) : Int) - 1 = n by omega)
theorem nz {n : Nat} : ¬((((n + 1 : Nat) : Int)) = 0) := by omega
theorem hd_arr {a : Ty} {P : Bool → Store → Prop} {s : Store} {E : XP} {ρ : Sl} {i : Nat} (hi : ρ[i]? = some (some (encT a))) (q : P (decide (a.hd = 3)) s) : W (Z.tCmp .Eq (e2 ixP (sl i) (kst (.int 0))) (kst (.str "arrow")) ρ) s P E := by
  refine w_tcmp (w_e2 (W_ok (a := encT a) (s' := s) ?_ (W_ok (a := .int 0) (s' := s) rfl ?_)))
  · show sl i ρ s = _
    unfold sl
    rw [hi]
    rfl
  · cases a <;> exact W_ok rfl (W_ok rfl (W_ok rfl q))
theorem c_neT {a b : Ty} {s : Store} {P : Bool → Store → Prop} {E : XP} (h : a.dep ≤ DB) (h2 : b.dep ≤ DB) (q : P (!decide (a = b)) s) : W (cmpP .NotEq (encT a) (encT b)) s P E := by
  show W (bnd (eqP (encT a) (encT b)) fun b => ret (!b)) s P E
  rw [W_bnd]
  exact W_ok (eq_T h h2) (by rw [W_ret]; exact q)
theorem changed_walk {S : List Int → Prop} {d : Nat} (ih : ChangedP S d) : ChangedP S (d + 1) := by
  intro n v a b l p self s pv Q E hv hfit da db sl hd hn hs hr hP
  show W (callN tab ((d + 1) + 1) 11 _) _ _ _
  rw [w_CastRun_changed (d + 1) rfl]
  refine W_cFn ?_
  unfold b_CastRun_changed
  repeat infer_instance
  refine w_fld hs (by rfl) (by rfl) (by rfl) ?_
  repeat infer_instance
  cases n with
  | zero =>
    refine ift (by rfl) ?_
    repeat infer_instance
    exact hP s Kp.refl
  | succ m =>
    refine ifd (fun h => absurd h nz) fun _ => ?_
    repeat infer_instance
    refine w_fld hs (by rfl) (by rfl) (by rfl) ?_
    repeat infer_instance
    refine ⟨rfl, _, _, rfl, rfl, ?_⟩
    refine w_fldSet hs (by rfl) (by rfl) (Nat.le_of_ble_eq_true rfl) fun s1 i1 k1 l1 => ?_
    have i2 := spent i1
    have hr1 : VR s1 (900 - m) v pv := hr.kp hs k1 (by omega)
    replace hP : PostR self s1 Q E (changedS (ev d) m v a b l p) := hP.base k1
    unfold changedS at hP
    repeat infer_instance
    refine c_eqT da db ?_
    refine ifd (fun e => ?_) fun e => ?_
    · rw [if_pos e] at hP
      repeat infer_instance
      exact hP pv s1 hr1 Kp.refl i2
    · rw [if_neg e] at hP
      have hm : m + 1 ≤ d := by omega
      -- out of the unknown
      have out : ∀ b, fits .any b = true → b ≠ .any → b.dep ≤ DB → VT S v .any → PostR self s1 Q E (fromAny (ev d) m v b l p) → ∃ w own pw, pv = .tup [.str "tagged", pw, encT own] ∧ (own = .int ∨ own = .bool ∨ own = gen) ∧ (own.hd ≠ b.hd → PostR self s1 Q E (.blame l p m)) ∧
          (own.hd = b.hd → W (callN tab (d + 1) i_CastRun_changed [.ref self, pw, encT own, encT b, .tup [encP l, .bl p]]) s1 Q E) := fun b _ nb db hv hP => by
        cases hv with
        | @tag w own hw hg =>
          cases hr1 with
          | @tag _ pw _ hpw =>
            refine ⟨w, own, pw, rfl, hg, fun c => ?_, fun c => ?_⟩
            · unfold fromAny at hP
              dsimp only at hP
              rw [if_pos c] at hP
              exact hP
            · unfold fromAny at hP
              dsimp only at hP
              rw [if_neg (fun h => h c)] at hP
              refine ih m w own b l p self s1 pw Q E hw ?_ ?_ db sl hm (by omega) i2 hpw hP
              · rcases hg with rfl | rfl | rfl
                · cases b <;> first | rfl | cases c
                · cases b <;> first | rfl | cases c
                · cases b with
                  | arr x y => exact fits_of_arr (fits_any _) (fits_any _)
                  | _ => cases c
              · rcases hg with rfl | rfl | rfl <;> decide
      have fin : ∀ b, a = .any → b ≠ .any → changedS (ev d) m v .any b l p = fromAny (ev d) m v b l p := fun b _ nb => by
        unfold changedS
        rw [if_neg (Ne.symm nb)]
        cases b <;> first | rfl | exact absurd rfl nb
      cases a with
      | any =>
        have hPf : ∀ b', b = b' → b' ≠ .any → PostR self s1 Q E (fromAny (ev d) m v b' l p) := fun b' eb nb => by
          subst eb
          cases b <;> first | exact hP | exact absurd rfl nb
        cases b with
        | any => exact absurd rfl e
        | int =>
          obtain ⟨w, own, pw, rfl, hg, hb1, hb2⟩ := out (.int) (fits_any _) (by intro h; cases h) db hv (hPf _ rfl (by intro h; cases h))
          rcases hg with rfl | rfl | rfl <;>
          · simp only [encT]
            repeat infer_instance
            refine c_eqT (a := .int) (b := .any) db (Nat.zero_le _) ?_
            refine iff_ (by simp) ?_
            repeat infer_instance
            refine ⟨_, rfl, ?_⟩
            repeat infer_instance
            first
              | exact hb1 (by simp [Ty.hd]) s1 Kp.refl
              | (refine w_methP i2 rfl rfl rfl ?_
                 repeat infer_instance
                 exact hb2 rfl)
        | bool =>
          obtain ⟨w, own, pw, rfl, hg, hb1, hb2⟩ := out (.bool) (fits_any _) (by intro h; cases h) db hv (hPf _ rfl (by intro h; cases h))
          rcases hg with rfl | rfl | rfl <;>
          · simp only [encT]
            repeat infer_instance
            refine c_eqT (a := .bool) (b := .any) db (Nat.zero_le _) ?_
            refine iff_ (by simp) ?_
            repeat infer_instance
            refine ⟨_, rfl, ?_⟩
            repeat infer_instance
            first
              | exact hb1 (by simp [Ty.hd]) s1 Kp.refl
              | (refine w_methP i2 rfl rfl rfl ?_
                 repeat infer_instance
                 exact hb2 rfl)
        | arr x y =>
          obtain ⟨w, own, pw, rfl, hg, hb1, hb2⟩ := out (.arr x y) (fits_any _) (by intro h; cases h) db hv (hPf _ rfl (by intro h; cases h))
          rcases hg with rfl | rfl | rfl <;>
          · simp only [encT]
            repeat infer_instance
            refine c_eqT (a := .arr x y) (b := .any) db (Nat.zero_le _) ?_
            refine iff_ (by simp) ?_
            repeat infer_instance
            refine ⟨_, rfl, ?_⟩
            repeat infer_instance
            first
              | exact hb1 (by simp [Ty.hd]) s1 Kp.refl
              | (refine w_methP i2 rfl rfl rfl ?_
                 repeat infer_instance
                 exact hb2 rfl)
      | arr a1 a2 =>
        cases b with
        | arr b1 b2 =>
          simp only [encT]
          repeat infer_instance
          exact hP _ s1 (.wrap hr1) Kp.refl i2
        | any =>
          have hg : ∃ w m2, (a1 ≠ .any ∨ a2 ≠ .any) → True := ⟨v, m, fun _ => trivial⟩
          simp only [encT]
          repeat infer_instance
          refine c_eqT (a := .any) (b := .any) (Nat.zero_le _) (Nat.zero_le _) ?_
          refine ift (by decide) ?_
          repeat infer_instance
          refine c_neT (a := .arr a1 a2) (b := gen) da (by decide) ?_
          by_cases eg : Ty.arr a1 a2 = gen
          · refine iff_ (by simp [eg]) ?_
            repeat infer_instance
            cases eg
            exact hP _ s1 (.tag hr1) Kp.refl i2
          · refine ift (by simp [eg]) ?_
            repeat infer_instance
            refine w_methP i2 rfl rfl rfl ?_
            repeat infer_instance
            replace hP : PostR self s1 Q E (toAny (ev d) m v (.arr a1 a2) l p) := hP
            unfold toAny at hP
            dsimp only at hP
            rw [if_pos eg] at hP
            refine ih m v (.arr a1 a2) gen l p self s1 pv _ E hv (fits_of_arr (fits_anyR _) (fits_anyR _)) da (by decide) sl hm (by omega) i2 hr1 ?_
            have hr : (∃ w m2, (ev d).changed m v (.arr a1 a2) gen l p = .done w m2) ∨ (ev d).changed m v (.arr a1 a2) gen l p = .tired := by
              obtain ⟨d', rfl⟩ : ∃ d', d = d' + 1 := ⟨d - 1, by omega⟩
              cases m with
              | zero => exact .inr rfl
              | succ m =>
                refine .inl ⟨.wrap v (.arr a1 a2) gen l p, m, ?_⟩
                show changedS (ev d') m v (.arr a1 a2) gen l p = _
                unfold changedS
                rw [if_neg eg]
            rcases hr with ⟨w, m2, hr⟩ | hr
            · rw [hr] at hP ⊢
              intro pw s2 hw k2 f2
              repeat infer_instance
              exact hP _ s2 (.tag hw) k2 f2
            · rw [hr] at hP ⊢
              exact hP
        | _ => cases hfit
      | int =>
        cases b with
        | int => exact absurd rfl e
        | any =>
          simp only [encT]
          repeat infer_instance
          refine c_eqT (a := .any) (b := .any) (Nat.zero_le _) (Nat.zero_le _) ?_
          refine ift (by decide) ?_
          repeat infer_instance
          exact hP _ s1 (.tag hr1) Kp.refl i2
        | _ => cases hfit
      | bool =>
        cases b with
        | bool => exact absurd rfl e
        | any =>
          simp only [encT]
          repeat infer_instance
          refine c_eqT (a := .any) (b := .any) (Nat.zero_le _) (Nat.zero_le _) ?_
          refine ift (by decide) ?_
          repeat infer_instance
          exact hP _ s1 (.tag hr1) Kp.refl i2
        | _ => cases hfit
end Zk44

end
section
set_option maxHeartbeats 4000000
namespace Zk44
open PySem L2 Z
local macro_rules | `(tactic| infer_instance) => `(tactic| first
  | with_reducible first
    | refine k_asg ?_ | refine k_exp ?_ | refine k_ret ?_ | refine k_pop ?_ | refine k_retN ?_ | refine k_ixSet ?_ | refine k_fldSet ?_ | refine k_aug ?_ | refine k_par ?_ | refine k_unp ?_ | refine k_pass ?_ | refine k_cont ?_ | refine k_break ?_ | refine k_rai0 ?_ | refine k_whl ?_ | refine k_in ?_ | refine k_end ?_
    | refine w_call ?_ | refine w_cons ?_ | refine w_nil ?_ | refine w_e2 ?_ | refine w_e1 ?_ | refine w_cmp ?_ | refine w_tcmp ?_ | refine w_ttru ?_ | refine w_sl ?_ | refine w_meth ?_ | refine w_dct ?_ | refine w_lc ?_ | refine w_unlT ?_ | refine w_dct0 ?_ | refine w_bare ?_ | refine w_and ?_ | refine w_or ?_ | refine w_part ?_ | refine w_walk ?_ | refine w_of ?_
    | refine lp_n ?_ | refine lp_c ?_ | refine lp_b ?_ | refine lp_r ?_ | refine sq_n ?_ | refine sq_r ?_ | refine fnR_n ?_ | refine fnR_r ?_ | refine if_ff ?_ | refine if_tt ?_
  | ((with_reducible apply k_if0); (case e => exact rfl))
  | ((with_reducible apply k_if1); (case e => exact rfl))
  | with_reducible refine k_if ?_
  | ((with_reducible apply w_if0); (case e => exact rfl))
  | ((with_reducible apply w_if1); (case e => exact rfl))
  | with_reducible first | refine w_if ?_ | refine w_tand ?_ | refine w_tor ?_ | refine w_tnot ?_ | refine k_for ?_
  | ((with_reducible apply w_tup); (case hl => exact Nat.le_of_ble_eq_true rfl))
  | ((with_reducible apply w_lst); (case hl => exact Nat.le_of_ble_eq_true rfl))
  | ((with_reducible apply k_rai); (case h1 => exact rfl); (case h2 => exact Nat.le_of_ble_eq_true rfl))
  | ((with_reducible apply if_r0); (case h => exact rfl))
  | ((with_reducible apply if_r1); (case h => exact rfl))
  | ((with_reducible apply W_ok); (case h => exact rfl)))
def CalledP (S : List Int → Prop) (d : Nat) : Prop := ∀ (n : Nat) (f w : Vl) (a b : Ty) (self : Nat) (s : Store) (pf pw : PV) (Q : PV → Store → Prop) (E : XP), VT S f (.arr a b) → VT S w a → n + 2 ≤ d → n ≤ 900 → s[self]? = some (fuelO n) → VR s (900 - n) f pf → VR s (900 - n) w pw →
  PostR self s Q E ((ev d).called n f w) → W (callN tab (d + 1) i_CastRun_called [.ref self, pf, pw]) s Q E
def RunP (S : List Int → Prop) (d : Nat) : Prop := ∀ (n : Nat) (t : Tm) (Γ : Zk44.Cx) (env : Env) (k : Ty) (self ne : Nat) (s : Store) (Q : PV → Store → Prop) (E : XP), WT S Γ t k → ET S Γ env → n + 1 ≤ d → n ≤ 900 → s[self]? = some (fuelO n) → EnvR s (901 - n) ne env →
  PostR self s Q E ((ev d).run n t env) → W (callN tab (d + 1) i_CastRun_run [.ref self, encM t, .ref ne]) s Q E
theorem EnvR.put {s s' : Store} {N n' : Nat} {env : Env} {l : List (Key × PV)} {x : Str} {v : Vl} {pv : PV} (h2 : l.length ≤ N) (h3 : ∀ y v, env y = some v → ∃ pv, dget l (.inr y) = some pv ∧ VR s N v pv) (hv : VR s N v pv) (hd : ∀ n l, dctOf s n = some l → dctOf s' n = some l)
    (hs : s'[n']? = some (.dct (dput l (.inr x) pv))) : EnvR s' (N + 1) n' (put env x v) := by
  refine ⟨_, dctOf_dct hs, Nat.le_trans dput_len (by omega), fun y w hw => ?_⟩
  rw [put_eq] at hw
  rw [dget_put]
  by_cases c : y = x
  · subst c
    rw [if_pos rfl] at hw ⊢
    cases hw
    exact ⟨pv, rfl, hv.mono hd (by omega)⟩
  · rw [if_neg c] at hw
    rw [if_neg (fun h => c (Sum.inr.inj h))]
    obtain ⟨pw, e1, e2⟩ := h3 y w hw
    exact ⟨pw, e1, e2.mono hd (by omega)⟩
theorem called_walk {S : List Int → Prop} {d : Nat} (ihR : RunP S d) (ihD : CalledP S d) (ihC : ChangedP S d) : CalledP S (d + 1) := by
  intro n f w a b self s pf pw Q E hf hw hd hn hs hr hrw hP
  show W (callN tab ((d + 1) + 1) 10 _) _ _ _
  rw [w_CastRun_called (d + 1) rfl]
  refine W_cFn ?_
  unfold b_CastRun_called
  replace hP : PostR self s Q E (calledS (ev d) n f w) := hP
  rcases hf.inv_arr with ⟨Γ, x, t, env, rfl, he, hb⟩ | ⟨g, c, e, l, p, rfl, hg, hfit, d1, d2, sl⟩
  · obtain ⟨ne, rfl, l, h1, h2, h3⟩ := hr.env
    repeat infer_instance
    refine w_dictK h1 ?_
    repeat infer_instance
    refine w_putD push_get (by omega) ?_
    repeat infer_instance
    have g1 : Gr s ((s ++ [SO.dct l]).set s.length (SO.dct (dput l (.inr x) pw))) := Gr.push.put (Nat.le_refl _)
    have k1 : Kp self s ((s ++ [SO.dct l]).set s.length (SO.dct (dput l (.inr x) pw))) := Kp.push.setN (Nat.le_refl _)
    refine w_methP (g1 _ _ hs) rfl rfl rfl ?_
    repeat infer_instance
    refine ihR n t (put Γ x a) (put env x w) b self s.length _ _ E hb (he.put hw) (by omega) hn (g1 _ _ hs) ?_ (hP.base k1)
    have := EnvR.put (s' := (s ++ [SO.dct l]).set s.length (SO.dct (dput l (.inr x) pw))) (n' := s.length) (x := x) h2 h3 hrw (fun n l h => g1.dct h) (put_get (by simp))
    rw [show 900 - n + 1 = 901 - n by omega] at this
    exact this
  · obtain ⟨f1, f2⟩ := fits_arr hfit
    obtain ⟨a1, a2⟩ := dep_arr d1
    obtain ⟨b1, b2⟩ := dep_arr d2
    cases hr with
    | @wrap _ pg _ _ _ _ hpg =>
      simp only [encT]
      repeat infer_instance
      refine ⟨_, rfl, ?_⟩
      repeat infer_instance
      refine w_methP hs rfl rfl rfl ?_
      repeat infer_instance
      obtain ⟨_, sd2, sd3⟩ := sound S d
      refine ihC n w a c l (!p) self s pw _ E hw (fits_comm f1) b1 a1 sl (by omega) hn hs hrw (PostR.sub hP (sd3 n w a c l (!p) hw (fits_comm f1) b1 a1 sl (by omega)) (fun y m py s1 hy lt vr k1 fu hP1 => ?_) (fun l' p' s' h => ?_))
      · repeat infer_instance
        refine w_methP fu rfl rfl rfl ?_
        repeat infer_instance
        refine ihD m g y c e self s1 pg py _ E hg hy (by omega) (by omega) fu (hpg.kp hs k1 (by omega)) vr (PostR.sub hP1 (sd2 m g y c e hg hy (by omega)) (fun z m2 pz s2 hz lt2 vr2 k2 fu2 hP2 => ?_) (fun l' p' s' h => ?_))
        · repeat infer_instance
          refine w_methP fu2 rfl rfl rfl ?_
          repeat infer_instance
          exact ihC m2 z e b l p self s2 pz _ E hz f2 a2 b2 sl (by omega) (by omega) fu2 vr2 hP2
        · repeat infer_instance
          exact h
      · repeat infer_instance
        exact h
end Zk44

end
section
set_option maxHeartbeats 4000000
namespace Zk44
open PySem L2 Z
local macro_rules | `(tactic| infer_instance) => `(tactic| first
  | with_reducible first
    | refine k_asg ?_ | refine k_exp ?_ | refine k_ret ?_ | refine k_pop ?_ | refine k_retN ?_ | refine k_ixSet ?_ | refine k_fldSet ?_ | refine k_aug ?_ | refine k_par ?_ | refine k_unp ?_ | refine k_pass ?_ | refine k_cont ?_ | refine k_break ?_ | refine k_rai0 ?_ | refine k_whl ?_ | refine k_in ?_ | refine k_end ?_
    | refine w_call ?_ | refine w_cons ?_ | refine w_nil ?_ | refine w_e2 ?_ | refine w_e1 ?_ | refine w_cmp ?_ | refine w_tcmp ?_ | refine w_ttru ?_ | refine w_sl ?_ | refine w_meth ?_ | refine w_dct ?_ | refine w_lc ?_ | refine w_unlT ?_ | refine w_dct0 ?_ | refine w_bare ?_ | refine w_and ?_ | refine w_or ?_ | refine w_part ?_ | refine w_walk ?_ | refine w_of ?_
    | refine lp_n ?_ | refine lp_c ?_ | refine lp_b ?_ | refine lp_r ?_ | refine sq_n ?_ | refine sq_r ?_ | refine fnR_n ?_ | refine fnR_r ?_ | refine if_ff ?_ | refine if_tt ?_
  | ((with_reducible apply k_if0); (case e => exact rfl))
  | ((with_reducible apply k_if1); (case e => exact rfl))
  | with_reducible refine k_if ?_
  | ((with_reducible apply w_if0); (case e => exact rfl))
  | ((with_reducible apply w_if1); (case e => exact rfl))
  | with_reducible first | refine w_if ?_ | refine w_tand ?_ | refine w_tor ?_ | refine w_tnot ?_ | refine k_for ?_
  | ((with_reducible apply w_tup); (case hl => exact Nat.le_of_ble_eq_true rfl))
  | ((with_reducible apply w_lst); (case hl => exact Nat.le_of_ble_eq_true rfl))
  | ((with_reducible apply k_rai); (case h1 => exact rfl); (case h2 => exact Nat.le_of_ble_eq_true rfl))
  | ((with_reducible apply if_r0); (case h => exact rfl))
  | ((with_reducible apply if_r1); (case h => exact rfl))
  | ((with_reducible apply W_ok); (case h => exact rfl)))
theorem run_walk {S : List Int → Prop} {d : Nat} (ihR : RunP S d) (ihD : CalledP S d) (ihC : ChangedP S d) : RunP S (d + 1) := by
  intro n t Γ env k self ne s Q E ht he hd hn hs hne hP
  show W (callN tab ((d + 1) + 1) 9 _) _ _ _
  rw [w_CastRun_run (d + 1) rfl]
  refine W_cFn ?_
  unfold b_CastRun_run
  repeat infer_instance
  refine w_fld hs (by rfl) (by rfl) (by rfl) ?_
  repeat infer_instance
  obtain ⟨sd1, sd2, sd3⟩ := sound S d
  cases n with
  | zero =>
    refine ift (by rfl) ?_
    repeat infer_instance
    exact hP s Kp.refl
  | succ m =>
    refine ifd (fun h => absurd h nz) fun _ => ?_
    repeat infer_instance
    refine w_fld hs (by rfl) (by rfl) (by rfl) ?_
    repeat infer_instance
    refine ⟨rfl, _, _, rfl, rfl, ?_⟩
    refine w_fldSet hs (by rfl) (by rfl) (Nat.le_of_ble_eq_true rfl) fun s1 i1 k1 l1 => ?_
    have i2 := spent i1
    have hm : m + 1 ≤ d := by omega
    have hne1 : EnvR s1 (900 - m) ne env := hne.mono (Zk44.Kp.dct k1 hs (fun l h => by cases h) fun l h => by cases h) (by omega)
    have hne2 : EnvR s1 (901 - m) ne env := hne1.mono (fun _ _ h => h) (by omega)
    replace hP : PostR self s1 Q E (runS (ev d) m t env) := PostR.base (r := runS (ev d) m t env) hP k1
    cases ht with
    | int h1 h2 =>
      simp only [encM]
      repeat infer_instance
      exact hP _ s1 .int Kp.refl i2
    | bool =>
      simp only [encM]
      repeat infer_instance
      exact hP _ s1 .bool Kp.refl i2
    | @var _ x _ hx =>
      simp only [encM]
      repeat infer_instance
      obtain ⟨v, hv, _⟩ := he x _ hx
      obtain ⟨l, e1, e2, e3⟩ := hne1
      obtain ⟨pv, e4, e5⟩ := e3 x v hv
      refine w_getK e1 rfl e4 ?_
      repeat infer_instance
      rw [runS_var hv] at hP
      exact hP _ s1 e5 Kp.refl i2
    | lam hb =>
      simp only [encM]
      repeat infer_instance
      exact hP _ s1 hne1.clos Kp.refl i2
    | @cast _ e a b l hx hf d1 d2 sl =>
      simp only [encM]
      repeat infer_instance
      refine w_methP i2 rfl rfl rfl ?_
      repeat infer_instance
      refine ihR m e Γ env a self ne s1 _ E hx he hm (by omega) i2 hne2 (PostR.sub hP (sd1 m e Γ env a hx he hm) (fun v m1 pv s2 hv lt vr k2 fu hP1 => ?_) (fun l' p' s' h => ?_))
      · repeat infer_instance
        refine w_methP fu rfl rfl rfl ?_
        repeat infer_instance
        exact ihC m1 v a _ l true self s2 pv _ E hv hf d1 d2 sl (by omega) (by omega) fu vr hP1
      · repeat infer_instance
        exact h
    | @lt _ x e b a _ hx hb =>
      simp only [encM]
      repeat infer_instance
      refine w_methP i2 rfl rfl rfl ?_
      repeat infer_instance
      refine ihR m e Γ env a self ne s1 _ E hx he hm (by omega) i2 hne2 (PostR.sub hP (sd1 m e Γ env a hx he hm) (fun v m1 pv s2 hv lt vr k2 fu hP1 => ?_) (fun l' p' s' h => ?_))
      · repeat infer_instance
        obtain ⟨l, h1, h2, h3⟩ := hne1.mono (s' := s2) (N' := 900 - m1) (Zk44.Kp.dct k2 i2 (fun l h => by cases h) fun l h => by cases h) (by omega)
        refine w_dictK h1 ?_
        repeat infer_instance
        refine w_putD push_get (by omega) ?_
        repeat infer_instance
        have g1 : Gr s2 ((s2 ++ [SO.dct l]).set s2.length (SO.dct (dput l (.inr x) pv))) := Gr.push.put (Nat.le_refl _)
        have k3 : Kp self s2 ((s2 ++ [SO.dct l]).set s2.length (SO.dct (dput l (.inr x) pv))) := Kp.push.setN (Nat.le_refl _)
        refine w_methP (g1 _ _ fu) rfl rfl rfl ?_
        repeat infer_instance
        refine ihR m1 b (put Γ x a) (put env x v) k self s2.length _ _ E hb (he.put hv) (by omega) (by omega) (g1 _ _ fu) ?_ (hP1.base k3)
        have := EnvR.put (s' := (s2 ++ [SO.dct l]).set s2.length (SO.dct (dput l (.inr x) pv))) (n' := s2.length) (x := x) h2 h3 vr (fun n l h => g1.dct h) (put_get (by simp))
        rw [show 900 - m1 + 1 = 901 - m1 by omega] at this
        exact this
      · repeat infer_instance
        exact h
    | @ite _ c a b _ hc ha hb =>
      simp only [encM]
      repeat infer_instance
      refine w_methP i2 rfl rfl rfl ?_
      repeat infer_instance
      refine ihR m c Γ env .bool self ne s1 _ E hc he hm (by omega) i2 hne2 (PostR.sub hP (sd1 m c Γ env .bool hc he hm) (fun v m1 pv s2 hv lt vr k2 fu hP1 => ?_) (fun l' p' s' h => ?_))
      · have hne3 : EnvR s2 (901 - m1) ne env := hne2.mono (Zk44.Kp.dct k2 i2 (fun l h => by cases h) fun l h => by cases h) (by omega)
        cases hv with
        | @bool i =>
          cases vr with
          | bool =>
            repeat infer_instance
            refine w_methP fu rfl rfl rfl ?_
            cases i with
            | true =>
              repeat infer_instance
              exact ihR m1 a Γ env k self ne s2 _ E ha he (by omega) (by omega) fu hne3 hP1
            | false =>
              repeat infer_instance
              exact ihR m1 b Γ env k self ne s2 _ E hb he (by omega) (by omega) fu hne3 hP1
      · repeat infer_instance
        exact h
    | @app _ f x a _ hf hx =>
      simp only [encM]
      repeat infer_instance
      refine w_methP i2 rfl rfl rfl ?_
      repeat infer_instance
      refine ihR m f Γ env _ self ne s1 _ E hf he hm (by omega) i2 hne2 (PostR.sub hP (sd1 m f Γ env _ hf he hm) (fun v m1 pv s2 hv lt vr k2 fu hP1 => ?_) (fun l' p' s' h => ?_))
      · have hne3 : EnvR s2 (901 - m1) ne env := hne2.mono (Zk44.Kp.dct k2 i2 (fun l h => by cases h) fun l h => by cases h) (by omega)
        repeat infer_instance
        refine w_methP fu rfl rfl rfl ?_
        repeat infer_instance
        refine ihR m1 x Γ env _ self ne s2 _ E hx he (by omega) (by omega) fu hne3 (PostR.sub hP1 (sd1 m1 x Γ env _ hx he (by omega)) (fun y m2 py s3 hy lt2 vr2 k3 fu2 hP2 => ?_) (fun l' p' s' h => ?_))
        · repeat infer_instance
          refine w_methP fu2 rfl rfl rfl ?_
          repeat infer_instance
          exact ihD m2 v y _ _ self s3 pv py _ E hv hy (by omega) (by omega) fu2 (vr.kp fu k3 (by omega)) vr2 hP2
        · repeat infer_instance
          exact h
      · repeat infer_instance
        exact h
    | @op _ g a b ha hb =>
      simp only [encM]
      repeat infer_instance
      refine w_methP i2 rfl rfl rfl ?_
      repeat infer_instance
      refine ihR m a Γ env _ self ne s1 _ E ha he hm (by omega) i2 hne2 (PostR.sub hP (sd1 m a Γ env _ ha he hm) (fun v m1 pv s2 hv lt vr k2 fu hP1 => ?_) (fun l' p' s' h => ?_))
      · have hne3 : EnvR s2 (901 - m1) ne env := hne2.mono (Zk44.Kp.dct k2 i2 (fun l h => by cases h) fun l h => by cases h) (by omega)
        repeat infer_instance
        refine w_methP fu rfl rfl rfl ?_
        repeat infer_instance
        refine ihR m1 b Γ env _ self ne s2 _ E hb he (by omega) (by omega) fu hne3 (PostR.sub hP1 (sd1 m1 b Γ env _ hb he (by omega)) (fun y m2 py s3 hy lt2 vr2 k3 fu2 hP2 => ?_) (fun l' p' s' h => ?_))
        · cases hv with
          | @int i hi1 hi2 =>
            cases hy with
            | @int j hj1 hj2 =>
              cases vr
              cases vr2
              repeat infer_instance
              refine reckon_ok hi1 hi2 (by omega) fun s4 g4 => ?_
              repeat infer_instance
              refine hP2 _ s4 ?_ (g4.toKp g4.len) (g4 _ _ fu2)
              cases g <;> constructor
        · repeat infer_instance
          exact h
      · repeat infer_instance
        exact h
theorem runs (S : List Int → Prop) : ∀ d, RunP S d ∧ CalledP S d ∧ ChangedP S d
  | 0 => ⟨fun n t Γ env k self ne s Q E _ _ h => absurd h (by omega), fun n f w a b self s pf pw Q E _ _ h => absurd h (by omega), fun n v a b l p self s pv Q E _ _ _ _ _ h => absurd h (by omega)⟩
  | d + 1 => let ⟨a, b, c⟩ := runs S d; ⟨run_walk a b c, called_walk a b c, changed_walk c⟩
end Zk44

end
section
set_option maxHeartbeats 4000000
namespace Zk44
open PySem L2 Z
local macro_rules | `(tactic| infer_instance) => `(tactic| first
  | with_reducible first
    | refine k_asg ?_ | refine k_exp ?_ | refine k_ret ?_ | refine k_pop ?_ | refine k_retN ?_ | refine k_ixSet ?_ | refine k_fldSet ?_ | refine k_aug ?_ | refine k_par ?_ | refine k_unp ?_ | refine k_pass ?_ | refine k_cont ?_ | refine k_break ?_ | refine k_rai0 ?_ | refine k_whl ?_ | refine k_in ?_ | refine k_end ?_
    | refine w_call ?_ | refine w_cons ?_ | refine w_nil ?_ | refine w_e2 ?_ | refine w_e1 ?_ | refine w_cmp ?_ | refine w_tcmp ?_ | refine w_ttru ?_ | refine w_sl ?_ | refine w_meth ?_ | refine w_dct ?_ | refine w_lc ?_ | refine w_unlT ?_ | refine w_dct0 ?_ | refine w_bare ?_ | refine w_and ?_ | refine w_or ?_ | refine w_part ?_ | refine w_walk ?_ | refine w_of ?_
    | refine lp_n ?_ | refine lp_c ?_ | refine lp_b ?_ | refine lp_r ?_ | refine sq_n ?_ | refine sq_r ?_ | refine fnR_n ?_ | refine fnR_r ?_ | refine if_ff ?_ | refine if_tt ?_
  | ((with_reducible apply k_if0); (case e => exact rfl))
  | ((with_reducible apply k_if1); (case e => exact rfl))
  | with_reducible refine k_if ?_
  | ((with_reducible apply w_if0); (case e => exact rfl))
  | ((with_reducible apply w_if1); (case e => exact rfl))
  | with_reducible first | refine w_if ?_ | refine w_tand ?_ | refine w_tor ?_ | refine w_tnot ?_ | refine k_for ?_
  | ((with_reducible apply w_tup); (case hl => exact Nat.le_of_ble_eq_true rfl))
  | ((with_reducible apply w_lst); (case hl => exact Nat.le_of_ble_eq_true rfl))
  | ((with_reducible apply k_rai); (case h1 => exact rfl); (case h2 => exact Nat.le_of_ble_eq_true rfl))
  | ((with_reducible apply if_r0); (case h => exact rfl))
  | ((with_reducible apply if_r1); (case h => exact rfl))
  | ((with_reducible apply W_ok); (case h => exact rfl)))
theorem exc_asg {i : Nat} {e : CE} {ρ ρ' : Sl} {s s' : Store} {c : Nat} {fs : List (Str × PV)} (h : cBlk [cAsg i e] ρ s = .exc c fs ρ' s') : ρ' = ρ := by
  unfold cBlk cAsg bndS at h
  cases e1 : e ρ s with
  | bad => rw [e1] at h; cases h
  | exc c fs s1 => rw [e1] at h; cases h; rfl
  | ok x s1 => rw [e1] at h; unfold cBlk at h; cases h
def shown : Vl → PV
  | .int i => .tup [.str "int", .int i]
  | .bool b => .tup [.str "bool", .bl b]
  | .tag v _ => shown v
  | _ => .tup [.str "function"]
theorem shown1 {S : List Int → Prop} {s : Store} {N d : Nat} {v : Vl} {k : Ty} {pv : PV} {Q : PV → Store → Prop} {E : XP} (hv : VT S v k) (hk : k ≠ .any) (hr : VR s N v pv) (hd : 1 ≤ d) (q : Q (shown v) s) : W (callN tab d i_shown_cast [pv]) s Q E := by
  obtain ⟨d, rfl⟩ : ∃ d', d = d' + 1 := ⟨d - 1, by omega⟩
  rw [w_shown_cast d rfl]
  refine W_cFn ?_
  unfold b_shown_cast
  cases hr with
  | int =>
    repeat infer_instance
    exact q
  | bool =>
    repeat infer_instance
    exact q
  | clos _ _ _ _ =>
    repeat infer_instance
    exact q
  | wrap _ =>
    repeat infer_instance
    exact q
  | tag _ => cases hv; exact absurd rfl hk
theorem shown_ok {S : List Int → Prop} {s : Store} {N d : Nat} {v : Vl} {k : Ty} {pv : PV} {Q : PV → Store → Prop} {E : XP} (hv : VT S v k) (hr : VR s N v pv) (hd : 2 ≤ d) (q : Q (shown v) s) : W (callN tab d i_shown_cast [pv]) s Q E := by
  by_cases hk : k = .any
  · subst hk
    obtain ⟨d, rfl⟩ : ∃ d', d = d' + 1 := ⟨d - 1, by omega⟩
    rw [w_shown_cast d rfl]
    refine W_cFn ?_
    unfold b_shown_cast
    cases hv with
    | tag hw hg =>
      cases hr with
      | tag hr =>
        repeat infer_instance
        refine shown1 hw (by rcases hg with rfl | rfl | rfl <;> intro h <;> cases h) hr (by omega) ?_
        repeat infer_instance
        exact q
  · exact shown1 hv hk hr (by omega) q
def resP : R → PV
  | .done v _ => .tup [.str "value", shown v]
  | .blame l p _ => .tup [.str "blame", encP l, .bl p]
  | .tired => .tup [.str "tired"]
  | .stuck => .non
theorem run_casts_walk {S : List Int → Prop} {D n : Nat} {t : Tm} {k : Ty} {s : Store} {Q : PV → Store → Prop} {E : XP} (ht : WT S (fun _ => none) t k) (hn : n ≤ 900) (hd : n + 1 ≤ D) (hd2 : 2 ≤ D) (q : ∀ s', Gr s s' → Q (resP ((ev D).run n t (fun _ => none))) s') :
    W (callN tab (D + 2) i_run_casts [encM t, .int n]) s Q E := by
  rw [w_run_casts (D + 1) rfl]
  refine W_cFn ?_
  unfold b_run_casts
  refine k_in ?_
  refine k_try (fl0 := []) (by rfl) ?_ fun c fs ρ' s' h => by rw [exc_asg h]
  repeat infer_instance
  refine w_makeP (f := 8) (by rfl) ?_
  rw [show (lk13 (callN tab (D + 1)) (iniN tab (D + 1))).ini = callN tab D from rfl]
  obtain ⟨D', hD⟩ : ∃ D', D = D' + 1 := ⟨D - 1, by omega⟩
  have hini : W (callN tab D 8 [.ref s.length, .int n]) (s ++ [SO.ins 4 []]) (fun v s' => v = .non ∧ s'[s.length]? = some (fuelO n) ∧ Kp s.length (s ++ [SO.ins 4 []]) s' ∧ s'.length = s.length + 1) (fun _ _ _ => False) := by
    rw [hD, w_CastRun___init__ D' rfl]
    refine W_cFn ?_
    unfold b_CastRun___init__
    repeat infer_instance
    refine w_fldSet (c := 4) (l := []) push_get (by rfl) (by rfl) (Nat.le_of_ble_eq_true rfl) fun s1 i1 k1 l1 => ?_
    repeat infer_instance
    exact ⟨rfl, i1, k1, by rw [l1]; simp⟩
  refine W_mono hini (fun v s1 ⟨e1, f1, k1, l1⟩ => ⟨e1, ?_⟩) fun _ _ _ h => h
  repeat infer_instance
  refine w_methP f1 rfl rfl rfl ?_
  repeat infer_instance
  have g1 : Gr s s1 := (Gr.push (r := [SO.ins 4 []])).kp k1 (Nat.le_refl _)
  have g2 : Gr s1 (s1 ++ [SO.dct []]) := Gr.push
  have gk : ∀ s', Kp s.length (s1 ++ [SO.dct []]) s' → Gr s s' := fun s' k => (g1.trans g2).kp k (Nat.le_refl _)
  obtain ⟨rn, _, _⟩ := runs S D
  refine rn n t (fun _ => none) (fun _ => none) k s.length s1.length _ _ _ ht (fun y u h => by cases h) hd hn (g2 _ _ f1) ⟨[], dctOf_dct push_get, Nat.zero_le _, fun y v h => by cases h⟩ ?_
  have sd := (sound S D).1 n t (fun _ => none) (fun _ => none) k ht (fun y u h => by cases h) hd
  cases hr : (ev D).run n t (fun _ => none) with
  | done v m =>
    rw [hr] at sd q
    intro pv s2 vr k2 f2
    repeat infer_instance
    refine shown_ok sd.1 vr (by omega) ?_
    repeat infer_instance
    exact q s2 (gk s2 k2)
  | blame l p m =>
    rw [hr] at q
    intro s2 k2
    repeat infer_instance
    exact q s2 (gk s2 k2)
  | tired =>
    rw [hr] at q
    intro s2 k2
    refine ⟨[], rfl, ift (by decide) fun ρ' hρ => ⟨_, rfl, ?_⟩⟩
    exact SW_goneN (q s2 (gk s2 k2))
  | stuck => trivial
end Zk44

end
section
set_option maxHeartbeats 4000000
namespace Zk44
open PySem L2 Z
local macro_rules | `(tactic| infer_instance) => `(tactic| first
  | with_reducible first
    | refine k_asg ?_ | refine k_exp ?_ | refine k_ret ?_ | refine k_pop ?_ | refine k_retN ?_ | refine k_ixSet ?_ | refine k_fldSet ?_ | refine k_aug ?_ | refine k_par ?_ | refine k_unp ?_ | refine k_pass ?_ | refine k_cont ?_ | refine k_break ?_ | refine k_rai0 ?_ | refine k_whl ?_ | refine k_in ?_ | refine k_end ?_
    | refine w_call ?_ | refine w_cons ?_ | refine w_nil ?_ | refine w_e2 ?_ | refine w_e1 ?_ | refine w_cmp ?_ | refine w_tcmp ?_ | refine w_ttru ?_ | refine w_sl ?_ | refine w_meth ?_ | refine w_dct ?_ | refine w_lc ?_ | refine w_unlT ?_ | refine w_dct0 ?_ | refine w_bare ?_ | refine w_and ?_ | refine w_or ?_ | refine w_part ?_ | refine w_walk ?_ | refine w_of ?_
    | refine lp_n ?_ | refine lp_c ?_ | refine lp_b ?_ | refine lp_r ?_ | refine sq_n ?_ | refine sq_r ?_ | refine fnR_n ?_ | refine fnR_r ?_ | refine if_ff ?_ | refine if_tt ?_
  | ((with_reducible apply k_if0); (case e => exact rfl))
  | ((with_reducible apply k_if1); (case e => exact rfl))
  | with_reducible refine k_if ?_
  | ((with_reducible apply w_if0); (case e => exact rfl))
  | ((with_reducible apply w_if1); (case e => exact rfl))
  | with_reducible first | refine w_if ?_ | refine w_tand ?_ | refine w_tor ?_ | refine w_tnot ?_ | refine k_for ?_
  | ((with_reducible apply w_tup); (case hl => exact Nat.le_of_ble_eq_true rfl))
  | ((with_reducible apply w_lst); (case hl => exact Nat.le_of_ble_eq_true rfl))
  | ((with_reducible apply k_rai); (case h1 => exact rfl); (case h2 => exact Nat.le_of_ble_eq_true rfl))
  | ((with_reducible apply if_r0); (case h => exact rfl))
  | ((with_reducible apply if_r1); (case h => exact rfl))
  | ((with_reducible apply W_ok); (case h => exact rfl)))
section
variable {s : Store} {E : XP}
theorem take_w {t c d : Nat} {m : Int} {Q : PV → Store → Prop} (hT : Tp s t c) (h0 : 0 < m) (h1 : m < 1073741824) (hd : 1 ≤ d) (hq : ∀ r s', 0 ≤ r → r < m → Tp s' t c → Kp t s s' → s'.length = s.length → Q (.int r) s') : W (callN tab d i__law_take [.ref t, .int m]) s Q E := by
  obtain ⟨d, rfl⟩ : ∃ d', d = d' + 1 := ⟨d - 1, by omega⟩
  rw [w__law_take d rfl]
  exact take_ok hT h0 h1 hq
theorem _root_.Z.Tp.lt {t c : Nat} (h : Tp s t c) : t < s.length := by
  obtain ⟨_, _, _, _, _, h1, _⟩ := h.ex
  exact (List.getElem?_eq_some_iff.mp h1).1
theorem _root_.Z.Tp.gr {t c : Nat} {s' : Store} (h : Tp s t c) (g : Gr s s') : Tp s' t c := h.keep g
theorem _root_.Z.Kp.add {t : Nat} {s s' : Store} {r : List SO} (k : Kp t s s') : Kp t s (s' ++ r) := k.trans Kp.push
theorem kind_leaf {t c d : Nat} {Q : PV → Store → Prop} (hd : 1 ≤ d) (h : Tp s t c) (q : ∀ k s', k.dep ≤ 0 → Tp s' t c → Kp t s s' → Q (encT k) s') :
    W (callN tab d 15 [.ref t, .int 4]) (s ++ [SO.lst [.tup [.str "int"], .tup [.str "bool"], .tup [.str "any"], .tup [.str "any"]]]) (fun y s' => W (ixP (.ref s.length) y) s' Q E) E := by
  refine take_w (h.gr Gr.push) (by decide) (by decide) hd fun r s2 r0 r1 h2 k2 l2 => ?_
  have hL := k2.get push_get (Nat.ne_of_gt h.lt)
  have k3 : Kp t s s2 := Kp.refl.add.trans k2
  have : r = 0 ∨ r = 1 ∨ r = 2 ∨ r = 3 := by omega
  rcases this with rfl | rfl | rfl | rfl
  · exact w_at (lst_of hL) rfl (q .int s2 (Nat.le_refl _) h2 k3)
  · exact w_at (lst_of hL) rfl (q .bool s2 (Nat.le_refl _) h2 k3)
  · exact w_at (lst_of hL) rfl (q .any s2 (Nat.le_refl _) h2 k3)
  · exact w_at (lst_of hL) rfl (q .any s2 (Nat.le_refl _) h2 k3)
theorem sub1 {n : Nat} : ((n + 1 : Nat) : Int) - 1 = (n : Int) := by omega
theorem kind_ok {t c : Nat} : ∀ (n d : Nat) (s : Store) (Q : PV → Store → Prop), n + 2 ≤ d → Tp s t c → (∀ k s', k.dep ≤ n → Tp s' t c → Kp t s s' → Q (encT k) s') → W (callN tab d i__law_kind [.ref t, .int (n : Int)]) s Q E
  | n, 0, s, Q, hd, _, _ => absurd hd (by omega)
  | n, d + 1, s, Q, hd, hT, q => by
    rw [w__law_kind d rfl]
    refine W_cFn ?_
    unfold b__law_kind
    refine k_in ?_
    refine k_if ?_
    refine w_tor ?_
    refine w_tcmp ?_
    repeat infer_instance
    cases n with
    | zero =>
      refine ift (by rfl) ?_
      repeat infer_instance
      refine kind_leaf (by omega) hT fun k s' a b c => ?_
      repeat infer_instance
      exact q k s' a b c
    | succ n =>
      refine ifd (fun h => absurd h nz) fun _ => ?_
      repeat infer_instance
      refine take_w hT (by decide) (by decide) (by omega) fun r s1 r0 r1 h1 k1 l1 => ?_
      repeat infer_instance
      refine ifd (fun e => ?_) fun e => ?_
      · repeat infer_instance
        refine kind_leaf (by omega) h1 fun k s' a b c => ?_
        repeat infer_instance
        exact q k s' (by omega) b (k1.trans c)
      · repeat infer_instance
        rw [sub1]
        refine kind_ok n d s1 _ (by omega) h1 fun a s2 da h2 k2 => ?_
        repeat infer_instance
        rw [sub1]
        refine kind_ok n d s2 _ (by omega) h2 fun b s3 db h3 k3 => ?_
        repeat infer_instance
        exact q (.arr a b) s3 (by simp only [Ty.dep]; omega) h3 ((k1.trans k2).trans k3)
theorem forgot_ok {t c : Nat} : ∀ (k : Ty) (d : Nat) (s : Store) (Q : PV → Store → Prop), k.dep + 2 ≤ d → Tp s t c → (∀ u s', lessK u k = true → u.dep ≤ k.dep → Tp s' t c → Kp t s s' → Q (encT u) s') → W (callN tab d i__law_forgotten [.ref t, encT k]) s Q E
  | k, 0, s, Q, hd, _, _ => absurd hd (by omega)
  | k, d + 1, s, Q, hd, hT, q => by
    rw [w__law_forgotten d rfl]
    refine W_cFn ?_
    unfold b__law_forgotten
    repeat infer_instance
    refine take_w hT (by decide) (by decide) (by omega) fun r s1 r0 r1 h1 k1 l1 => ?_
    repeat infer_instance
    refine ifd (fun e => ?_) fun e => ?_
    · repeat infer_instance
      exact q .any s1 (by cases k <;> rfl) (Nat.zero_le _) h1 k1
    · cases k with
      | arr a b =>
        simp only [Ty.dep] at hd
        simp only [encT]
        repeat infer_instance
        refine forgot_ok a d s1 _ (by omega) h1 fun u s2 lu du h2 k2 => ?_
        repeat infer_instance
        refine forgot_ok b d s2 _ (by omega) h2 fun w s3 lw dw h3 k3 => ?_
        repeat infer_instance
        exact q (.arr u w) s3 (lessK_of lu lw) (by simp only [Ty.dep]; omega) h3 ((k1.trans k2).trans k3)
      | _ =>
        simp only [encT]
        repeat infer_instance
        exact q _ s1 rfl (Nat.le_refl _) h1 k1
end
end Zk44

end
section
set_option maxHeartbeats 4000000
namespace Zk44
open PySem L2 Z
local macro_rules | `(tactic| infer_instance) => `(tactic| first
  | with_reducible first
    | refine k_asg ?_ | refine k_exp ?_ | refine k_ret ?_ | refine k_pop ?_ | refine k_retN ?_ | refine k_ixSet ?_ | refine k_fldSet ?_ | refine k_aug ?_ | refine k_par ?_ | refine k_unp ?_ | refine k_pass ?_ | refine k_cont ?_ | refine k_break ?_ | refine k_rai0 ?_ | refine k_whl ?_ | refine k_in ?_ | refine k_end ?_
    | refine w_call ?_ | refine w_cons ?_ | refine w_nil ?_ | refine w_e2 ?_ | refine w_e1 ?_ | refine w_cmp ?_ | refine w_tcmp ?_ | refine w_ttru ?_ | refine w_sl ?_ | refine w_meth ?_ | refine w_dct ?_ | refine w_lc ?_ | refine w_unlT ?_ | refine w_dct0 ?_ | refine w_bare ?_ | refine w_and ?_ | refine w_or ?_ | refine w_part ?_ | refine w_walk ?_ | refine w_of ?_
    | refine lp_n ?_ | refine lp_c ?_ | refine lp_b ?_ | refine lp_r ?_ | refine sq_n ?_ | refine sq_r ?_ | refine fnR_n ?_ | refine fnR_r ?_ | refine if_ff ?_ | refine if_tt ?_
  | ((with_reducible apply k_if0); (case e => exact rfl))
  | ((with_reducible apply k_if1); (case e => exact rfl))
  | with_reducible refine k_if ?_
  | ((with_reducible apply w_if0); (case e => exact rfl))
  | ((with_reducible apply w_if1); (case e => exact rfl))
  | with_reducible first | refine w_if ?_ | refine w_tand ?_ | refine w_tor ?_ | refine w_tnot ?_ | refine k_for ?_
  | ((with_reducible apply w_tup); (case hl => exact Nat.le_of_ble_eq_true rfl))
  | ((with_reducible apply w_lst); (case hl => exact Nat.le_of_ble_eq_true rfl))
  | ((with_reducible apply k_rai); (case h1 => exact rfl); (case h2 => exact Nat.le_of_ble_eq_true rfl))
  | ((with_reducible apply if_r0); (case h => exact rfl))
  | ((with_reducible apply if_r1); (case h => exact rfl))
  | ((with_reducible apply W_ok); (case h => exact rfl)))
section
variable {s : Store} {E : XP}
/-- names that can be told -/
def Nmk : Tm → Prop
  | .var x => PyData.strOk x = true
  | .lam x _ b => PyData.strOk x = true ∧ Nmk b
  | .app f a => Nmk f ∧ Nmk a
  | .ite c a b => Nmk c ∧ Nmk a ∧ Nmk b
  | .op _ a b => Nmk a ∧ Nmk b
  | .lt x e b => PyData.strOk x = true ∧ Nmk e ∧ Nmk b
  | .as e _ => Nmk e
  | .cast e _ _ _ => Nmk e
  | _ => True
def Srn (p : Tm) : Prop := Src 2 p ∧ Nmk p
/-- what a leaf may be -/
def Lf (v : PV) : Prop := ∃ p, v = encM p ∧ Srn p ∧ ht p = 0 ∧ msr p = 0
theorem _root_.Z.Tp.kpD {t c D : Nat} {s' : Store} (h : Tp s t c) (k : Kp D s s') (h1 : t ≠ D) (h2 : c ≠ D) : Tp s' t c := by
  obtain ⟨a, l, sd, sa, zs, e1, e2, e3⟩ := h.ex
  exact ⟨a, l, sd, sa, zs, k.get e1 h1, k.get e2 h2, e3⟩
theorem _root_.Z.Tp.ltc {t c : Nat} (h : Tp s t c) : c < s.length := by
  obtain ⟨a, l, sd, sa, zs, e1, e2, e3⟩ := h.ex
  exact (List.getElem?_eq_some_iff.mp e2).1
theorem leaf_ok {t c d nm : Nat} {xs : List Str} {dv : PV} {r : List (List SM)} {Q : PV → Store → Prop} (hd : 1 ≤ d) (hT : Tp s t c) (hx : s[nm]? = some (.lst (xs.map .str))) (hne : nm ≠ t) (hl : xs.length ≤ 20) (hxs : ∀ x ∈ xs, PyData.strOk x = true)
    (q : ∀ p s', Srn p → ht p = 0 → msr p = 0 → Tp s' t c → Kp t s s' → Q (encM p) s') :
    SW (cB ([cAsg 3 (Z.e2 (binP .Add) (eLst [eTup [kst (.str "int"), eCall (callN tab d 15) [sl 0, kst (.int 4)]], eTup [kst (.str "bool"), eCmp .Eq (eCall (callN tab d 15) [sl 0, kst (.int 2)]) (kst (.int 0))], eTup [kst (.str "int"), kst (.int 2)]]) (Z.e2 (binP .Mult) (eLc (eTup [kst (.str "var"), sl 7]) (Tgt.run (.nm 7)) (Z.tYes) (sWalk (sl 1)) [7]) (kst (.int 2)))), cRet (Z.e2 ixP (sl 3) (eCall (callN tab d 15) [sl 0, eCall (bltP .len) [sl 3]]))] :: r)) (([PV.ref t, PV.ref nm, dv] : List PV).map some ++ List.replicate (8 - ([PV.ref t, PV.ref nm, dv] : List PV).length) none) s (fnR Q) E := by
  repeat infer_instance
  refine take_w hT (by decide) (by decide) hd fun r1 s1 a1 a2 h1 k1 l1 => ?_
  repeat infer_instance
  refine take_w h1 (by decide) (by decide) hd fun r2 s2 b1 b2 h2 k2 l2 => ?_
  repeat infer_instance
  have hx2 := k2.get (k1.get hx hne) hne
  refine w_walkL (l := xs.map .str) (lst_of (Gr.push _ _ hx2)) ?_
  have b0 : (s2 ++ [SO.lst [.tup [.str "int", .int r1], .tup [.str "bool", .bl (decide (r2 = 0))], .tup [.str "int", .int 2]]])[s2.length]? = some (SO.lst [.tup [.str "int", .int r1], .tup [.str "bool", .bl (decide (r2 = 0))], .tup [.str "int", .int 2]]) := push_get
  have hT3 := h2.gr (Gr.push (r := [SO.lst [.tup [.str "int", .int r1], .tup [.str "bool", .bl (decide (r2 = 0))], .tup [.str "int", .int 2]]]))
  have k3 : Kp t s (s2 ++ [SO.lst [.tup [.str "int", .int r1], .tup [.str "bool", .bl (decide (r2 = 0))], .tup [.str "int", .int 2]]]) := (k1.trans k2).add
  have hx3 := Gr.push (r := [SO.lst [.tup [.str "int", .int r1], .tup [.str "bool", .bl (decide (r2 = 0))], .tup [.str "int", .int 2]]]) _ _ hx2
  have hs2 : s2.length < (s2 ++ [SO.lst [.tup [.str "int", .int r1], .tup [.str "bool", .bl (decide (r2 = 0))], .tup [.str "int", .int 2]]]).length := by simp
  generalize s2 ++ [SO.lst [.tup [.str "int", .int r1], .tup [.str "bool", .bl (decide (r2 = 0))], .tup [.str "int", .int 2]]] = s3 at b0 hT3 k3 hx3 hs2 ⊢
  have hlen : lenI s3 (.live nm) = xs.length := by
    show ((lstOf s3 nm).getD []).length = _
    rw [lst_of hx3]
    simp
  rw [hlen]
  refine w_lcR (j := 7) (t := t) (items := xs.map .str) (J := fun s' => s'[nm]? = some (.lst (xs.map .str)) ∧ Tp s' t c) (Y := fun v y => ∃ x, v = .str x ∧ y = encM (.var x) ∧ PyData.strOk x = true) push_get (Nat.ne_of_gt hT3.lt) ⟨Gr.push _ _ hx3, hT3.gr Gr.push⟩ (fun s' h i => ?_) (fun s' s'' h k => ⟨k.get h.1 (by have := (List.getElem?_eq_some_iff.mp hx3).1; omega), h.2.kpD k (Nat.ne_of_lt hT3.lt) (Nat.ne_of_lt hT3.ltc)⟩) (by simp; omega) (by simp) (fun v hv s' Q' h q' => ?_) (fun ys s4 hy hD h4 hkeep hlen4 => ?_)
  · show (lstOf s' nm).map (·[i]?) = _
    rw [lst_of h.1]
    rfl
  · obtain ⟨x, hx, rfl⟩ := List.mem_map.mp hv
    repeat infer_instance
    exact q' _ s' ⟨x, rfl, rfl, hxs x hx⟩ h Kp.refl
  · have k4 : Kp t s3 s4 := ⟨by simp at hlen4; omega, fun n hn hn2 => by
      rw [hkeep n (by simp; omega) hn2 (by omega), List.getElem?_append_left hn]⟩
    obtain ⟨h4, hT4⟩ := h4
    have b4 : s4[s2.length]? = some (SO.lst [.tup [.str "int", .int r1], .tup [.str "bool", .bl (decide (r2 = 0))], .tup [.str "int", .int 2]]) := by
      rw [hkeep s2.length (by simp; omega) (by have := h2.lt; omega) (by omega), List.getElem?_append_left hs2]
      exact b0
    have yl : ys.length = xs.length := by
      have : ∀ {l r : List PV} {Y : PV → PV → Prop}, F2 Y l r → r.length = l.length := fun h => by
        induction h with
        | nil => rfl
        | cons _ _ ih => simp [ih]
      rw [this hy]; simp
    repeat infer_instance
    refine w_rep hD (by decide) (by decide) (by omega) ?_
    repeat infer_instance
    have hlf : ∀ v ∈ ([.tup [.str "int", .int r1], .tup [.str "bool", .bl (decide (r2 = 0))], .tup [.str "int", .int 2]] : List PV) ++ (List.replicate (2 : Int).toNat ys).flatten, Lf v := fun v hv => by
      have hys : ∀ v ∈ ys, Lf v := by
        have : ∀ {l r : List PV}, F2 (fun v y => ∃ x, v = .str x ∧ y = encM (.var x) ∧ PyData.strOk x = true) l r → ∀ y ∈ r, Lf y := fun h => by
          induction h with
          | nil => intro y hy; cases hy
          | cons a _ ih =>
            intro y hy
            rcases List.mem_cons.mp hy with rfl | hy
            · obtain ⟨x, _, rfl, hx⟩ := a
              exact ⟨.var x, rfl, ⟨trivial, hx⟩, rfl, rfl⟩
            · exact ih y hy
        exact this hy
      rcases List.mem_append.mp hv with hv | hv
      · simp only [List.mem_cons, List.not_mem_nil, or_false] at hv
        rcases hv with rfl | rfl | rfl
        · exact ⟨.int r1, rfl, ⟨⟨a1, by unfold WHOLE; omega⟩, trivial⟩, rfl, rfl⟩
        · exact ⟨.bool _, rfl, ⟨trivial, trivial⟩, rfl, rfl⟩
        · exact ⟨.int 2, rfl, ⟨⟨by decide, by decide⟩, trivial⟩, rfl, rfl⟩
      · obtain ⟨l, hl, hv⟩ := List.mem_flatten.mp hv
        rw [(List.mem_replicate.mp hl).2] at hv
        exact hys v hv
    have hlen : (([.tup [.str "int", .int r1], .tup [.str "bool", .bl (decide (r2 = 0))], .tup [.str "int", .int 2]] : List PV) ++ (List.replicate (2 : Int).toNat ys).flatten).length ≤ 100 ∧ 0 < (([.tup [.str "int", .int r1], .tup [.str "bool", .bl (decide (r2 = 0))], .tup [.str "int", .int 2]] : List PV) ++ (List.replicate (2 : Int).toNat ys).flatten).length := by
      simp; omega
    refine w_addL (Gr.push _ _ b4) push_get (by simp at hlen ⊢; omega) ?_
    generalize ([.tup [.str "int", .int r1], .tup [.str "bool", .bl (decide (r2 = 0))], .tup [.str "int", .int 2]] : List PV) ++ (List.replicate (2 : Int).toNat ys).flatten = ll at hlf hlen ⊢
    repeat infer_instance
    refine w_lenL (lst_of push_get) ?_
    repeat infer_instance
    refine take_w ((hT4.gr Gr.push).gr Gr.push) (by omega) (by omega) hd fun r5 s5 c1 c2 h5 k5 l5 => ?_
    have hL := k5.get push_get (by have := hT4.lt; simp; omega)
    obtain ⟨j, rfl⟩ : ∃ j : Nat, r5 = j := ⟨r5.toNat, by omega⟩
    have hj : j < ll.length := by omega
    obtain ⟨p, hp, p1, p2, p3⟩ := hlf _ (List.getElem_mem hj)
    refine w_at (lst_of hL) (atI_nat (List.getElem?_eq_getElem hj)) ?_
    repeat infer_instance
    rw [hp]
    exact q p s5 p1 p2 p3 h5 ((k3.trans k4).add.add.trans k5)
theorem prog_ok {t c : Nat} : ∀ (n d : Nat) (s : Store) (nm : Nat) (xs : List Str) (Q : PV → Store → Prop), n + 5 ≤ d → n ≤ 10 → Tp s t c → s[nm]? = some (.lst (xs.map .str)) → nm ≠ t → xs.length + n ≤ 20 → (∀ x ∈ xs, PyData.strOk x = true) →
    (∀ p s', Srn p → ht p ≤ 2 * n + 2 → msr p ≤ 2 ^ (n + 1) → Tp s' t c → Kp t s s' → Q (encM p) s') → W (callN tab d i__law_program [.ref t, .ref nm, .int (n : Int)]) s Q E
  | n, 0, s, nm, xs, Q, hd, _, _, _, _, _, _, _ => absurd hd (by omega)
  | n, d + 1, s, nm, xs, Q, hd, hn, hT, hx, hne, hl, hxs, q => by
    rw [w__law_program d rfl]
    refine W_cFn ?_
    unfold b__law_program
    refine k_in ?_
    refine k_if ?_
    refine w_tor ?_
    refine w_tcmp ?_
    repeat infer_instance
    cases n with
    | zero =>
      refine ift (by rfl) ?_
      refine if_tt ?_
      exact leaf_ok (by omega) hT hx hne (by omega) hxs fun p s' a b e f g => q p s' a (by omega) (by omega) f g
    | succ n =>
      refine ifd (fun h => absurd h nz) fun _ => ?_
      repeat infer_instance
      refine take_w hT (by decide) (by decide) (by omega) fun r s1 r0 r1 h1 k1 l1 => ?_
      repeat infer_instance
      refine ifd (fun e => ?_) fun e => ?_
      · refine leaf_ok (by omega) h1 (k1.get hx hne) hne (by omega) hxs fun p s' a b z f g => q p s' a (by rw [b]; exact Nat.zero_le _) (by rw [z]; exact Nat.zero_le _) f (k1.trans g)
      · repeat infer_instance
        have hx1 := k1.get hx hne
        refine take_w h1 (by decide) (by decide) (by omega) fun r2 s2 r20 r21 h2 k2 l2 => ?_
        have hx2 := k2.get hx1 hne
        repeat infer_instance
        rw [sub1]
        refine prog_ok n d s2 nm xs _ (by omega) (by omega) h2 hx2 hne (by omega) hxs fun one s3 o1 o2 o3 h3 k3 => ?_
        have hx3 := k3.get hx2 hne
        repeat infer_instance
        rw [sub1]
        refine prog_ok n d s3 nm xs _ (by omega) (by omega) h3 hx3 hne (by omega) hxs fun two s4 p1 p2 p3 h4 k4 => ?_
        have hx4 := k4.get hx3 hne
        have kk : Kp t s s4 := ((k1.trans k2).trans k3).trans k4
        have e2 : 2 ≤ 2 ^ (n + 1) := by have := Nat.one_le_two_pow (n := n); rw [Nat.pow_succ]; omega
        have e3 : 2 ^ (n + 1 + 1) = 2 * 2 ^ (n + 1) := by rw [Nat.pow_succ]; omega
        repeat infer_instance
        refine ⟨_, rfl, ?_⟩
        repeat infer_instance
        have more : ∀ (s5 : Store) (w : Str) (Q1 : PV → Store → Prop), PyData.strOk w = true → Tp s5 t c → s5[nm]? = some (.lst (xs.map .str)) → (∀ p s', Srn p → ht p ≤ 2 * n + 2 → msr p ≤ 2 ^ (n + 1) → Tp s' t c → Kp t s5 s' → Q1 (encM p) s') →
            W (callN tab d 17 [.ref t, .ref ((s5 ++ [SO.lst [.str w]]).length), .int (n : Int)]) ((s5 ++ [SO.lst [.str w]]) ++ [SO.lst (xs.map .str ++ [.str w])]) Q1 E := fun s5 w Q1 hw h5 hx5 q1 => by
          refine prog_ok n d _ _ (xs ++ [w]) _ (by omega) (by omega) ((h5.gr Gr.push).gr Gr.push) (by rw [push_get]; simp) (by have := h5.lt; simp; omega) (by simp; omega) (fun y hy => by
            rcases List.mem_append.mp hy with hy | hy
            · exact hxs y hy
            · rw [List.mem_singleton.mp hy]; exact hw) fun p s' a b e f g => q1 p s' a b e f (Kp.refl.add.add.trans g)
        have addw : ∀ (s5 : Store) (w : Str) (Q1 : PV → Store → Prop), s5[nm]? = some (.lst (xs.map .str)) → Q1 (.ref ((s5 ++ [SO.lst [.str w]]).length)) ((s5 ++ [SO.lst [.str w]]) ++ [SO.lst (xs.map .str ++ [.str w])]) → W (binP .Add (.ref nm) (.ref s5.length)) (s5 ++ [SO.lst [.str w]]) Q1 E := fun s5 w Q1 hx5 q1 =>
          w_addL (Gr.push _ _ hx5) push_get (by simp; omega) q1
        refine ifd (fun e => ?_) fun e => ?_
        · repeat infer_instance
          refine kind_ok 2 d s4 _ (by omega) h4 fun a s5 da h5 k5 => ?_
          repeat infer_instance
          refine addw s5 "x" _ (k5.get hx4 hne) ?_
          repeat infer_instance
          rw [sub1]
          refine more s5 "x" _ (by decide +kernel) h5 (k5.get hx4 hne) fun b s6 b1 b2 b3 h6 k6 => ?_
          repeat infer_instance
          exact q (.lam "x" a b) s6 ⟨⟨da, b1.1⟩, by decide +kernel, b1.2⟩ (by simp only [ht]; omega) (by simp only [msr]; omega) h6 ((kk.trans k5).trans k6)
        · repeat infer_instance
          refine ifd (fun e => ?_) fun e => ?_
          · repeat infer_instance
            refine take_w h4 (by decide) (by decide) (by omega) fun r3 s5 c0 c1 h5 k5 l5 => ?_
            repeat infer_instance
            have hx5 := k5.get hx4 hne
            refine ifd (fun e => ?_) fun e => ?_
            · repeat infer_instance
              refine kind_ok 1 d s5 _ (by omega) h5 fun a s6 da h6 k6 => ?_
              repeat infer_instance
              refine addw s6 "y" _ (k6.get hx5 hne) ?_
              repeat infer_instance
              rw [sub1]
              refine more s6 "y" _ (by decide +kernel) h6 (k6.get hx5 hne) fun b s7 b1 b2 b3 h7 k7 => ?_
              repeat infer_instance
              exact q (.app (.lam "y" a b) two) s7 ⟨⟨⟨by omega, b1.1⟩, p1.1⟩, ⟨by decide +kernel, b1.2⟩, p1.2⟩ (by simp only [ht]; omega) (by simp only [msr]; omega) h7 (((kk.trans k5).trans k6).trans k7)
            · repeat infer_instance
              exact q (.app one two) s5 ⟨⟨o1.1, p1.1⟩, o1.2, p1.2⟩ (by simp only [ht]; omega) (by simp only [msr]; omega) h5 (kk.trans k5)
          · repeat infer_instance
            refine ifd (fun e => ?_) fun e => ?_
            · repeat infer_instance
              refine take_w h4 (by decide) (by decide) (by omega) fun r3 s5 c0 c1 h5 k5 l5 => ?_
              repeat infer_instance
              exact q (.ite (.op .lt (.int r3) (.int 1)) one two) s5 ⟨⟨⟨⟨c0, by unfold WHOLE; omega⟩, ⟨by decide, by decide⟩⟩, o1.1, p1.1⟩, ⟨trivial, trivial⟩, o1.2, p1.2⟩ (by simp only [ht]; omega) (by simp only [msr]; omega) h5 (kk.trans k5)
            · repeat infer_instance
              refine ifd (fun e => ?_) fun e => ?_
              · repeat infer_instance
                refine take_w (h4.gr Gr.push) (by decide) (by decide) (by omega) fun r3 s5 c0 c1 h5 k5 l5 => ?_
                have hL := k5.get push_get (Nat.ne_of_gt h4.lt)
                have k6 : Kp t s s5 := kk.add.trans k5
                have : r3 = 0 ∨ r3 = 1 ∨ r3 = 2 := by omega
                rcases this with rfl | rfl | rfl
                · refine w_at (lst_of hL) rfl ?_
                  repeat infer_instance
                  exact q (.op .add one two) s5 ⟨⟨o1.1, p1.1⟩, o1.2, p1.2⟩ (by simp only [ht]; omega) (by simp only [msr]; omega) h5 k6
                · refine w_at (lst_of hL) rfl ?_
                  repeat infer_instance
                  exact q (.op .lt one two) s5 ⟨⟨o1.1, p1.1⟩, o1.2, p1.2⟩ (by simp only [ht]; omega) (by simp only [msr]; omega) h5 k6
                · refine w_at (lst_of hL) rfl ?_
                  repeat infer_instance
                  exact q (.op .mul one two) s5 ⟨⟨o1.1, p1.1⟩, o1.2, p1.2⟩ (by simp only [ht]; omega) (by simp only [msr]; omega) h5 k6
              · repeat infer_instance
                refine ifd (fun e => ?_) fun e => ?_
                · repeat infer_instance
                  refine addw s4 "z" _ hx4 ?_
                  repeat infer_instance
                  rw [sub1]
                  refine more s4 "z" _ (by decide +kernel) h4 hx4 fun b s5 b1 b2 b3 h5 k5 => ?_
                  repeat infer_instance
                  exact q (.lt "z" one b) s5 ⟨⟨o1.1, b1.1⟩, by decide +kernel, o1.2, b1.2⟩ (by simp only [ht]; omega) (by simp only [msr]; omega) h5 (kk.trans k5)
                · repeat infer_instance
                  refine kind_ok 2 d s4 _ (by omega) h4 fun a s5 da h5 k5 => ?_
                  repeat infer_instance
                  exact q (.as one a) s5 ⟨⟨o1.1, da⟩, o1.2⟩ (by simp only [ht]; omega) (by simp only [msr]; omega) h5 (kk.trans k5)
end
end Zk44

end
section
set_option maxHeartbeats 4000000
namespace Zk44
open PySem L2 Z
local macro_rules | `(tactic| infer_instance) => `(tactic| first
  | with_reducible first
    | refine k_asg ?_ | refine k_exp ?_ | refine k_ret ?_ | refine k_pop ?_ | refine k_retN ?_ | refine k_ixSet ?_ | refine k_fldSet ?_ | refine k_aug ?_ | refine k_par ?_ | refine k_unp ?_ | refine k_pass ?_ | refine k_cont ?_ | refine k_break ?_ | refine k_rai0 ?_ | refine k_whl ?_ | refine k_in ?_ | refine k_end ?_
    | refine w_call ?_ | refine w_cons ?_ | refine w_nil ?_ | refine w_e2 ?_ | refine w_e1 ?_ | refine w_cmp ?_ | refine w_tcmp ?_ | refine w_ttru ?_ | refine w_sl ?_ | refine w_meth ?_ | refine w_dct ?_ | refine w_lc ?_ | refine w_unlT ?_ | refine w_dct0 ?_ | refine w_bare ?_ | refine w_and ?_ | refine w_or ?_ | refine w_part ?_ | refine w_walk ?_ | refine w_of ?_
    | refine lp_n ?_ | refine lp_c ?_ | refine lp_b ?_ | refine lp_r ?_ | refine sq_n ?_ | refine sq_r ?_ | refine fnR_n ?_ | refine fnR_r ?_ | refine if_ff ?_ | refine if_tt ?_
  | ((with_reducible apply k_if0); (case e => exact rfl))
  | ((with_reducible apply k_if1); (case e => exact rfl))
  | with_reducible refine k_if ?_
  | ((with_reducible apply w_if0); (case e => exact rfl))
  | ((with_reducible apply w_if1); (case e => exact rfl))
  | with_reducible first | refine w_if ?_ | refine w_tand ?_ | refine w_tor ?_ | refine w_tnot ?_ | refine k_for ?_
  | ((with_reducible apply w_tup); (case hl => exact Nat.le_of_ble_eq_true rfl))
  | ((with_reducible apply w_lst); (case hl => exact Nat.le_of_ble_eq_true rfl))
  | ((with_reducible apply k_rai); (case h1 => exact rfl); (case h2 => exact Nat.le_of_ble_eq_true rfl))
  | ((with_reducible apply if_r0); (case h => exact rfl))
  | ((with_reducible apply if_r1); (case h => exact rfl))
  | ((with_reducible apply W_ok); (case h => exact rfl)))
/-- the argument that a use gives -/
def argT : Ty → Tm
  | .int => .int 2
  | .bool => .bool true
  | .arr _ .int => .lam "q" .int (.var "q")
  | .arr _ _ => .lam "q" .int (.bool true)
  | .any => .bool true
def used (t : Tm) : Ty → Tm
  | .arr a b => used (.app t (argT a)) b
  | _ => t
/-- the kinds that the law uses -/
def Kd (k : Ty) : Prop := k = .int ∨ k = .bool ∨ k = .arr .int .bool ∨ k = .arr (.arr .int .int) .int
theorem used_ok {s : Store} {E : XP} {t : Tm} {k : Ty} {d : Nat} {Q : PV → Store → Prop} (hk : Kd k) (hd : 1 ≤ d) (q : Q (encM (used t k)) s) : W (callN tab d i__law_used [encM t, encT k]) s Q E := by
  obtain ⟨d, rfl⟩ : ∃ d', d = d' + 1 := ⟨d - 1, by omega⟩
  rw [w__law_used d rfl]
  refine W_cFn ?_
  unfold b__law_used b__law_used_1
  have e1 : ∀ (s : Store) (P : Bool → Store → Prop) (E : XP) (a : Ty) (b : Ty), a.dep ≤ DB → b.dep ≤ DB → P (decide (a = b)) s → W (cmpP .Eq (encT a) (encT b)) s P E := fun s P E a b h1 h2 h => c_eqT h1 h2 h
  refine k_in ?_
  refine k_whl ?_
  refine SW_while (fun m ρ s' => s' = s ∧ ∃ (t' : Tm) (k' : Ty), ρ = [some (encM t'), some (encT k')] ∧ Kd k' ∧ used t' k' = used t k ∧ m = k'.dep) (fun m ρ s' h => ?_) _ k.dep _ s ⟨rfl, t, k, rfl, hk, rfl, rfl⟩ ?_
  · obtain ⟨rfl, t', k', rfl, hk', hu, rfl⟩ := h
    rcases hk' with rfl | rfl | rfl | rfl
    · simp only [encT]
      repeat infer_instance
      rw [← hu] at q
      exact q
    · simp only [encT]
      repeat infer_instance
      rw [← hu] at q
      exact q
    · simp only [encT]
      repeat infer_instance
      refine c_eqT (a := .int) (b := .int) (Nat.zero_le _) (Nat.zero_le _) ?_
      refine ift (by decide) ?_
      repeat infer_instance
      refine ⟨_, rfl, ?_⟩
      repeat infer_instance
      exact ⟨0, by decide, rfl, .app t' (.int 2), .bool, rfl, .inr (.inl rfl), hu, rfl⟩
    · simp only [encT]
      repeat infer_instance
      refine c_eqT (a := .arr .int .int) (b := .int) (by decide) (Nat.zero_le _) ?_
      refine iff_ (by decide) ?_
      repeat infer_instance
      refine c_eqT (a := .arr .int .int) (b := .bool) (by decide) (Nat.zero_le _) ?_
      refine iff_ (by decide) ?_
      repeat infer_instance
      refine c_eqT (a := .int) (b := .int) (Nat.zero_le _) (Nat.zero_le _) ?_
      refine ift (by decide) ?_
      repeat infer_instance
      refine ⟨_, rfl, ?_⟩
      repeat infer_instance
      exact ⟨0, by decide, rfl, .app t' (.lam "q" .int (.var "q")), .int, rfl, .inl rfl, hu, rfl⟩
  · rcases hk with rfl | rfl | rfl | rfl <;> decide
end Zk44

end
section
set_option maxHeartbeats 4000000
namespace Zk44
open PySem L2 Z
local macro_rules | `(tactic| infer_instance) => `(tactic| first
  | with_reducible first
    | refine k_asg ?_ | refine k_exp ?_ | refine k_ret ?_ | refine k_pop ?_ | refine k_retN ?_ | refine k_ixSet ?_ | refine k_fldSet ?_ | refine k_aug ?_ | refine k_par ?_ | refine k_unp ?_ | refine k_pass ?_ | refine k_cont ?_ | refine k_break ?_ | refine k_rai0 ?_ | refine k_whl ?_ | refine k_in ?_ | refine k_end ?_
    | refine w_call ?_ | refine w_cons ?_ | refine w_nil ?_ | refine w_e2 ?_ | refine w_e1 ?_ | refine w_cmp ?_ | refine w_tcmp ?_ | refine w_ttru ?_ | refine w_sl ?_ | refine w_meth ?_ | refine w_dct ?_ | refine w_lc ?_ | refine w_unlT ?_ | refine w_dct0 ?_ | refine w_bare ?_ | refine w_and ?_ | refine w_or ?_ | refine w_part ?_ | refine w_walk ?_ | refine w_of ?_
    | refine lp_n ?_ | refine lp_c ?_ | refine lp_b ?_ | refine lp_r ?_ | refine sq_n ?_ | refine sq_r ?_ | refine fnR_n ?_ | refine fnR_r ?_ | refine if_ff ?_ | refine if_tt ?_
  | ((with_reducible apply k_if0); (case e => exact rfl))
  | ((with_reducible apply k_if1); (case e => exact rfl))
  | with_reducible refine k_if ?_
  | ((with_reducible apply w_if0); (case e => exact rfl))
  | ((with_reducible apply w_if1); (case e => exact rfl))
  | with_reducible first | refine w_if ?_ | refine w_tand ?_ | refine w_tor ?_ | refine w_tnot ?_ | refine k_for ?_
  | ((with_reducible apply w_tup); (case hl => exact Nat.le_of_ble_eq_true rfl))
  | ((with_reducible apply w_lst); (case hl => exact Nat.le_of_ble_eq_true rfl))
  | ((with_reducible apply k_rai); (case h1 => exact rfl); (case h2 => exact Nat.le_of_ble_eq_true rfl))
  | ((with_reducible apply if_r0); (case h => exact rfl))
  | ((with_reducible apply if_r1); (case h => exact rfl))
  | ((with_reducible apply W_ok); (case h => exact rfl)))
theorem dat_strs : ∀ l : List Str, datL (l.map PV.str) = some (l.map PyData.str)
  | [] => rfl
  | x :: r => by simp only [List.map_cons, datL, dat, dat_strs r]
theorem lay_strs : ∀ l : List Str, (∀ x ∈ l, PyData.strOk x = true) → PyData.canLayAll0 (l.map PyData.str) = true
  | [], _ => rfl
  | x :: r, h => by
    simp only [List.map_cons, PyData.canLayAll0, PyData.canLay0, h x (List.mem_cons_self ..), lay_strs r fun y hy => h y (List.mem_cons_of_mem _ hy), Bool.and_self]
theorem dep_strs : ∀ l : List Str, PyData.depthAll (l.map PyData.str) = 0
  | [] => rfl
  | x :: r => by simp only [List.map_cons, PyData.depthAll, PyData.depth, dep_strs r, Nat.max_self]
theorem shaped_strs {l : List Str} (h : ∀ x ∈ l, PyData.strOk x = true) : SeqAt.shaped (.list (l.map PyData.str)) = true := by
  unfold SeqAt.shaped
  simp only [PyData.canLay0, lay_strs l h, PyData.depth, dep_strs, Bool.true_and]
  rfl
theorem eq_strs0 {s : Store} {m n : Nat} {l : List Str} (h : ∀ x ∈ l, PyData.strOk x = true) (h1 : s[m]? = some (.lst (l.map .str))) (h2 : s[n]? = some (.lst [])) : eqP (.ref m) (.ref n) s = .ok (decide (l = [])) s := by
  show (match s[m]?, s[n]? with
    | some (.dct l), some (.dct r) => _
    | _, _ => match datS s (.ref m), datS s (.ref n) with
      | some d, some e => if SeqAt.shaped d && SeqAt.shaped e then RE.ok (PyData.eqv d e) s else .bad
      | _, _ => .bad) = _
  have d1 : datS s (.ref m) = some (.list (l.map PyData.str)) := by unfold datS; dsimp only; rw [h1]; simp only [dat_strs, Option.map_some]
  have d2 : datS s (.ref n) = some (.list []) := by unfold datS; dsimp only; rw [h2]; simp only [datL, Option.map_some]
  rw [d1, d2, h1, h2]
  dsimp only
  have z : SeqAt.shaped (PyData.list []) = true := by decide
  rw [shaped_strs h, z]
  cases l <;> rfl
theorem c_neS {s : Store} {m n : Nat} {l : List Str} {P : Bool → Store → Prop} {E : XP} (h : ∀ x ∈ l, PyData.strOk x = true) (h1 : s[m]? = some (.lst (l.map .str))) (h2 : s[n]? = some (.lst [])) (q : P (!decide (l = [])) s) : W (cmpP .NotEq (.ref m) (.ref n)) s P E := by
  refine W_ok (a := !decide (l = [])) (s' := s) ?_ q
  show bnd (eqP (.ref m) (.ref n)) (fun b => ret (!b)) s = _
  unfold bnd
  rw [eq_strs0 h h1 h2]
  rfl
/-- dicts keep what they hold -/
def DK (t : Nat) (s s' : Store) : Prop := ∀ m l, m ≠ t → dctOf s m = some l → dctOf s' m = some l
theorem DK.refl {t : Nat} {s : Store} : DK t s s := fun _ _ _ h => h
theorem DK.trans {t : Nat} {s s' s'' : Store} (h : DK t s s') (h2 : DK t s' s'') : DK t s s'' := fun m l hm e => h2 m l hm (h m l hm e)
theorem dctOf_lt {s : Store} {m : Nat} {l : List (Key × PV)} (h : dctOf s m = some l) : m < s.length := by
  unfold dctOf at h
  cases e : s[m]? with
  | none => rw [e] at h; cases h
  | some o => exact (List.getElem?_eq_some_iff.mp e).1
theorem dctOf_eq {s s' : Store} {m : Nat} (h : s'[m]? = s[m]?) : dctOf s' m = dctOf s m := by unfold dctOf; rw [h]
theorem _root_.Z.Kp.dk {t : Nat} {s s' : Store} (k : Kp t s s') : DK t s s' := fun m l hm e => by
  rw [dctOf_eq (k.at_ m (dctOf_lt e) hm)]
  exact e
theorem w_walkK {s : Store} {E : XP} {P : Sc → Store → Prop} {n : Nat} {l : List (Key × PV)} (hs : dctOf s n = some l) (h : ∀ s', s'[n]? = some (.rod l) → (∀ m, m ≠ n → s'[m]? = s[m]?) → s'.length = s.length → P (.keys n) s') : W (walkP (.ref n)) s P E := by
  have hn := dctOf_lt hs
  unfold dctOf at hs
  cases e : s[n]? with
  | none => rw [e] at hs; cases hs
  | some o =>
    rw [e] at hs
    cases o with
    | dct l' => cases hs; exact w_walkD e (h _ (by simp [hn]) (fun m hm => by rw [List.getElem?_set_ne (Ne.symm hm)]) (by simp))
    | rod l' => cases hs; exact w_walkR e (h _ e (fun _ _ => rfl) rfl)
    | _ => cases hs
/-- the names -/
structure NR (s : Store) (n : Nat) (Γ : Zk44.Cx) (N : Nat) : Prop where
  ex : ∃ l, dctOf s n = some l ∧ l.length ≤ N ∧ (∀ x, dget l (.inr x) = (Γ x).map encT) ∧ ∀ p ∈ l, ∃ x, p.1 = .inr x ∧ PyData.strOk x = true
  dep : ∀ x u, Γ x = some u → u.dep ≤ 2
theorem NR.keep {t : Nat} {s s' : Store} {n N : Nat} {Γ : Zk44.Cx} (h : NR s n Γ N) (k : DK t s s') (hn : n ≠ t) : NR s' n Γ N := by
  obtain ⟨⟨l, a, b⟩, c⟩ := h
  exact ⟨⟨l, k n l hn a, b⟩, c⟩
theorem dput_mem {l : List (Key × PV)} {k : Key} {v : PV} {p : Key × PV} (h : p ∈ dput l k v) : p.1 = k ∨ ∃ q ∈ l, q.1 = p.1 := by
  unfold dput at h
  split at h
  · obtain ⟨q, hq, e⟩ := List.mem_map.mp h
    refine .inr ⟨q, hq, ?_⟩
    rw [← e]
    split <;> rfl
  · rcases List.mem_append.mp h with h | h
    · exact .inr ⟨p, h, rfl⟩
    · rw [List.mem_singleton.mp h]; exact .inl rfl
theorem name_ok : ∀ n : Nat, n ≤ 20 → PyData.strOk (("x" : Str) ++ (toString (n : Int) : String)) = true := by
  have : ∀ n : Fin 21, PyData.strOk (("x" : Str) ++ (toString (n.val : Int) : String)) = true := by decide +kernel
  exact fun n h => this ⟨n, by omega⟩
/-- how many results a function gives -/
def Ty.ar : Ty → Nat
  | .arr _ b => b.ar + 1
  | _ => 0
def KO (k : Ty) : Prop := k.full = true ∧ k.dep ≤ 2
theorem ST.msr_le {Γ : Zk44.Cx} {t : Tm} {k : Ty} (h : ST Γ t k) : msr t ≤ ht t := by
  induction h <;> simp only [msr, ht] at * <;> omega
def Ty.word : Ty → Str
  | .int => "int"
  | .bool => "bool"
  | .any => "any"
  | .arr _ _ => "arrow"
theorem w_hd {k : Ty} {s : Store} {Q : PV → Store → Prop} {E : XP} (q : Q (.str k.word) s) : W (ixP (encT k) (.int 0)) s Q E := by cases k <;> exact W_ok rfl q
theorem w_strI {n : Nat} {s : Store} {Q : PV → Store → Prop} {E : XP} (h : n ≤ 1000) (q : Q (.str (toString (n : Int) : String)) s) : W (bltP .str [.int (n : Nat)]) s Q E := by
  refine W_ok (a := .str (toString (n : Int) : String)) (s' := s) ?_ q
  show (if ((n : Nat) : Int).natAbs.log2 < 1920 then Z.ret (PV.str (Str.ofString (toString ((n : Nat) : Int)))) else stop) s = _
  have hn : ((n : Nat) : Int).natAbs.log2 < 1920 := by
    have : ((n : Nat) : Int).natAbs = n := rfl
    rw [this]
    have := Nat.log2_le_self n
    omega
  rw [if_pos hn]
  rfl
theorem w_addS {x y : Str} {s : Store} {Q : PV → Store → Prop} {E : XP} (h : x.length + y.length ≤ 100000) (q : Q (.str (x ++ y)) s) : W (binP .Add (.str x) (.str y)) s Q E := by
  refine W_ok (a := .str (x ++ y)) (s' := s) ?_ q
  show (if x.length + y.length ≤ sizeLine then ret (PV.str (x ++ y)) else stop) s = _
  rw [if_pos (show x.length + y.length ≤ sizeLine from Nat.le_trans h (by decide))]
  rfl
theorem name_len : ∀ n : Nat, n ≤ 20 → ("x" : Str).length + (Str.ofString (toString (n : Int))).length ≤ 100000 := by
  have : ∀ n : Fin 21, ("x" : Str).length + (Str.ofString (toString (n.val : Int))).length ≤ 100000 := by decide +kernel
  exact fun n h => this ⟨n, by omega⟩
theorem _root_.Z.Tp.same {t c : Nat} {s s' : Store} (h : Tp s t c) (ht : s'[t]? = s[t]?) (hc : s'[c]? = s[c]?) : Tp s' t c := by
  obtain ⟨a, l, sd, sa, zs, e1, e2, e3⟩ := h.ex
  exact ⟨a, l, sd, sa, zs, by rw [ht]; exact e1, by rw [hc]; exact e2, e3⟩
theorem _root_.Z.Tp.neD {t c n : Nat} {s : Store} {l : List (Key × PV)} (h : Tp s t c) (hd : dctOf s n = some l) : c ≠ n := by
  obtain ⟨a, l, sd, sa, zs, e1, e2, e3⟩ := h.ex
  rintro rfl
  unfold dctOf at hd
  rw [e2] at hd
  cases hd
section
variable {E : XP}
def IHs (t c d : Nat) (E : XP) : Prop := ∀ (m : Nat) (s : Store) (nm : Nat) (Γ : Zk44.Cx) (k : Ty) (n : Int) (N : Nat) (Q : PV → Store → Prop), 2 * n.toNat + k.ar ≤ m → m + 3 ≤ d → KO k → Tp s t c → NR s nm Γ N → nm ≠ t → N + m ≤ 12 →
    (∀ p s', ST Γ p k → Src 2 p → ht p ≤ m → Tp s' t c → DK t s s' → s.length ≤ s'.length → Q (encM p) s') → W (callN tab d 18 [.ref t, encT k, .ref nm, .int n]) s Q E
theorem other_leaf {t c d : Nat} {s : Store} {Q : PV → Store → Prop} (hd : 1 ≤ d) (h : Tp s t c) (q : ∀ o s', KO o → o.ar ≤ 1 → o.dep ≤ 1 → Tp s' t c → Kp t s s' → Q (encT o) s') :
    W (callN tab d 15 [.ref t, .int 4]) (s ++ [SO.lst [.tup [.str "int"], .tup [.str "bool"], .tup [.str "arrow", .tup [.str "int"], .tup [.str "int"]], .tup [.str "arrow", .tup [.str "int"], .tup [.str "bool"]]]]) (fun y s' => W (ixP (.ref s.length) y) s' Q E) E := by
  refine take_w (h.gr Gr.push) (by decide) (by decide) hd fun r s2 r0 r1 h2 k2 l2 => ?_
  have hL := k2.get push_get (Nat.ne_of_gt h.lt)
  have k3 : Kp t s s2 := Kp.refl.add.trans k2
  have : r = 0 ∨ r = 1 ∨ r = 2 ∨ r = 3 := by omega
  rcases this with rfl | rfl | rfl | rfl
  · exact w_at (lst_of hL) rfl (q .int s2 ⟨rfl, by decide⟩ (by decide) (by decide) h2 k3)
  · exact w_at (lst_of hL) rfl (q .bool s2 ⟨rfl, by decide⟩ (by decide) (by decide) h2 k3)
  · exact w_at (lst_of hL) rfl (q (.arr .int .int) s2 ⟨rfl, by decide⟩ (by decide) (by decide) h2 k3)
  · exact w_at (lst_of hL) rfl (q (.arr .int .bool) s2 ⟨rfl, by decide⟩ (by decide) (by decide) h2 k3)
theorem static_flat {t c d nm N m : Nat} {n : Int} {Γ : Zk44.Cx} {k : Ty} {s : Store} {Q : PV → Store → Prop} (ih : IHs t c d E) (hm : 2 * n.toNat ≤ m) (hd : m + 3 ≤ d + 1) (hk : k = .int ∨ k = .bool) (hT : Tp s t c) (hN : NR s nm Γ N) (hne : nm ≠ t) (hl : N + m ≤ 12)
    (q : ∀ p s', ST Γ p k → Src 2 p → ht p ≤ m → Tp s' t c → DK t s s' → s.length ≤ s'.length → Q (encM p) s') {o4 o5 o6 o7 o8 : Option PV} {r : List (List SM)} :
    SW (cB ([cIf (tCmp .LtE (sl 3) (kst (.int 0))) (cBlk [cRet (eIf (tCmp .Eq (sl 1) (eTup [kst (.str "int")])) (eTup [kst (.str "int"), eCall (callN tab d 15) [sl 0, kst (.int 4)]]) (eTup [kst (.str "bool"), eCmp .Eq (eCall (callN tab d 15) [sl 0, kst (.int 2)]) (kst (.int 0))]))]) (cBlk []),
  cAsg 7 (eCall (callN tab d 15) [sl 0, kst (.int 4)]),
  cAsg 8 (Z.e2 ixP (eLst [eTup [kst (.str "int")], eTup [kst (.str "bool")], eTup [kst (.str "arrow"), eTup [kst (.str "int")], eTup [kst (.str "int")]], eTup [kst (.str "arrow"), eTup [kst (.str "int")], eTup [kst (.str "bool")]]]) (eCall (callN tab d 15) [sl 0, kst (.int 4)])),
  cIf (tCmp .Lt (sl 7) (kst (.int 2))) (cBlk [cRet (eTup [kst (.str "app"), eCall (callN tab d 18) [sl 0, eTup [kst (.str "arrow"), sl 8, sl 1], sl 2, Z.e2 (binP .Sub) (sl 3) (kst (.int 1))], eCall (callN tab d 18) [sl 0, sl 8, sl 2, Z.e2 (binP .Sub) (sl 3) (kst (.int 1))]])]) (cBlk []),
  cIf (tCmp .Eq (sl 7) (kst (.int 2))) (cBlk [cRet (eTup [kst (.str "if"), eCall (callN tab d 18) [sl 0, eTup [kst (.str "bool")], sl 2, Z.e2 (binP .Sub) (sl 3) (kst (.int 1))], eCall (callN tab d 18) [sl 0, sl 1, sl 2, Z.e2 (binP .Sub) (sl 3) (kst (.int 1))], eCall (callN tab d 18) [sl 0, sl 1, sl 2, Z.e2 (binP .Sub) (sl 3) (kst (.int 1))]])]) (cBlk []),
  cRet (eTup [kst (.str "op"), eIf (tCmp .Eq (sl 1) (eTup [kst (.str "int")])) (kst (.str "+")) (kst (.str "<")), eCall (callN tab d 18) [sl 0, eTup [kst (.str "int")], sl 2, Z.e2 (binP .Sub) (sl 3) (kst (.int 1))], eCall (callN tab d 18) [sl 0, eTup [kst (.str "int")], sl 2, Z.e2 (binP .Sub) (sl 3) (kst (.int 1))]])] :: r)) [some (.ref t), some (encT k), some (.ref nm), some (.int n), o4, o5, o6, o7, o8] s (fnR Q) E := by
  have kd : k.dep ≤ DB := by rcases hk with rfl | rfl <;> exact Nat.zero_le _
  have kf : KO k := by rcases hk with rfl | rfl <;> exact ⟨rfl, by decide⟩
  have ka : k.ar = 0 := by rcases hk with rfl | rfl <;> rfl
  repeat infer_instance
  refine ifd (fun e => ?_) fun e => ?_
  · repeat infer_instance
    refine c_eqT (b := .int) kd (Nat.zero_le _) ?_
    refine ifd (fun e2 => ?_) fun e2 => ?_
    · subst e2
      repeat infer_instance
      refine take_w hT (by decide) (by decide) (by omega) fun r s1 r0 r1 h1 k1 l1 => ?_
      repeat infer_instance
      exact q (.int r) s1 (.int r0 (by unfold WHOLE; omega)) ⟨r0, by unfold WHOLE; omega⟩ (Nat.zero_le _) h1 k1.dk (by omega)
    · have : k = .bool := hk.resolve_left e2
      subst this
      repeat infer_instance
      refine take_w hT (by decide) (by decide) (by omega) fun r s1 r0 r1 h1 k1 l1 => ?_
      repeat infer_instance
      exact q (.bool _) s1 .bool trivial (Nat.zero_le _) h1 k1.dk (by omega)
  · repeat infer_instance
    refine take_w hT (by decide) (by decide) (by omega) fun r1 s1 a0 a1 h1 k1 l1 => ?_
    repeat infer_instance
    refine other_leaf (by omega) h1 fun o s2 ko oa od h2 k2 => ?_
    have k12 := k1.trans k2
    have hN2 := hN.keep k12.dk hne
    repeat infer_instance
    refine ifd (fun e1 => ?_) fun e1 => ?_
    · repeat infer_instance
      refine ih (m - 1) s2 nm Γ (.arr o k) (n - 1) N _ (by simp only [Ty.ar, ka]; omega) (by omega) ⟨by simp only [Ty.full, ko.1, kf.1]; rfl, by simp only [Ty.dep]; rcases hk with rfl | rfl <;> simp only [Ty.dep] <;> omega⟩ h2 hN2 hne (by omega) fun f s3 f1 f2 f3 h3 k3 l3 => ?_
      repeat infer_instance
      refine ih (m - 1) s3 nm Γ o (n - 1) N _ (by omega) (by omega) ko h3 (hN2.keep k3 hne) hne (by omega) fun x s4 x1 x2 x3 h4 k4 l4 => ?_
      repeat infer_instance
      exact q (.app f x) s4 (.app f1 x1) ⟨f2, x2⟩ (by simp only [ht]; omega) h4 ((k12.dk.trans k3).trans k4) (by have := k12.le; omega)
    · repeat infer_instance
      refine ifd (fun e2 => ?_) fun e2 => ?_
      · repeat infer_instance
        refine ih (m - 1) s2 nm Γ .bool (n - 1) N _ (by simp only [Ty.ar]; omega) (by omega) ⟨rfl, by decide⟩ h2 hN2 hne (by omega) fun f s3 f1 f2 f3 h3 k3 l3 => ?_
        repeat infer_instance
        refine ih (m - 1) s3 nm Γ k (n - 1) N _ (by omega) (by omega) kf h3 (hN2.keep k3 hne) hne (by omega) fun x s4 x1 x2 x3 h4 k4 l4 => ?_
        repeat infer_instance
        refine ih (m - 1) s4 nm Γ k (n - 1) N _ (by omega) (by omega) kf h4 ((hN2.keep k3 hne).keep k4 hne) hne (by omega) fun y s5 y1 y2 y3 h5 k5 l5 => ?_
        repeat infer_instance
        exact q (.ite f x y) s5 (.ite f1 x1 y1) ⟨f2, x2, y2⟩ (by simp only [ht]; omega) h5 (((k12.dk.trans k3).trans k4).trans k5) (by have := k12.le; omega)
      · repeat infer_instance
        refine c_eqT (b := .int) kd (Nat.zero_le _) ?_
        refine ifd (fun e3 => ?_) fun e3 => ?_
        · subst e3
          repeat infer_instance
          refine ih (m - 1) s2 nm Γ .int (n - 1) N _ (by simp only [Ty.ar]; omega) (by omega) ⟨rfl, by decide⟩ h2 hN2 hne (by omega) fun f s3 f1 f2 f3 h3 k3 l3 => ?_
          repeat infer_instance
          refine ih (m - 1) s3 nm Γ .int (n - 1) N _ (by simp only [Ty.ar]; omega) (by omega) ⟨rfl, by decide⟩ h3 (hN2.keep k3 hne) hne (by omega) fun x s4 x1 x2 x3 h4 k4 l4 => ?_
          repeat infer_instance
          exact q (.op .add f x) s4 (.add f1 x1) ⟨f2, x2⟩ (by simp only [ht]; omega) h4 ((k12.dk.trans k3).trans k4) (by have := k12.le; omega)
        · have : k = .bool := hk.resolve_left e3
          subst this
          repeat infer_instance
          refine ih (m - 1) s2 nm Γ .int (n - 1) N _ (by simp only [Ty.ar]; omega) (by omega) ⟨rfl, by decide⟩ h2 hN2 hne (by omega) fun f s3 f1 f2 f3 h3 k3 l3 => ?_
          repeat infer_instance
          refine ih (m - 1) s3 nm Γ .int (n - 1) N _ (by simp only [Ty.ar]; omega) (by omega) ⟨rfl, by decide⟩ h3 (hN2.keep k3 hne) hne (by omega) fun x s4 x1 x2 x3 h4 k4 l4 => ?_
          repeat infer_instance
          exact q (.op .lt f x) s4 (.ltt f1 x1) ⟨f2, x2⟩ (by simp only [ht]; omega) h4 ((k12.dk.trans k3).trans k4) (by have := k12.le; omega)
theorem static_rest {t c d nm N m : Nat} {n : Int} {Γ : Zk44.Cx} {k : Ty} {s : Store} {Q : PV → Store → Prop} (ih : IHs t c d E) (hm : 2 * n.toNat + k.ar ≤ m) (hd : m + 3 ≤ d + 1) (hk : KO k) (hT : Tp s t c) (hN : NR s nm Γ N) (hne : nm ≠ t) (hl : N + m ≤ 12)
    (q : ∀ p s', ST Γ p k → Src 2 p → ht p ≤ m → Tp s' t c → DK t s s' → s.length ≤ s'.length → Q (encM p) s') {o4 o5 o6 o7 o8 : Option PV} {r : List (List SM)} :
    SW (cB ([cIf (tCmp .Eq (Z.e2 ixP (sl 1) (kst (.int 0))) (kst (.str "arrow"))) (cBlk [cAsg 5 (eCall (bltP .dict) [sl 2]), cAsg 6 (Z.e2 (binP .Add) (kst (.str "x")) (eCall (bltP .str) [eCall (bltP .len) [sl 2]])), cIxSet (sl 5) (sl 6) (Z.e2 ixP (sl 1) (kst (.int 1))), cRet (eTup [kst (.str "lam"), sl 6, Z.e2 ixP (sl 1) (kst (.int 1)), eCall (callN tab d 18) [sl 0, Z.e2 ixP (sl 1) (kst (.int 2)), sl 5, Z.e2 (binP .Sub) (sl 3) (kst (.int 1))]])]) (cBlk []),
  cIf (tCmp .LtE (sl 3) (kst (.int 0))) (cBlk [cRet (eIf (tCmp .Eq (sl 1) (eTup [kst (.str "int")])) (eTup [kst (.str "int"), eCall (callN tab d 15) [sl 0, kst (.int 4)]]) (eTup [kst (.str "bool"), eCmp .Eq (eCall (callN tab d 15) [sl 0, kst (.int 2)]) (kst (.int 0))]))]) (cBlk []),
  cAsg 7 (eCall (callN tab d 15) [sl 0, kst (.int 4)]),
  cAsg 8 (Z.e2 ixP (eLst [eTup [kst (.str "int")], eTup [kst (.str "bool")], eTup [kst (.str "arrow"), eTup [kst (.str "int")], eTup [kst (.str "int")]], eTup [kst (.str "arrow"), eTup [kst (.str "int")], eTup [kst (.str "bool")]]]) (eCall (callN tab d 15) [sl 0, kst (.int 4)])),
  cIf (tCmp .Lt (sl 7) (kst (.int 2))) (cBlk [cRet (eTup [kst (.str "app"), eCall (callN tab d 18) [sl 0, eTup [kst (.str "arrow"), sl 8, sl 1], sl 2, Z.e2 (binP .Sub) (sl 3) (kst (.int 1))], eCall (callN tab d 18) [sl 0, sl 8, sl 2, Z.e2 (binP .Sub) (sl 3) (kst (.int 1))]])]) (cBlk []),
  cIf (tCmp .Eq (sl 7) (kst (.int 2))) (cBlk [cRet (eTup [kst (.str "if"), eCall (callN tab d 18) [sl 0, eTup [kst (.str "bool")], sl 2, Z.e2 (binP .Sub) (sl 3) (kst (.int 1))], eCall (callN tab d 18) [sl 0, sl 1, sl 2, Z.e2 (binP .Sub) (sl 3) (kst (.int 1))], eCall (callN tab d 18) [sl 0, sl 1, sl 2, Z.e2 (binP .Sub) (sl 3) (kst (.int 1))]])]) (cBlk []),
  cRet (eTup [kst (.str "op"), eIf (tCmp .Eq (sl 1) (eTup [kst (.str "int")])) (kst (.str "+")) (kst (.str "<")), eCall (callN tab d 18) [sl 0, eTup [kst (.str "int")], sl 2, Z.e2 (binP .Sub) (sl 3) (kst (.int 1))], eCall (callN tab d 18) [sl 0, eTup [kst (.str "int")], sl 2, Z.e2 (binP .Sub) (sl 3) (kst (.int 1))]])] :: r)) [some (.ref t), some (encT k), some (.ref nm), some (.int n), o4, o5, o6, o7, o8] s (fnR Q) E := by
  repeat infer_instance
  refine w_hd ?_
  repeat infer_instance
  refine ifd (fun e => ?_) fun e => ?_
  · cases k with
    | arr a b =>
      simp only [encT]
      obtain ⟨⟨l, h1, h2, h3, h4⟩, hdep⟩ := hN
      simp only [Ty.ar] at hm
      have ka : a.full = true ∧ b.full = true := by
        have := hk.1
        simp only [Ty.full, Bool.and_eq_true] at this
        exact this
      have kdp : a.dep ≤ 2 ∧ b.dep ≤ 2 := by
        have := hk.2
        simp only [Ty.dep] at this
        omega
      repeat infer_instance
      refine w_dictK h1 ?_
      repeat infer_instance
      refine w_lenD (Gr.push.dct h1) ?_
      repeat infer_instance
      refine w_strI (by omega) ?_
      repeat infer_instance
      refine w_addS (name_len _ (by omega)) ?_
      repeat infer_instance
      have hx := name_ok l.length (by omega)
      generalize ("x" : Str) ++ (toString (l.length : Int) : String) = x at hx ⊢
      refine w_putD push_get (by omega) ?_
      repeat infer_instance
      have g1 : Gr s ((s ++ [SO.dct l]).set s.length (SO.dct (dput l (.inr x) (encT a)))) := Gr.push.put (Nat.le_refl _)
      have hD : ((s ++ [SO.dct l]).set s.length (SO.dct (dput l (.inr x) (encT a))))[s.length]? = some (SO.dct (dput l (.inr x) (encT a))) := put_get (by simp)
      refine ih (m - 1) _ s.length (put Γ x a) b (n - 1) (N + 1) _ (by omega) (by omega) ⟨ka.2, kdp.2⟩ (hT.gr g1) ⟨⟨_, dctOf_dct hD, Nat.le_trans dput_len (by omega), fun y => ?_, fun p hp => ?_⟩, fun y u hu => ?_⟩ (Nat.ne_of_gt hT.lt) (by omega) fun p s3 f1 f2 f3 hT3 k3 l3 => ?_
      · rw [dget_put, put_eq, h3]
        by_cases c : y = x
        · subst c
          rw [if_pos rfl, if_pos rfl]; rfl
        · rw [if_neg (fun h => c (Sum.inr.inj h)), if_neg c]
      · rcases dput_mem hp with e | ⟨p', hp', e⟩
        · exact ⟨x, e, hx⟩
        · obtain ⟨y, e2, e3⟩ := h4 p' hp'
          exact ⟨y, by rw [← e]; exact e2, e3⟩
      · rw [put_eq] at hu
        split at hu
        · cases hu; exact kdp.1
        · exact hdep y u hu
      · repeat infer_instance
        exact q (.lam x a p) s3 (.lam f1) ⟨kdp.1, f2⟩ (by simp only [ht]; omega) hT3 (fun m' l' hm' e' => k3 m' l' hm' (g1.dct e')) (Nat.le_trans g1.len l3)
    | _ => exact absurd e (by decide)
  · refine k_pop ?_
    have hf : k = .int ∨ k = .bool := by
      cases k with
      | int => exact .inl rfl
      | bool => exact .inr rfl
      | any => have := hk.1; cases this
      | arr a b => exact absurd rfl e
    exact static_flat (m := m) (n := n) ih (by omega) hd hf hT hN hne hl q
theorem static_ok {t c : Nat} : ∀ d : Nat, IHs t c d E
  | 0 => fun m s nm Γ k n N Q _ hd => absurd hd (by omega)
  | d + 1 => fun m s nm Γ k n N Q hm hd hk hT hN hne hl q => by
    have ih := static_ok (t := t) (c := c) d
    rw [w__law_static d rfl]
    refine W_cFn ?_
    unfold b__law_static
    repeat infer_instance
    have hN' := hN
    obtain ⟨⟨l, h1, h2, h3, h4⟩, hdep⟩ := hN
    have hcn : c ≠ nm := hT.neD h1
    refine w_walkK h1 fun s1 w1 w2 w3 => ?_
    have hlen : lenI s1 (.keys nm) = l.length := by
      show ((dctOf s1 nm).getD []).length = _
      rw [dctOf_rod w1]
      rfl
    rw [hlen]
    refine w_lcC (fun i acc s' => (∃ xs : List Str, acc = xs.map .str ∧ (∀ x ∈ xs, Γ x = some k ∧ PyData.strOk x = true) ∧ xs.length ≤ i) ∧ (∀ n, n < s1.length → s'[n]? = s1[n]?) ∧ s'.length = s1.length + 1) (l.map fun p => keyP p.1) ?_ (by simp; omega) ?_ ?_ _ 0 [] _ ?_ ?_ (by simp) (by simp) ?_
    · intro i acc s' hI
      show (match s'[nm]? with
        | some (.rod l) => some ((l[i]?).map fun p : Key × PV => keyP p.1)
        | _ => none) = _
      rw [hI.2.1 nm (by rw [w3]; exact dctOf_lt h1), w1]
      simp
    · intro i v acc s' hv hI hD
      obtain ⟨⟨xs, e1, e2, el⟩, e3, e4⟩ := hI
      obtain ⟨p, hp, rfl⟩ := List.mem_map.mp (List.mem_of_getElem? hv)
      obtain ⟨x, ex, sx⟩ := h4 p hp
      have hs' : dctOf s' nm = some l := by rw [dctOf_eq (e3 nm (by rw [w3]; exact dctOf_lt h1))]; exact dctOf_rod w1
      have hany : (l.any fun q => decide (q.1 = Sum.inr x)) = true := List.any_eq_true.mpr ⟨p, hp, by rw [ex]; exact decide_eq_true rfl⟩
      rw [dget_any, h3] at hany
      rw [ex]
      refine ⟨_, rfl, ?_⟩
      repeat infer_instance
      cases hu : Γ x with
      | none => rw [hu] at hany; cases hany
      | some u =>
        have hud := hdep x u hu
        have hkd := hk.2
        have hDB : DB = 38 := rfl
        refine w_getK hs' rfl (by rw [h3, hu]; rfl) ?_
        repeat infer_instance
        refine c_eqT (a := u) (b := k) (by omega) (by omega) ?_
        refine ifd (fun e => ?_) fun e => ?_
        · subst e
          repeat infer_instance
          refine ⟨hD, ⟨xs ++ [x], by rw [e1]; simp [keyP], fun y hy => ?_, by simp; omega⟩, fun n hn => ?_, by simp; omega⟩
          · rcases List.mem_append.mp hy with hy | hy
            · exact e2 y hy
            · rw [List.mem_singleton.mp hy]; exact ⟨hu, sx⟩
          · rw [List.getElem?_set_ne (by omega)]
            exact e3 n hn
        · exact ⟨hD, ⟨xs, e1, e2, by omega⟩, e3, e4⟩
    · intro acc s2 hI hD
      obtain ⟨⟨xs, rfl, e2, el⟩, e3, e4⟩ := hI
      have hlt : ∀ n, n < s.length → n ≠ nm → s2[n]? = s[n]? := fun n hn hn2 => by rw [e3 n (by omega), w2 n hn2]
      have hT2 : Tp s2 t c := hT.same (hlt t hT.lt (Ne.symm hne)) (hlt c hT.ltc hcn)
      have hdk : DK t s s2 := fun m' l' hm' e' => by
        by_cases c : m' = nm
        · subst c
          rw [h1] at e'
          cases e'
          rw [dctOf_eq (e3 m' (by rw [w3]; exact dctOf_lt h1))]
          exact dctOf_rod w1
        · rw [dctOf_eq (hlt m' (dctOf_lt e') c)]
          exact e'
      have hL : s2[s1.length]? = some (SO.lst (xs.map .str)) := hD
      have hle : s.length ≤ s2.length := by omega
      repeat infer_instance
      refine c_neS (l := xs) (fun x hx => (e2 x hx).2) (Gr.push _ _ hL) push_get ?_
      have fin : ∀ s3 : Store, Tp s3 t c → DK t s2 s3 → s2.length ≤ s3.length → ∀ {o5 o6 o7 o8 : Option PV} {r : List (List SM)}, SW (cB ([cIf (tCmp .Eq (Z.e2 ixP (sl 1) (kst (.int 0))) (kst (.str "arrow"))) (cBlk [cAsg 5 (eCall (bltP .dict) [sl 2]), cAsg 6 (Z.e2 (binP .Add) (kst (.str "x")) (eCall (bltP .str) [eCall (bltP .len) [sl 2]])), cIxSet (sl 5) (sl 6) (Z.e2 ixP (sl 1) (kst (.int 1))), cRet (eTup [kst (.str "lam"), sl 6, Z.e2 ixP (sl 1) (kst (.int 1)), eCall (callN tab d 18) [sl 0, Z.e2 ixP (sl 1) (kst (.int 2)), sl 5, Z.e2 (binP .Sub) (sl 3) (kst (.int 1))]])]) (cBlk []),
  cIf (tCmp .LtE (sl 3) (kst (.int 0))) (cBlk [cRet (eIf (tCmp .Eq (sl 1) (eTup [kst (.str "int")])) (eTup [kst (.str "int"), eCall (callN tab d 15) [sl 0, kst (.int 4)]]) (eTup [kst (.str "bool"), eCmp .Eq (eCall (callN tab d 15) [sl 0, kst (.int 2)]) (kst (.int 0))]))]) (cBlk []),
  cAsg 7 (eCall (callN tab d 15) [sl 0, kst (.int 4)]),
  cAsg 8 (Z.e2 ixP (eLst [eTup [kst (.str "int")], eTup [kst (.str "bool")], eTup [kst (.str "arrow"), eTup [kst (.str "int")], eTup [kst (.str "int")]], eTup [kst (.str "arrow"), eTup [kst (.str "int")], eTup [kst (.str "bool")]]]) (eCall (callN tab d 15) [sl 0, kst (.int 4)])),
  cIf (tCmp .Lt (sl 7) (kst (.int 2))) (cBlk [cRet (eTup [kst (.str "app"), eCall (callN tab d 18) [sl 0, eTup [kst (.str "arrow"), sl 8, sl 1], sl 2, Z.e2 (binP .Sub) (sl 3) (kst (.int 1))], eCall (callN tab d 18) [sl 0, sl 8, sl 2, Z.e2 (binP .Sub) (sl 3) (kst (.int 1))]])]) (cBlk []),
  cIf (tCmp .Eq (sl 7) (kst (.int 2))) (cBlk [cRet (eTup [kst (.str "if"), eCall (callN tab d 18) [sl 0, eTup [kst (.str "bool")], sl 2, Z.e2 (binP .Sub) (sl 3) (kst (.int 1))], eCall (callN tab d 18) [sl 0, sl 1, sl 2, Z.e2 (binP .Sub) (sl 3) (kst (.int 1))], eCall (callN tab d 18) [sl 0, sl 1, sl 2, Z.e2 (binP .Sub) (sl 3) (kst (.int 1))]])]) (cBlk []),
  cRet (eTup [kst (.str "op"), eIf (tCmp .Eq (sl 1) (eTup [kst (.str "int")])) (kst (.str "+")) (kst (.str "<")), eCall (callN tab d 18) [sl 0, eTup [kst (.str "int")], sl 2, Z.e2 (binP .Sub) (sl 3) (kst (.int 1))], eCall (callN tab d 18) [sl 0, eTup [kst (.str "int")], sl 2, Z.e2 (binP .Sub) (sl 3) (kst (.int 1))]])] :: r)) [some (.ref t), some (encT k), some (.ref nm), some (.int n), some (.ref s1.length), o5, o6, o7, o8] s3 (fnR Q) E := fun s3 hT3 dk3 le3 o5 o6 o7 o8 r =>
        static_rest ih hm hd hk hT3 (hN'.keep (hdk.trans dk3) hne) hne hl fun p s' a1 a2 a3 a4 a5 a6 => q p s' a1 a2 a3 a4 ((hdk.trans dk3).trans a5) (by omega)
      cases xs with
      | nil =>
        refine iff_ (by simp) ?_
        refine k_pop ?_
        exact fin _ (hT2.gr Gr.push) (Kp.push (t := t)).dk (by simp)
      | cons x0 xr =>
        refine ift (by simp) ?_
        repeat infer_instance
        refine take_w (hT2.gr Gr.push) (by decide) (by decide) (by omega) fun r3 s3 a0 a1 hT3 k3 l3 => ?_
        have k3' : Kp t s2 s3 := Kp.refl.add.trans k3
        have hL3 := k3'.get hL (by have := hT.lt; omega)
        repeat infer_instance
        refine ifd (fun e => ?_) fun e => ?_
        · repeat infer_instance
          refine w_lenL (lst_of hL3) ?_
          repeat infer_instance
          have hxl : (x0 :: xr).length ≤ 100 := by simp at el ⊢; omega
          refine take_w hT3 (by simp) (by simp at hxl ⊢; omega) (by omega) fun r4 s4 b0 b1 hT4 k4 l4 => ?_
          obtain ⟨j, rfl⟩ : ∃ j : Nat, r4 = j := ⟨r4.toNat, by omega⟩
          have hj : j < (x0 :: xr).length := by simp at b1 ⊢; omega
          have hL4 := k4.get hL3 (by have := hT.lt; omega)
          refine w_at (v := .str (x0 :: xr)[j]) (lst_of hL4) (atI_nat (by rw [List.getElem?_map, List.getElem?_eq_getElem hj]; rfl)) ?_
          repeat infer_instance
          exact q (.var _) s4 (.var (e2 _ (List.getElem_mem hj)).1) trivial (Nat.zero_le _) hT4 ((hdk.trans k3'.dk).trans k4.dk) (by have := k3'.le; omega)
        · refine k_pop ?_
          exact fin _ hT3 k3'.dk k3'.le
    · exact ⟨⟨[], rfl, (fun x hx => by cases hx), Nat.le_refl _⟩, fun n hn => List.getElem?_append_left hn, by simp⟩
    · exact push_get
    · simp
end
end Zk44

end
section
set_option maxHeartbeats 4000000
namespace Zk44
open PySem L2 Z
local macro_rules | `(tactic| infer_instance) => `(tactic| first
  | with_reducible first
    | refine k_asg ?_ | refine k_exp ?_ | refine k_ret ?_ | refine k_pop ?_ | refine k_retN ?_ | refine k_ixSet ?_ | refine k_fldSet ?_ | refine k_aug ?_ | refine k_par ?_ | refine k_unp ?_ | refine k_pass ?_ | refine k_cont ?_ | refine k_break ?_ | refine k_rai0 ?_ | refine k_whl ?_ | refine k_in ?_ | refine k_end ?_
    | refine w_call ?_ | refine w_cons ?_ | refine w_nil ?_ | refine w_e2 ?_ | refine w_e1 ?_ | refine w_cmp ?_ | refine w_tcmp ?_ | refine w_ttru ?_ | refine w_sl ?_ | refine w_meth ?_ | refine w_dct ?_ | refine w_lc ?_ | refine w_unlT ?_ | refine w_dct0 ?_ | refine w_bare ?_ | refine w_and ?_ | refine w_or ?_ | refine w_part ?_ | refine w_walk ?_ | refine w_of ?_
    | refine lp_n ?_ | refine lp_c ?_ | refine lp_b ?_ | refine lp_r ?_ | refine sq_n ?_ | refine sq_r ?_ | refine fnR_n ?_ | refine fnR_r ?_ | refine if_ff ?_ | refine if_tt ?_
  | ((with_reducible apply k_if0); (case e => exact rfl))
  | ((with_reducible apply k_if1); (case e => exact rfl))
  | with_reducible refine k_if ?_
  | ((with_reducible apply w_if0); (case e => exact rfl))
  | ((with_reducible apply w_if1); (case e => exact rfl))
  | with_reducible first | refine w_if ?_ | refine w_tand ?_ | refine w_tor ?_ | refine w_tnot ?_ | refine k_for ?_
  | ((with_reducible apply w_tup); (case hl => exact Nat.le_of_ble_eq_true rfl))
  | ((with_reducible apply w_lst); (case hl => exact Nat.le_of_ble_eq_true rfl))
  | ((with_reducible apply k_rai); (case h1 => exact rfl); (case h2 => exact Nat.le_of_ble_eq_true rfl))
  | ((with_reducible apply if_r0); (case h => exact rfl))
  | ((with_reducible apply if_r1); (case h => exact rfl))
  | ((with_reducible apply W_ok); (case h => exact rfl)))
/-- programs that can be told as data -/
def Dm : Tm → Prop
  | .var x => PyData.strOk x = true
  | .lam x a b => PyData.strOk x = true ∧ a.dep ≤ DB ∧ Dm b
  | .app f a => Dm f ∧ Dm a
  | .ite c a b => Dm c ∧ Dm a ∧ Dm b
  | .op _ a b => Dm a ∧ Dm b
  | .lt x e b => PyData.strOk x = true ∧ Dm e ∧ Dm b
  | .as e t => Dm e ∧ t.dep ≤ DB
  | .cast e a b _ => Dm e ∧ a.dep ≤ DB ∧ b.dep ≤ DB
  | _ => True
def nl : Tm → Nat
  | .lam _ _ b => nl b
  | .app f a => nl f + nl a + 1
  | .ite c a b => nl c + nl a + nl b + 3
  | .op _ a b => nl a + nl b + 2
  | .lt _ e b => nl e + nl b
  | .as e _ => nl e + 1
  | .cast e _ _ _ => nl e + 1
  | _ => 0
def cap : Nat → Nat
  | 0 => 0
  | h + 1 => 3 * cap h + 3
theorem cap_mono : ∀ {a b : Nat}, a ≤ b → cap a ≤ cap b
  | 0, _, _ => Nat.zero_le _
  | a + 1, 0, h => absurd h (by omega)
  | a + 1, b + 1, h => by
    have := cap_mono (a := a) (b := b) (by omega)
    simp only [cap]
    omega
theorem nl_cap : ∀ t : Tm, nl t ≤ cap (ht t)
  | .int _ => Nat.zero_le _
  | .bool _ => Nat.zero_le _
  | .var _ => Nat.zero_le _
  | .lam _ _ b => by
    have := nl_cap b
    simp only [nl, ht, cap]
    omega
  | .as b _ => by
    have := nl_cap b
    simp only [nl, ht, cap]
    omega
  | .cast b _ _ _ => by
    have := nl_cap b
    simp only [nl, ht, cap]
    omega
  | .app f a => by
    have := nl_cap f
    have := nl_cap a
    have := cap_mono (Nat.le_max_left (ht f) (ht a))
    have := cap_mono (Nat.le_max_right (ht f) (ht a))
    simp only [nl, ht, cap]
    omega
  | .op _ f a => by
    have := nl_cap f
    have := nl_cap a
    have := cap_mono (Nat.le_max_left (ht f) (ht a))
    have := cap_mono (Nat.le_max_right (ht f) (ht a))
    simp only [nl, ht, cap]
    omega
  | .lt _ f a => by
    have := nl_cap f
    have := nl_cap a
    have := cap_mono (Nat.le_max_left (ht f) (ht a))
    have := cap_mono (Nat.le_max_right (ht f) (ht a))
    simp only [nl, ht, cap]
    omega
  | .ite c a b => by
    have := nl_cap c
    have := nl_cap a
    have := nl_cap b
    have := cap_mono (Nat.le_max_left (ht c) (max (ht a) (ht b)))
    have := cap_mono (show ht a ≤ max (ht c) (max (ht a) (ht b)) by omega)
    have := cap_mono (show ht b ≤ max (ht c) (max (ht a) (ht b)) by omega)
    simp only [nl, ht, cap]
    omega
theorem castP_dm {e e' : Tm} {a b : Ty} {l : List Int} (h : castP e a b l = some e') (he : Dm e) (ha : a.dep ≤ DB) (hb : b.dep ≤ DB) : Dm e' ∧ ht e' ≤ ht e + 1 ∧ (labs e').length ≤ (labs e).length + 1 := by
  unfold castP at h
  by_cases hf : fits a b = true
  · rw [if_pos hf] at h
    by_cases e1 : a = b
    · rw [if_pos e1] at h
      cases h
      exact ⟨he, by omega, by omega⟩
    · rw [if_neg e1] at h
      cases h
      exact ⟨⟨he, ha, hb⟩, by simp only [ht]; omega, by simp only [labs, List.length_cons]; omega⟩
  · rw [if_neg hf] at h
    cases h
abbrev DQ (t t' : Tm) : Prop := Dm t' ∧ ht t' ≤ 2 * ht t + 1 ∧ (labs t').length ≤ nl t
theorem find_dm {B0 : Nat} : ∀ (t : Tm) (Γ : Zk44.Cx) (p : List Int) (k : Ty) (t' : Tm) (B : Nat), find t Γ p = some (k, t') → Src B0 t → Nmk t → (∀ x u, Γ x = some u → u.dep ≤ B) → B0 ≤ B → B + msr t + 1 ≤ DB → DQ t t'
  | .int i, Γ, p, k, t', B, h, hs, hn, hg, hb, hm => by
    cases h
    exact ⟨trivial, Nat.zero_le _, Nat.zero_le _⟩
  | .bool b, Γ, p, k, t', B, h, hs, hn, hg, hb, hm => by
    cases h
    exact ⟨trivial, Nat.zero_le _, Nat.zero_le _⟩
  | .var x, Γ, p, k, t', B, h, hs, hn, hg, hb, hm => by
    unfold find at h
    cases hx : Γ x with
    | none => rw [hx] at h; cases h
    | some u =>
      rw [hx] at h
      cases h
      exact ⟨hn, Nat.zero_le _, Nat.zero_le _⟩
  | .lam x a b, Γ, p, k, t', B, h, hs, hn, hg, hb, hm => by
    unfold find at h
    simp only [msr] at hm ⊢
    split at h
    · rename_i k1 b1 e1
      cases h
      obtain ⟨q1, q2, q3⟩ := find_dm b _ _ _ _ B e1 hs.2 hn.2 (put_dep hg (Nat.le_refl _) (Nat.le_trans hs.1 hb)) hb (by omega)
      have := hs.1
      exact ⟨⟨hn.1, by omega, q1⟩, by simp only [ht]; omega, q3⟩
    · cases h
  | .lt x e b, Γ, p, k, t', B, h, hs, hn, hg, hb, hm => by
    unfold find at h
    simp only [msr] at hm ⊢
    split at h
    · rename_i k1 e1 h1
      split at h
      · rename_i r b1 h2
        cases h
        obtain ⟨d1, w1⟩ := find_wt (S := fun _ => True) e _ _ _ _ B h1 hs.1 hg hb (by omega)
        obtain ⟨q1, q2, q3⟩ := find_dm e _ _ _ _ B h1 hs.1 hn.2.1 hg hb (by omega)
        obtain ⟨r1, r2, r3⟩ := find_dm b _ _ _ _ (B + msr e) h2 hs.2 hn.2.2 (put_dep hg (by omega) d1) (by omega) (by omega)
        exact ⟨⟨hn.1, q1, r1⟩, by simp only [ht]; omega, by simp only [labs, nl, List.length_append]; omega⟩
      · cases h
    · cases h
  | .as e t, Γ, p, k, t', B, h, hs, hn, hg, hb, hm => by
    unfold find at h
    simp only [msr] at hm ⊢
    split at h
    · rename_i k1 e1 h1
      split at h
      · rename_i e2 h2
        cases h
        obtain ⟨d1, w1⟩ := find_wt (S := fun _ => True) e _ _ _ _ B h1 hs.1 hg hb (by omega)
        obtain ⟨q1, q2, q3⟩ := find_dm e _ _ _ _ B h1 hs.1 hn hg hb (by omega)
        have := hs.2
        obtain ⟨r1, r2, r3⟩ := castP_dm h2 q1 (by omega) (by omega)
        exact ⟨r1, by simp only [ht]; omega, by simp only [nl]; omega⟩
      · cases h
    · cases h
  | .app f a, Γ, p, k, t', B, h, hs, hn, hg, hb, hm => by
    unfold find at h
    simp only [msr] at hm ⊢
    split at h
    · rename_i k1 f1 h1
      split at h
      · rename_i own a1 h2
        obtain ⟨d1, w1⟩ := find_wt (S := fun _ => True) f _ _ _ _ B h1 hs.1 hg hb (by omega)
        obtain ⟨d2, w2⟩ := find_wt (S := fun _ => True) a _ _ _ _ B h2 hs.2 hg hb (by omega)
        obtain ⟨q1, q2, q3⟩ := find_dm f _ _ _ _ B h1 hs.1 hn.1 hg hb (by omega)
        obtain ⟨r1, r2, r3⟩ := find_dm a _ _ _ _ B h2 hs.2 hn.2 hg hb (by omega)
        split at h
        · split at h
          · rename_i f2 h3
            cases h
            have hd : (Ty.arr own .any).dep ≤ DB := by simp only [Ty.dep]; omega
            obtain ⟨z1, z2, z3⟩ := castP_dm h3 q1 (Nat.zero_le _) hd
            exact ⟨⟨z1, r1⟩, by simp only [ht]; omega, by simp only [labs, nl, List.length_append]; omega⟩
          · cases h
        · rename_i x y
          split at h
          · rename_i a2 h3
            cases h
            simp only [Ty.dep] at d1
            obtain ⟨z1, z2, z3⟩ := castP_dm h3 r1 (by omega) (by omega)
            exact ⟨⟨q1, z1⟩, by simp only [ht]; omega, by simp only [labs, nl, List.length_append]; omega⟩
          · cases h
        · cases h
      · cases h
    · cases h
  | .op g a b, Γ, p, k, t', B, h, hs, hn, hg, hb, hm => by
    unfold find at h
    simp only [msr] at hm ⊢
    split at h
    · rename_i k1 a1 h1
      split at h
      · rename_i k2 b1 h2
        split at h
        · rename_i a2 h3
          split at h
          · rename_i b2 h4
            cases h
            obtain ⟨d1, w1⟩ := find_wt (S := fun _ => True) a _ _ _ _ B h1 hs.1 hg hb (by omega)
            obtain ⟨d2, w2⟩ := find_wt (S := fun _ => True) b _ _ _ _ B h2 hs.2 hg hb (by omega)
            obtain ⟨q1, q2, q3⟩ := find_dm a _ _ _ _ B h1 hs.1 hn.1 hg hb (by omega)
            obtain ⟨r1, r2, r3⟩ := find_dm b _ _ _ _ B h2 hs.2 hn.2 hg hb (by omega)
            obtain ⟨z1, z2, z3⟩ := castP_dm h3 q1 (by omega) (Nat.zero_le _)
            obtain ⟨y1, y2, y3⟩ := castP_dm h4 r1 (by omega) (Nat.zero_le _)
            exact ⟨⟨z1, y1⟩, by simp only [ht]; omega, by simp only [labs, nl, List.length_append]; omega⟩
          · cases h
        · cases h
      · cases h
    · cases h
  | .ite c a b, Γ, p, k, t', B, h, hs, hn, hg, hb, hm => by
    unfold find at h
    simp only [msr] at hm ⊢
    split at h
    · rename_i kc c1 h1
      split at h
      · rename_i ka a1 h2
        split at h
        · rename_i kb b1 h3
          split at h
          · rename_i c2 h4
            split at h
            · rename_i u h5
              split at h
              · rename_i a2 h6
                split at h
                · rename_i b2 h7
                  cases h
                  obtain ⟨d1, w1⟩ := find_wt (S := fun _ => True) c _ _ _ _ B h1 hs.1 hg hb (by omega)
                  obtain ⟨d2, w2⟩ := find_wt (S := fun _ => True) a _ _ _ _ B h2 hs.2.1 hg hb (by omega)
                  obtain ⟨d3, w3⟩ := find_wt (S := fun _ => True) b _ _ _ _ B h3 hs.2.2 hg hb (by omega)
                  have dk := common_dep h5
                  obtain ⟨q1, q2, q3⟩ := find_dm c _ _ _ _ B h1 hs.1 hn.1 hg hb (by omega)
                  obtain ⟨r1, r2, r3⟩ := find_dm a _ _ _ _ B h2 hs.2.1 hn.2.1 hg hb (by omega)
                  obtain ⟨s1, s2, s3⟩ := find_dm b _ _ _ _ B h3 hs.2.2 hn.2.2 hg hb (by omega)
                  obtain ⟨z1, z2, z3⟩ := castP_dm h4 q1 (by omega) (Nat.zero_le _)
                  obtain ⟨y1, y2, y3⟩ := castP_dm h6 r1 (by omega) (by omega)
                  obtain ⟨x1, x2, x3⟩ := castP_dm h7 s1 (by omega) (by omega)
                  exact ⟨⟨z1, y1, x1⟩, by simp only [ht]; omega, by simp only [labs, nl, List.length_append]; omega⟩
                · cases h
              · cases h
            · cases h
          · cases h
        · cases h
      · cases h
    · cases h
  | .cast _ _ _ _, Γ, p, k, t', B, h, hs, hn, hg, hb, hm => by cases h

def dP (l : List Int) : PyData := .tuple (l.map .int)
def dM : Tm → PyData
  | .int n => .tuple [.str "int", .int n]
  | .bool b => .tuple [.str "bool", .bool b]
  | .var x => .tuple [.str "var", .str x]
  | .lam x t b => .tuple [.str "lam", .str x, dT t, dM b]
  | .app f a => .tuple [.str "app", dM f, dM a]
  | .ite c a b => .tuple [.str "if", dM c, dM a, dM b]
  | .op g a b => .tuple [.str "op", .str g.str, dM a, dM b]
  | .lt x e b => .tuple [.str "let", .str x, dM e, dM b]
  | .as e t => .tuple [.str "as", dM e, dT t]
  | .cast e a b l => .tuple [.str "cast", dM e, dT a, dT b, dP l]
theorem dat_P (l : List Int) : dat (encP l) = some (dP l) := by
  show (datL (l.map PV.int)).map PyData.tuple = _
  rw [dat_ints]
  rfl
theorem dat_M : ∀ t : Tm, dat (encM t) = some (dM t)
  | .int n => by simp only [encM, dM, dat, datL, Option.map_some]
  | .bool b => by simp only [encM, dM, dat, datL, Option.map_some]
  | .var x => by simp only [encM, dM, dat, datL, Option.map_some]
  | .lam x t b => by simp only [encM, dM, dat, datL, dat_T, dat_M b, Option.map_some]
  | .app f a => by simp only [encM, dM, dat, datL, dat_M f, dat_M a, Option.map_some]
  | .ite c a b => by simp only [encM, dM, dat, datL, dat_M c, dat_M a, dat_M b, Option.map_some]
  | .op g a b => by simp only [encM, dM, dat, datL, dat_M a, dat_M b, Option.map_some]
  | .lt x e b => by simp only [encM, dM, dat, datL, dat_M e, dat_M b, Option.map_some]
  | .as e t => by simp only [encM, dM, dat, datL, dat_T, dat_M e, Option.map_some]
  | .cast e a b l => by simp only [encM, dM, dat, datL, dat_T, dat_ints, dP, dat_M e, Option.map_some]
theorem lay_P (l : List Int) : (dP l).canLay0 = true := by
  simp only [dP, PyData.canLay0]
  exact lay_ints l
theorem gOk (g : Sg) : PyData.strOk g.str = true := by cases g <;> decide +kernel
theorem wOk : PyData.strOk (Str.ofString "int") = true ∧ PyData.strOk (Str.ofString "bool") = true ∧ PyData.strOk (Str.ofString "var") = true ∧ PyData.strOk (Str.ofString "lam") = true ∧ PyData.strOk (Str.ofString "app") = true ∧ PyData.strOk (Str.ofString "if") = true ∧ PyData.strOk (Str.ofString "op") = true ∧ PyData.strOk (Str.ofString "let") = true ∧ PyData.strOk (Str.ofString "as") = true ∧ PyData.strOk (Str.ofString "cast") = true := by decide +kernel
theorem lay_M : ∀ t : Tm, Dm t → (dM t).canLay0 = true
  | .int n, h => by simp [dM, PyData.canLay0, PyData.canLayAll0, wOk]
  | .bool b, h => by simp [dM, PyData.canLay0, PyData.canLayAll0, wOk]
  | .var x, h => by simp [dM, PyData.canLay0, PyData.canLayAll0, wOk, show PyData.strOk x = true from h]
  | .lam x t b, h => by simp [dM, PyData.canLay0, PyData.canLayAll0, wOk, h.1, lay_T, lay_M b h.2.2]
  | .app f a, h => by simp [dM, PyData.canLay0, PyData.canLayAll0, wOk, lay_M f h.1, lay_M a h.2]
  | .ite c a b, h => by simp [dM, PyData.canLay0, PyData.canLayAll0, wOk, lay_M c h.1, lay_M a h.2.1, lay_M b h.2.2]
  | .op g a b, h => by simp [dM, PyData.canLay0, PyData.canLayAll0, wOk, gOk, lay_M a h.1, lay_M b h.2]
  | .lt x e b, h => by simp [dM, PyData.canLay0, PyData.canLayAll0, wOk, h.1, lay_M e h.2.1, lay_M b h.2.2]
  | .as e t, h => by simp [dM, PyData.canLay0, PyData.canLayAll0, wOk, lay_T, lay_M e h.1]
  | .cast e a b l, h => by simp [dM, PyData.canLay0, PyData.canLayAll0, wOk, lay_T, lay_P, lay_M e h.1]
theorem dep_P (l : List Int) : (dP l).depth = 1 := by
  simp only [dP, PyData.depth, dep_ints]
theorem dep_M : ∀ t : Tm, Dm t → (dM t).depth ≤ ht t + 40
  | .int n, h => by simp only [dM, PyData.depth, PyData.depthAll, ht]; omega
  | .bool b, h => by simp only [dM, PyData.depth, PyData.depthAll, ht]; omega
  | .var x, h => by simp only [dM, PyData.depth, PyData.depthAll, ht]; omega
  | .lam x t b, h => by
    have := dep_M b h.2.2
    have := dep_T t
    have : t.dep ≤ 38 := h.2.1
    simp only [dM, PyData.depth, PyData.depthAll, ht]
    omega
  | .app f a, h => by
    have := dep_M f h.1
    have := dep_M a h.2
    simp only [dM, PyData.depth, PyData.depthAll, ht]
    omega
  | .ite c a b, h => by
    have := dep_M c h.1
    have := dep_M a h.2.1
    have := dep_M b h.2.2
    simp only [dM, PyData.depth, PyData.depthAll, ht]
    omega
  | .op g a b, h => by
    have := dep_M a h.1
    have := dep_M b h.2
    simp only [dM, PyData.depth, PyData.depthAll, ht]
    omega
  | .lt x e b, h => by
    have := dep_M e h.2.1
    have := dep_M b h.2.2
    simp only [dM, PyData.depth, PyData.depthAll, ht]
    omega
  | .as e t, h => by
    have := dep_M e h.1
    have := dep_T t
    have : t.dep ≤ 38 := h.2
    simp only [dM, PyData.depth, PyData.depthAll, ht]
    omega
  | .cast e a b l, h => by
    have := dep_M e h.1
    have := dep_T a
    have := dep_T b
    have : a.dep ≤ 38 := h.2.1
    have : b.dep ≤ 38 := h.2.2
    simp only [dM, PyData.depth, PyData.depthAll, ht, dep_P]
    omega
theorem shaped_M {t : Tm} (h : Dm t) (h2 : ht t ≤ 24) : SeqAt.shaped (dM t) = true := by
  unfold SeqAt.shaped
  rw [lay_M t h]
  have := dep_M t h
  simp only [Bool.true_and, decide_eq_true_eq]
  omega
theorem shaped_P (l : List Int) : SeqAt.shaped (dP l) = true := shaped_ints l
end Zk44

end
section
set_option maxHeartbeats 4000000
namespace Zk44
open PySem L2 Z
local macro_rules | `(tactic| infer_instance) => `(tactic| first
  | with_reducible first
    | refine k_asg ?_ | refine k_exp ?_ | refine k_ret ?_ | refine k_pop ?_ | refine k_retN ?_ | refine k_ixSet ?_ | refine k_fldSet ?_ | refine k_aug ?_ | refine k_par ?_ | refine k_unp ?_ | refine k_pass ?_ | refine k_cont ?_ | refine k_break ?_ | refine k_rai0 ?_ | refine k_whl ?_ | refine k_in ?_ | refine k_end ?_
    | refine w_call ?_ | refine w_cons ?_ | refine w_nil ?_ | refine w_e2 ?_ | refine w_e1 ?_ | refine w_cmp ?_ | refine w_tcmp ?_ | refine w_ttru ?_ | refine w_sl ?_ | refine w_meth ?_ | refine w_dct ?_ | refine w_lc ?_ | refine w_unlT ?_ | refine w_dct0 ?_ | refine w_bare ?_ | refine w_and ?_ | refine w_or ?_ | refine w_part ?_ | refine w_walk ?_ | refine w_of ?_
    | refine lp_n ?_ | refine lp_c ?_ | refine lp_b ?_ | refine lp_r ?_ | refine sq_n ?_ | refine sq_r ?_ | refine fnR_n ?_ | refine fnR_r ?_ | refine if_ff ?_ | refine if_tt ?_
  | ((with_reducible apply k_if0); (case e => exact rfl))
  | ((with_reducible apply k_if1); (case e => exact rfl))
  | with_reducible refine k_if ?_
  | ((with_reducible apply w_if0); (case e => exact rfl))
  | ((with_reducible apply w_if1); (case e => exact rfl))
  | with_reducible first | refine w_if ?_ | refine w_tand ?_ | refine w_tor ?_ | refine w_tnot ?_ | refine k_for ?_
  | ((with_reducible apply w_tup); (case hl => exact Nat.le_of_ble_eq_true rfl))
  | ((with_reducible apply w_lst); (case hl => exact Nat.le_of_ble_eq_true rfl))
  | ((with_reducible apply k_rai); (case h1 => exact rfl); (case h2 => exact Nat.le_of_ble_eq_true rfl))
  | ((with_reducible apply if_r0); (case h => exact rfl))
  | ((with_reducible apply if_r1); (case h => exact rfl))
  | ((with_reducible apply W_ok); (case h => exact rfl)))
section
variable {E : XP}
def LabOk (d : Nat) (E : XP) (v : PV) (ls : List (List Int)) : Prop := ∀ (s : Store) (Q : PV → Store → Prop), (∀ n s', s'[n]? = some (.lst (ls.map encP)) → Gr s s' → Q (.ref n) s') → W (callN tab d 21 [v]) s Q E
theorem _root_.Z.F2.at {α β : Type} {Y : α → β → Prop} {l : List α} {r : List β} (h : F2 Y l r) : ∀ {i : Nat} {v : α}, l[i]? = some v → ∃ w, r[i]? = some w ∧ Y v w := by
  induction h with
  | nil => intro i v hv; simp at hv
  | cons a _ ih =>
    intro i v hv
    cases i with
    | zero => simp at hv; subst hv; exact ⟨_, rfl, a⟩
    | succ i => simp at hv; obtain ⟨w, a, b⟩ := ih hv; exact ⟨w, by simpa using a, b⟩
theorem lab_str {d : Nat} {x : Str} (hd : 1 ≤ d) : LabOk d E (.str x) [] := fun s Q q => by
  obtain ⟨d, rfl⟩ : ∃ d', d = d' + 1 := ⟨d - 1, by omega⟩
  rw [w__law_labels d rfl]
  refine W_cFn ?_
  unfold b__law_labels
  repeat infer_instance
  exact q _ _ push_get Gr.push
theorem lab_int {d : Nat} {x : Int} (hd : 1 ≤ d) : LabOk d E (.int x) [] := fun s Q q => by
  obtain ⟨d, rfl⟩ : ∃ d', d = d' + 1 := ⟨d - 1, by omega⟩
  rw [w__law_labels d rfl]
  refine W_cFn ?_
  unfold b__law_labels
  repeat infer_instance
  exact q _ _ push_get Gr.push
theorem lab_bl {d : Nat} {x : Bool} (hd : 1 ≤ d) : LabOk d E (.bl x) [] := fun s Q q => by
  obtain ⟨d, rfl⟩ : ∃ d', d = d' + 1 := ⟨d - 1, by omega⟩
  rw [w__law_labels d rfl]
  refine W_cFn ?_
  unfold b__law_labels
  repeat infer_instance
  exact q _ _ push_get Gr.push
theorem _root_.Z.F2.len {α β : Type} {Y : α → β → Prop} {l : List α} {r : List β} (h : F2 Y l r) : l.length = r.length := by
  induction h with
  | nil => rfl
  | cons _ _ ih => simpa using ih
theorem flat_take {α : Type} {l : List (List α)} {i : Nat} {x : List α} (h : l[i]? = some x) : (l.take (i + 1)).flatten = (l.take i).flatten ++ x ∧ (l.take i).flatten.length + x.length ≤ l.flatten.length := by
  constructor
  · rw [List.take_add_one, h]
    simp
  · have e : l.flatten = (l.take (i + 1)).flatten ++ (l.drop (i + 1)).flatten := by rw [← List.flatten_append, List.take_append_drop]
    rw [e, List.take_add_one, h]
    simp
theorem lab_loop {d n : Nat} {l : List PV} {f0 : List (List Int)} {lss : List (List (List Int))} {s : Store} {Q : PV → Store → Prop} {x : Option PV} (h : F2 (LabOk d E) l lss) (hs : s[n]? = some (.lst (f0.map encP))) (hl : f0.length + lss.flatten.length ≤ 100000)
    (q : ∀ n s', s'[n]? = some (.lst ((f0 ++ lss.flatten).map encP)) → Gr s s' → Q (.ref n) s') :
    SW (forX (b__law_labels_1 (callN tab d) (iniN tab d)) (Tgt.nm 2).run (Sc.items l) (l.length + 1) 0) [some (.tup l), some (.ref n), x] s (sq [[cRet (sl 1)]] (fnR Q) E) E := by
  have len := h.len
  refine SW_forP (fun i ρ s' => ∃ n x, ρ = [some (.tup l), some (.ref n), x] ∧ s'[n]? = some (.lst ((f0 ++ (lss.take i).flatten).map encP)) ∧ Gr s s') l (fun i ρ s' _ => rfl) (fun i v ρ s' hv hI => ?_) (fun ρ s' hI => ?_) _ 0 _ s ⟨n, x, rfl, by simpa using hs, Gr.refl⟩ (Nat.zero_le _) (by show l.length < l.length + 1 + 0; omega)
  · obtain ⟨n1, x1, rfl, h1, g1⟩ := hI
    obtain ⟨ls, e1, hls⟩ := h.at hv
    obtain ⟨f1, f2⟩ := flat_take e1
    refine ⟨_, rfl, ?_⟩
    unfold b__law_labels_1
    repeat infer_instance
    refine hls _ _ fun n2 s2 h2 g2 => ?_
    refine w_addL (g2 _ _ h1) h2 (by simp only [List.length_map, List.length_append]; omega) ?_
    repeat infer_instance
    refine ⟨_, _, rfl, ?_, (g1.trans g2).app⟩
    rw [push_get, f1]
    simp
  · obtain ⟨n1, x1, rfl, h1, g1⟩ := hI
    rw [len, List.take_length] at h1
    repeat infer_instance
    exact q n1 s' h1 g1
theorem ne_emp {l : List PV} {ds : List PyData} {s : Store} {P : Bool → Store → Prop} (h : dat (.tup l) = some (.tuple ds)) (hs : SeqAt.shaped (.tuple ds) = true) (hne : ds ≠ []) (q : P false s) : W (cmpP .Eq (.tup l) (.tup [])) s P E := by
  refine W_ok (a := false) (s' := s) ?_ q
  show eqP (.tup l) (.tup []) s = _
  rw [dat_eq (e := .tuple []) h (by rfl) hs (by decide) (by intro a h; cases h) (by intro a h; cases h) (by intro a h; cases h)]
  cases ds with
  | nil => exact absurd rfl hne
  | cons a r => simp [PyData.eqv, PyData.eqvAll]
theorem w_ix0 {v : PV} {r : List PV} {s : Store} {Q : PV → Store → Prop} (q : Q v s) : W (ixP (.tup (v :: r)) (.int 0)) s Q E := by
  refine W_ok (a := v) (s' := s) ?_ q
  show atP (v :: r) ((0 : Nat) : Int) s = _
  unfold atP
  rw [atI_nat (j := 0) (by rfl)]
  rfl
theorem c_intS {i : Int} {s : Store} {P : Bool → Store → Prop} (q : P false s) : W (cmpP .Eq (.int i) (.str "cast")) s P E := by
  refine W_ok (a := false) (s' := s) ?_ q
  show (if SeqAt.shaped (.int i) && SeqAt.shaped (.str "cast") then RE.ok (PyData.eqv (.int i) (.str "cast")) s else .bad) = _
  have h1 : SeqAt.shaped (.int i) = true := rfl
  have h2 : SeqAt.shaped (.str "cast") = true := by decide +kernel
  rw [h1, h2]
  rfl
theorem lab_no {d : Nat} {w : Str} {r : List PV} {ds : List PyData} {ls : List (List Int)} (lss : List (List (List Int))) (hw : decide (w = "cast") = false) (h : dat (.tup (.str w :: r)) = some (.tuple ds)) (hs : SeqAt.shaped (.tuple ds) = true) (hne : ds ≠ []) (hf : F2 (LabOk d E) (.str w :: r) lss) (e : ls = lss.flatten) (hl : ls.length ≤ 100000) : LabOk (d + 1) E (.tup (.str w :: r)) ls := fun s Q q => by
  rw [w__law_labels d rfl]
  refine W_cFn ?_
  unfold b__law_labels
  repeat infer_instance
  refine ne_emp h hs hne ?_
  refine iff_ (by decide) ?_
  repeat infer_instance
  refine w_ix0 ?_
  repeat infer_instance
  refine iff_ (by rw [hw]; decide) ?_
  repeat infer_instance
  refine lab_loop (f0 := []) hf push_get (by rw [← e]; simpa using hl) fun n s' a g => q n s' (by rw [a, e]; rfl) (Gr.push.trans g)
theorem lab_noI {d : Nat} {i : Int} {r : List PV} {ds : List PyData} (lss : List (List (List Int))) (h : dat (.tup (.int i :: r)) = some (.tuple ds)) (hs : SeqAt.shaped (.tuple ds) = true) (hne : ds ≠ []) (hf : F2 (LabOk d E) (.int i :: r) lss) (e : lss.flatten = []) : LabOk (d + 1) E (.tup (.int i :: r)) [] := fun s Q q => by
  rw [w__law_labels d rfl]
  refine W_cFn ?_
  unfold b__law_labels
  repeat infer_instance
  refine ne_emp h hs hne ?_
  refine iff_ (by decide) ?_
  repeat infer_instance
  refine w_ix0 ?_
  repeat infer_instance
  refine c_intS ?_
  refine iff_ (by decide) ?_
  repeat infer_instance
  refine lab_loop (f0 := []) hf push_get (by rw [e]; exact Nat.zero_le _) fun n s' a g => q n s' (by rw [a, e]; rfl) (Gr.push.trans g)
theorem lab_T : ∀ (a : Ty) (d : Nat), a.dep + 2 ≤ d → a.dep ≤ DB → LabOk d E (encT a) []
  | a, 0, hd, _ => absurd hd (by omega)
  | .int, d + 1, hd, ha => lab_no [[]] (by decide) (dat_T .int) (shaped_T ha) (by intro h; cases h) (.cons (lab_str (by omega)) .nil) rfl (Nat.zero_le _)
  | .bool, d + 1, hd, ha => lab_no [[]] (by decide) (dat_T .bool) (shaped_T ha) (by intro h; cases h) (.cons (lab_str (by omega)) .nil) rfl (Nat.zero_le _)
  | .any, d + 1, hd, ha => lab_no [[]] (by decide) (dat_T .any) (shaped_T ha) (by intro h; cases h) (.cons (lab_str (by omega)) .nil) rfl (Nat.zero_le _)
  | .arr a b, d + 1, hd, ha => by
    obtain ⟨h1, h2⟩ := dep_arr ha
    simp only [Ty.dep] at hd
    exact lab_no [[], [], []] (by decide) (dat_T (.arr a b)) (shaped_T ha) (by intro h; cases h) (.cons (lab_str (by omega)) (.cons (lab_T a d (by omega) h1) (.cons (lab_T b d (by omega) h2) .nil))) rfl (Nat.zero_le _)
theorem lab_ints {d : Nat} (hd : 1 ≤ d) : ∀ l : List Int, F2 (LabOk d E) (l.map .int) (l.map fun _ => [])
  | [] => .nil
  | _ :: r => .cons (lab_int hd) (lab_ints hd r)
theorem flat_nils : ∀ l : List Int, (l.map fun _ => ([] : List (List Int))).flatten = []
  | [] => rfl
  | _ :: r => by simpa using flat_nils r
theorem lab_P (l : List Int) {d : Nat} (hd : 2 ≤ d) : LabOk d E (encP l) [] := by
  obtain ⟨d, rfl⟩ : ∃ d', d = d' + 1 := ⟨d - 1, by omega⟩
  cases l with
  | nil =>
    intro s Q q
    show W (callN tab (d + 1) 21 [.tup []]) s Q E
    rw [w__law_labels d rfl]
    refine W_cFn ?_
    unfold b__law_labels
    repeat infer_instance
    exact q _ _ push_get Gr.push
  | cons i r => exact lab_noI (([] : List (List Int)) :: r.map fun _ => []) (dat_P (i :: r)) (shaped_P (i :: r)) (by simp) (lab_ints (by omega) (i :: r)) (flat_nils (i :: r))
theorem lab_M : ∀ (t : Tm) (d : Nat), ht t + DB + 4 ≤ d → Dm t → ht t ≤ 24 → (labs t).length ≤ 100000 → LabOk d E (encM t) (labs t)
  | t, 0, hd, _, _, _ => absurd hd (by omega)
  | .int n, d + 1, hd, hm, hh, hl => lab_no [[], []] (by decide) (dat_M (.int n)) (shaped_M hm hh) (by intro h; cases h) (.cons (lab_str (by omega)) (.cons (lab_int (by omega)) .nil)) rfl hl
  | .bool n, d + 1, hd, hm, hh, hl => lab_no [[], []] (by decide) (dat_M (.bool n)) (shaped_M hm hh) (by intro h; cases h) (.cons (lab_str (by omega)) (.cons (lab_bl (by omega)) .nil)) rfl hl
  | .var x, d + 1, hd, hm, hh, hl => lab_no [[], []] (by decide) (dat_M (.var x)) (shaped_M hm hh) (by intro h; cases h) (.cons (lab_str (by omega)) (.cons (lab_str (by omega)) .nil)) rfl hl
  | .lam x a b, d + 1, hd, hm, hh, hl => by
    have h2 := hh
    simp only [ht] at hd h2
    have hDB : DB = 38 := rfl
    have := hm.2.1
    exact lab_no [[], [], [], labs b] (by decide) (dat_M (.lam x a b)) (shaped_M hm hh) (by intro h; cases h) (.cons (lab_str (by omega)) (.cons (lab_str (by omega)) (.cons (lab_T a d (by omega) hm.2.1) (.cons (lab_M b d (by omega) hm.2.2 (by omega) hl) .nil)))) (by simp [labs]) hl
  | .app f a, d + 1, hd, hm, hh, hl => by
    have h2 := hh
    have l2 := hl
    simp only [ht] at hd h2
    simp only [labs, List.length_append] at l2
    exact lab_no [[], labs f, labs a] (by decide) (dat_M (.app f a)) (shaped_M hm hh) (by intro h; cases h) (.cons (lab_str (by omega)) (.cons (lab_M f d (by omega) hm.1 (by omega) (by omega)) (.cons (lab_M a d (by omega) hm.2 (by omega) (by omega)) .nil))) (by simp [labs]) hl
  | .op g f a, d + 1, hd, hm, hh, hl => by
    have h2 := hh
    have l2 := hl
    simp only [ht] at hd h2
    simp only [labs, List.length_append] at l2
    exact lab_no [[], [], labs f, labs a] (by decide) (dat_M (.op g f a)) (shaped_M hm hh) (by intro h; cases h) (.cons (lab_str (by omega)) (.cons (lab_str (by omega)) (.cons (lab_M f d (by omega) hm.1 (by omega) (by omega)) (.cons (lab_M a d (by omega) hm.2 (by omega) (by omega)) .nil)))) (by simp [labs]) hl
  | .lt x f a, d + 1, hd, hm, hh, hl => by
    have h2 := hh
    have l2 := hl
    simp only [ht] at hd h2
    simp only [labs, List.length_append] at l2
    exact lab_no [[], [], labs f, labs a] (by decide) (dat_M (.lt x f a)) (shaped_M hm hh) (by intro h; cases h) (.cons (lab_str (by omega)) (.cons (lab_str (by omega)) (.cons (lab_M f d (by omega) hm.2.1 (by omega) (by omega)) (.cons (lab_M a d (by omega) hm.2.2 (by omega) (by omega)) .nil)))) (by simp [labs]) hl
  | .ite c f a, d + 1, hd, hm, hh, hl => by
    have h2 := hh
    have l2 := hl
    simp only [ht] at hd h2
    simp only [labs, List.length_append] at l2
    exact lab_no [[], labs c, labs f, labs a] (by decide) (dat_M (.ite c f a)) (shaped_M hm hh) (by intro h; cases h) (.cons (lab_str (by omega)) (.cons (lab_M c d (by omega) hm.1 (by omega) (by omega)) (.cons (lab_M f d (by omega) hm.2.1 (by omega) (by omega)) (.cons (lab_M a d (by omega) hm.2.2 (by omega) (by omega)) .nil)))) (by simp [labs]) hl
  | .as f a, d + 1, hd, hm, hh, hl => by
    have h2 := hh
    simp only [ht] at hd h2
    have hDB : DB = 38 := rfl
    have := hm.2
    exact lab_no [[], labs f, []] (by decide) (dat_M (.as f a)) (shaped_M hm hh) (by intro h; cases h) (.cons (lab_str (by omega)) (.cons (lab_M f d (by omega) hm.1 (by omega) hl) (.cons (lab_T a d (by omega) hm.2) .nil))) (by simp [labs]) hl
  | .cast e a b p, d + 1, hd, hm, hh, hl => fun s Q q => by
    have h2 := hh
    have l2 := hl
    simp only [ht] at hd h2
    simp only [labs, List.length_cons] at l2
    have hDB : DB = 38 := rfl
    obtain ⟨m1, m2, m3⟩ := hm
    have hf : F2 (LabOk d E) [.str "cast", encM e, encT a, encT b, encP p] [[], labs e, [], [], []] := .cons (lab_str (by omega)) (.cons (lab_M e d (by omega) m1 (by omega) (by omega)) (.cons (lab_T a d (by omega) m2) (.cons (lab_T b d (by omega) m3) (.cons (lab_P p (by omega)) .nil))))
    rw [w__law_labels d rfl]
    refine W_cFn ?_
    unfold b__law_labels
    have hd := dat_M (.cast e a b p)
    simp only [encM] at hd ⊢
    repeat infer_instance
    refine ne_emp hd (shaped_M (t := .cast e a b p) ⟨m1, m2, m3⟩ hh) (by intro h; cases h) ?_
    refine iff_ (by decide) ?_
    repeat infer_instance
    refine lab_loop (f0 := [p]) hf push_get (by simp; omega) fun n s' a g => q n s' (by rw [a]; simp [labs]) (Gr.push.trans g)
end
end Zk44

end
section
set_option maxHeartbeats 4000000
namespace Zk44
open PySem L2 Z
local macro_rules | `(tactic| infer_instance) => `(tactic| first
  | with_reducible first
    | refine k_asg ?_ | refine k_exp ?_ | refine k_ret ?_ | refine k_pop ?_ | refine k_retN ?_ | refine k_ixSet ?_ | refine k_fldSet ?_ | refine k_aug ?_ | refine k_par ?_ | refine k_unp ?_ | refine k_pass ?_ | refine k_cont ?_ | refine k_break ?_ | refine k_rai0 ?_ | refine k_whl ?_ | refine k_in ?_ | refine k_end ?_
    | refine w_call ?_ | refine w_cons ?_ | refine w_nil ?_ | refine w_e2 ?_ | refine w_e1 ?_ | refine w_cmp ?_ | refine w_tcmp ?_ | refine w_ttru ?_ | refine w_sl ?_ | refine w_meth ?_ | refine w_dct ?_ | refine w_lc ?_ | refine w_unlT ?_ | refine w_dct0 ?_ | refine w_bare ?_ | refine w_and ?_ | refine w_or ?_ | refine w_part ?_ | refine w_walk ?_ | refine w_of ?_
    | refine lp_n ?_ | refine lp_c ?_ | refine lp_b ?_ | refine lp_r ?_ | refine sq_n ?_ | refine sq_r ?_ | refine fnR_n ?_ | refine fnR_r ?_ | refine if_ff ?_ | refine if_tt ?_
  | ((with_reducible apply k_if0); (case e => exact rfl))
  | ((with_reducible apply k_if1); (case e => exact rfl))
  | with_reducible refine k_if ?_
  | ((with_reducible apply w_if0); (case e => exact rfl))
  | ((with_reducible apply w_if1); (case e => exact rfl))
  | with_reducible first | refine w_if ?_ | refine w_tand ?_ | refine w_tor ?_ | refine w_tnot ?_ | refine k_for ?_
  | ((with_reducible apply w_tup); (case hl => exact Nat.le_of_ble_eq_true rfl))
  | ((with_reducible apply w_lst); (case hl => exact Nat.le_of_ble_eq_true rfl))
  | ((with_reducible apply k_rai); (case h1 => exact rfl); (case h2 => exact Nat.le_of_ble_eq_true rfl))
  | ((with_reducible apply if_r0); (case h => exact rfl))
  | ((with_reducible apply if_r1); (case h => exact rfl))
  | ((with_reducible apply W_ok); (case h => exact rfl)))
def noE : Env := fun _ => none
def noC : Zk44.Cx := fun _ => none
def res : Ty → Ty
  | .arr _ b => res b
  | a => a
/-- one cast around t -/
def Cn (t : Tm) (k : Ty) (one : Tm) (u : Ty) : Prop := ∀ p : List Int, ∃ c, find one noC p = some (u, c) ∧ Rel k u noE noE t c
theorem Cn.base {t : Tm} {k : Ty} (h : ST noC t k) : Cn t k t k := fun p => ⟨t, find_st h p, fund h fun x u hx => by cases hx⟩
theorem Cn.as {t one : Tm} {k u w : Ty} (h : Cn t k one u) (h1 : lessK u k = true) (h2 : lessK w k = true) : Cn t k (.as one w) w := fun p => by
  obtain ⟨c, e, r⟩ := h (p ++ [0])
  unfold find
  rw [e]
  dsimp only
  unfold castP
  rw [if_pos (less_fits2 h1 h2)]
  by_cases q : u = w
  · subst q
    rw [if_pos rfl]
    exact ⟨c, rfl, r⟩
  · rw [if_neg q]
    exact ⟨_, rfl, r.cast h1 h2⟩
theorem Cn.app {t one x : Tm} {a b : Ty} (h : Cn t (.arr a b) one (.arr a b)) (hx : ST noC x a) : Cn (.app t x) b (.app one x) b := fun p => by
  obtain ⟨c, e, r⟩ := h (p ++ [0])
  rw [find_app e (find_st hx (p ++ [1]))]
  unfold appP
  dsimp only
  rw [castP_same]
  exact ⟨_, rfl, r.app (fund hx fun x u hx => by cases hx)⟩
theorem arg_st {a : Ty} (h : a = .int ∨ a = .arr .int .int) : ST noC (argT a) a := by
  rcases h with rfl | rfl
  · exact .int (by decide) (by decide)
  · exact .lam (.var rfl)
theorem Cn.used {t one : Tm} {k : Ty} (hk : Kd k) (h : Cn t k one k) : Cn (used t k) (res k) (used one k) (res k) := by
  rcases hk with rfl | rfl | rfl | rfl
  · exact h
  · exact h
  · exact h.app (arg_st (.inl rfl))
  · exact h.app (arg_st (.inr rfl))
theorem used_st {t : Tm} {k : Ty} (hk : Kd k) (h : ST noC t k) : ST noC (used t k) (res k) := by
  rcases hk with rfl | rfl | rfl | rfl
  · exact h
  · exact h
  · exact .app h (arg_st (.inl rfl))
  · exact .app h (arg_st (.inr rfl))
theorem used_bd {t : Tm} {k : Ty} (hk : Kd k) (h : Src 2 t) : Src 2 (used t k) ∧ ht (used t k) ≤ ht t + 2 ∧ msr (used t k) ≤ msr t + 2 := by
  rcases hk with rfl | rfl | rfl | rfl
  · exact ⟨h, by simp only [used]; omega, by simp only [used]; omega⟩
  · exact ⟨h, by simp only [used]; omega, by simp only [used]; omega⟩
  · exact ⟨⟨h, by decide, by decide⟩, by simp only [used, argT, ht]; omega, by simp only [used, argT, msr]; omega⟩
  · exact ⟨⟨h, by decide, trivial⟩, by simp only [used, argT, ht]; omega, by simp only [used, argT, msr]; omega⟩
theorem Kd.dep {k : Ty} (h : Kd k) : k.dep ≤ 2 := by rcases h with rfl | rfl | rfl | rfl <;> decide
theorem Kd.full {k : Ty} (h : Kd k) : k.full = true := by rcases h with rfl | rfl | rfl | rfl <;> rfl
theorem Kd.res {k : Ty} (h : Kd k) : res k = .int ∨ res k = .bool := by
  rcases h with rfl | rfl | rfl | rfl
  · exact .inl rfl
  · exact .inr rfl
  · exact .inr rfl
  · exact .inl rfl
theorem ST.wt {Γ : Zk44.Cx} {t : Tm} {k : Ty} (h : ST Γ t k) (S : List Int → Prop) : WT S Γ t k := by
  induction h with
  | int h1 h2 => exact .int h1 h2
  | bool => exact .bool
  | var h => exact .var h
  | lam _ ih => exact .lam ih
  | app _ _ h1 h2 => exact .app h1 h2
  | ite _ _ _ h1 h2 h3 => exact .ite h1 h2 h3
  | add _ _ h1 h2 => exact .op (g := .add) h1 h2
  | ltt _ _ h1 h2 => exact .op (g := .lt) h1 h2
/-- what a run ends with -/
def Fl0 : R → Prop
  | .stuck => False
  | _ => True
theorem LR.shown {a : Ty} {v v' : Vl} (ha : a = .int ∨ a = .bool) (h : LR a a v v') : shown v = shown v' ∧ ((∃ i, v = .int i) ∨ ∃ b, v = .bool b) := by
  rcases ha with rfl | rfl
  · obtain ⟨i, rfl, rfl⟩ := h.int
    exact ⟨rfl, .inl ⟨_, rfl⟩⟩
  · obtain ⟨i, rfl, rfl⟩ := h.bool
    exact ⟨rfl, .inr ⟨_, rfl⟩⟩
theorem due_ok {t : Tm} {k : Ty} (h : ST noC t k) {D n : Nat} (hd : n + 1 ≤ D) : (∃ v m, (ev D).run n t noE = .done v m) ∨ (ev D).run n t noE = .tired := by
  have := (sound (fun _ => False) D).1 n t noC noE k (h.wt _) (fun y u e => by cases e) hd
  cases e : (ev D).run n t noE with
  | done v m => exact .inl ⟨v, m, rfl⟩
  | tired => exact .inr rfl
  | blame l p m => rw [e] at this; exact this.elim
  | stuck => rw [e] at this; exact this.elim
theorem row_ok {t c : Tm} {a : Ty} {S : List Int → Prop} (ha : a = .int ∨ a = .bool) (r : Rel a a noE noE t c) (w : WT S noC c a) {D n n2 m : Nat} {v : Vl} (e : (ev D).run n t noE = .done v m) (hd : n2 + 1 ≤ D) :
    (∃ v' m', (ev D).run n2 c noE = .done v' m' ∧ Zk44.shown v = Zk44.shown v') ∨ (ev D).run n2 c noE = .tired := by
  have h1 := r v D n m e D n2
  have h2 := (sound S D).1 n2 c noC noE a w (fun y u e => by cases e) hd
  cases e2 : (ev D).run n2 c noE with
  | done v' m' => rw [e2] at h1; exact .inl ⟨v', m', rfl, (LR.shown ha h1).1⟩
  | tired => exact .inr rfl
  | blame l p m => rw [e2] at h1; exact h1.elim
  | stuck => rw [e2] at h2; exact h2.elim
theorem VS.shown {v v' : Vl} (h : VS v v') : Zk44.shown v = Zk44.shown v' := by
  induction h with
  | tag _ ih => exact ih
  | _ => rfl
/-- twice the type that was found -/
theorem find_twice {p made : Tm} {own : Ty} (h : find p noC [] = some (own, made)) : ∃ made2, find (.as (.as p own) own) noC [] = some (own, made2) ∧ find p noC [0, 0] = some (own, made2) ∧ TS made made2 := by
  rcases (find_sim p noC [] [0, 0]).cases with ⟨e1, _⟩ | ⟨k, t, t', e1, e2, ts⟩
  · rw [e1] at h; cases h
  · rw [h] at e1
    cases e1
    refine ⟨t', ?_, e2, ts⟩
    unfold find
    have : find (.as p own) noC ([] ++ [0]) = some (own, t') := by
      unfold find
      rw [show ([] : List Int) ++ [0] ++ [0] = [0, 0] from rfl, e2]
      dsimp only
      rw [castP_same]
    rw [this]
    dsimp only
    rw [castP_same]
def dS : Vl → PyData
  | .int i => .tuple [.str "int", .int i]
  | .bool b => .tuple [.str "bool", .bool b]
  | .tag v _ => dS v
  | _ => .tuple [.str "function"]
theorem dat_S : ∀ v : Vl, dat (Zk44.shown v) = some (dS v)
  | .int i => by simp only [Zk44.shown, dS, dat, datL, Option.map_some]
  | .bool b => by simp only [Zk44.shown, dS, dat, datL, Option.map_some]
  | .tag v _ => by
    unfold Zk44.shown dS
    exact dat_S v
  | .clos _ _ _ => by simp only [Zk44.shown, dS, dat, datL, Option.map_some]
  | .wrap _ _ _ _ _ => by simp only [Zk44.shown, dS, dat, datL, Option.map_some]
theorem lay_S : ∀ v : Vl, (dS v).canLay0 = true ∧ (dS v).depth = 1 ∧ PyData.eqv (dS v) (dS v) = true
  | .int i => ⟨by simp only [dS, PyData.canLay0, PyData.canLayAll0]; decide +kernel, by simp only [dS, PyData.depth, PyData.depthAll]; rfl, by simp [dS, PyData.eqv, PyData.eqvAll]⟩
  | .bool b => ⟨by simp only [dS, PyData.canLay0, PyData.canLayAll0]; decide +kernel, by simp only [dS, PyData.depth, PyData.depthAll]; rfl, by simp [dS, PyData.eqv, PyData.eqvAll]⟩
  | .tag v _ => by
    unfold dS
    exact lay_S v
  | .clos _ _ _ => ⟨by show (PyData.tuple [.str "function"]).canLay0 = true; decide +kernel, by show (PyData.tuple [.str "function"]).depth = 1; decide +kernel, by simp [dS, PyData.eqv, PyData.eqvAll]⟩
  | .wrap _ _ _ _ _ => ⟨by show (PyData.tuple [.str "function"]).canLay0 = true; decide +kernel, by show (PyData.tuple [.str "function"]).depth = 1; decide +kernel, by simp [dS, PyData.eqv, PyData.eqvAll]⟩
def dR : R → PyData
  | .done v _ => .tuple [.str "value", dS v]
  | .blame l p _ => .tuple [.str "blame", dP l, .bool p]
  | .tired => .tuple [.str "tired"]
  | .stuck => .none
theorem dat_R : ∀ r : R, dat (resP r) = some (dR r)
  | .done v _ => by simp only [resP, dR, dat, datL, dat_S, Option.map_some]
  | .blame l p _ => by simp only [resP, dR, dat, datL, dat_ints, dP, Option.map_some]
  | .tired => by simp only [resP, dR, dat, datL, Option.map_some]
  | .stuck => by simp only [resP, dR, dat]
theorem lay_R : ∀ r : R, (dR r).canLay0 = true ∧ (dR r).depth ≤ 2
  | .done v _ => ⟨by simp only [dR, PyData.canLay0, PyData.canLayAll0, (lay_S v).1]; decide +kernel, by simp only [dR, PyData.depth, PyData.depthAll, (lay_S v).2.1]; decide⟩
  | .blame l p _ => ⟨by simp only [dR, PyData.canLay0, PyData.canLayAll0, lay_P]; decide +kernel, by simp only [dR, PyData.depth, PyData.depthAll, dep_P]; decide⟩
  | .tired => ⟨by decide +kernel, by decide +kernel⟩
  | .stuck => ⟨rfl, by decide⟩
theorem shaped_R (r : R) : SeqAt.shaped (dR r) = true := by
  unfold SeqAt.shaped
  have := (lay_R r).2
  rw [(lay_R r).1]
  simp only [Bool.true_and, decide_eq_true_eq]
  omega
section
variable {s : Store} {E : XP}
theorem tiredW : resP .tired = .tup [.str "tired"] := rfl
/-- what stands in a pair of ends -/
theorem c_ninR {r a : R} {P : Bool → Store → Prop} (hr : r ≠ .stuck) (q : P (!(PyData.eqv (dR a) (dR r) || PyData.eqv (dR .tired) (dR r))) s) : W (cmpP .NotIn (resP r) (.tup [resP a, .tup [.str "tired"]])) s P E := by
  refine w_ninT (d := dR r) (ds := [dR a, dR .tired]) ?_ (dat_R r) ?_ (shaped_R r) ?_ ?_
  · cases r <;> first | rfl | exact absurd rfl hr
  · rw [← tiredW]
    simp only [datL, dat_R]
  · have h1 := lay_R a
    have h2 := lay_R .tired
    unfold SeqAt.shaped
    simp only [PyData.canLay0, PyData.canLayAll0, h1.1, h2.1, PyData.depth, PyData.depthAll, Bool.and_self, Bool.true_and]
    exact decide_eq_true (by have := h1.2; have := h2.2; omega)
  · simpa using q
theorem eqv_done {v v' : Vl} {n n' : Nat} (h : dS v = dS v') : PyData.eqv (dR (.done v n)) (dR (.done v' n')) = true := by
  show PyData.eqv (.tuple [.str "value", dS v]) (.tuple [.str "value", dS v']) = true
  rw [h]
  have := (lay_S v').2.2
  simp [PyData.eqv, PyData.eqvAll, this]
theorem c_tired {r : R} {P : Bool → Store → Prop} (hr : r ≠ .stuck) (q : P (PyData.eqv (dR r) (dR .tired)) s) : W (cmpP .Eq (resP r) (.tup [.str "tired"])) s P E := by
  refine W_ok (s' := s) ?_ q
  rw [← tiredW]
  show eqP _ _ s = _
  rw [dat_eq (dat_R r) (dat_R .tired) (shaped_R r) (shaped_R .tired) (by intro x h; cases r <;> cases h) (by intro x h; cases r <;> cases h) (by intro x h; cases r <;> cases h)]
end
theorem dS_of {v v' : Vl} (h : Zk44.shown v = Zk44.shown v') : dS v = dS v' := by
  have h1 := dat_S v
  rw [h, dat_S v'] at h1
  exact (Option.some.inj h1).symm
end Zk44

end
section
set_option maxHeartbeats 4000000
namespace Zk44
open PySem L2 Z
local macro_rules | `(tactic| infer_instance) => `(tactic| first
  | with_reducible first
    | refine k_asg ?_ | refine k_exp ?_ | refine k_ret ?_ | refine k_pop ?_ | refine k_retN ?_ | refine k_ixSet ?_ | refine k_fldSet ?_ | refine k_aug ?_ | refine k_par ?_ | refine k_unp ?_ | refine k_pass ?_ | refine k_cont ?_ | refine k_break ?_ | refine k_rai0 ?_ | refine k_whl ?_ | refine k_in ?_ | refine k_end ?_
    | refine w_call ?_ | refine w_cons ?_ | refine w_nil ?_ | refine w_e2 ?_ | refine w_e1 ?_ | refine w_cmp ?_ | refine w_tcmp ?_ | refine w_ttru ?_ | refine w_sl ?_ | refine w_meth ?_ | refine w_dct ?_ | refine w_lc ?_ | refine w_unlT ?_ | refine w_dct0 ?_ | refine w_bare ?_ | refine w_and ?_ | refine w_or ?_ | refine w_part ?_ | refine w_walk ?_ | refine w_of ?_
    | refine lp_n ?_ | refine lp_c ?_ | refine lp_b ?_ | refine lp_r ?_ | refine sq_n ?_ | refine sq_r ?_ | refine fnR_n ?_ | refine fnR_r ?_ | refine if_ff ?_ | refine if_tt ?_
  | ((with_reducible apply k_if0); (case e => exact rfl))
  | ((with_reducible apply k_if1); (case e => exact rfl))
  | with_reducible refine k_if ?_
  | ((with_reducible apply w_if0); (case e => exact rfl))
  | ((with_reducible apply w_if1); (case e => exact rfl))
  | with_reducible first | refine w_if ?_ | refine w_tand ?_ | refine w_tor ?_ | refine w_tnot ?_ | refine k_for ?_
  | ((with_reducible apply w_tup); (case hl => exact Nat.le_of_ble_eq_true rfl))
  | ((with_reducible apply w_lst); (case hl => exact Nat.le_of_ble_eq_true rfl))
  | ((with_reducible apply k_rai); (case h1 => exact rfl); (case h2 => exact Nat.le_of_ble_eq_true rfl))
  | ((with_reducible apply if_r0); (case h => exact rfl))
  | ((with_reducible apply if_r1); (case h => exact rfl))
  | ((with_reducible apply W_ok); (case h => exact rfl)))
section
variable {s : Store} {E : XP}
theorem as_walk {e e0 e2 : Tm} {u k0 : Ty} {p : List Int} {d self n : Nat} {Γ : Zk44.Cx} {Q : PV → Store → Prop} (h0 : find e Γ (p ++ [0]) = some (k0, e0)) (h2 : castP e0 k0 u p = some e2) (hk : k0.dep ≤ DB) (hu : u.dep ≤ DB) (hd : 43 ≤ d) (hp : p.length ≤ 900) (ho : s[self]? = some (.ins c_Caster []))
    (hf : ∀ Q' : PV → Store → Prop, (∀ s', Gr s s' → Q' (.tup [encT k0, encM e0]) s') → W (callN tab d i_Caster_find [.ref self, encM e, .ref n, encP (p ++ [0])]) s Q' E)
    (q : ∀ s', Gr s s' → Q (.tup [encT u, encM e2]) s') : W (callN tab (d + 1) i_Caster_find [.ref self, encM (.as e u), .ref n, encP p]) s Q E := by
  rw [w_Caster_find d rfl]
  refine W_cFn ?_
  unfold b_Caster_find
  simp only [encM]
  repeat infer_instance
  refine w_methP ho rfl rfl rfl ?_
  repeat infer_instance
  refine w_addT (by simp; omega) ?_
  repeat infer_instance
  rw [encP_app]
  refine hf _ fun s1 g1 => ?_
  repeat infer_instance
  refine ⟨_, rfl, ?_⟩
  repeat infer_instance
  have hDB : DB = 38 := rfl
  refine w_methP (g1 _ _ ho) rfl rfl rfl ?_
  repeat infer_instance
  refine cast_walk (by omega) (by omega) (by omega) (fun e3 h3 => ?_) (fun h3 => by rw [h2] at h3; cases h3)
  rw [h2] at h3
  cases h3
  repeat infer_instance
  exact q s1 g1
theorem twice_walk {p made2 : Tm} {own : Ty} {d : Nat} {Q : PV → Store → Prop} (h : find p noC [0, 0] = some (own, made2)) (hd : 2 * ht p + 63 ≤ d) (hh : ht p ≤ 800) (hs : Src 2 p) (hm : 2 + msr p + 1 ≤ DB)
    (q : ∀ s', Gr s s' → Q (.tup [encT own, encM made2]) s') : W (callN tab d i_with_casts [encM (.as (.as p own) own)]) s Q E := by
  obtain ⟨d, rfl⟩ : ∃ d', d = d' + 3 := ⟨d - 3, by omega⟩
  have ow : own.dep ≤ DB := by
    have := (find_wt (S := fun _ => True) p noC [0, 0] own made2 2 h hs (fun x u h => by cases h) (Nat.le_refl _) hm).1
    omega
  rw [w_with_casts (d + 2) rfl]
  refine W_cFn ?_
  unfold b_with_casts
  repeat infer_instance
  refine w_methP push_get rfl rfl rfl ?_
  repeat infer_instance
  have g : Gr s ((s ++ [SO.ins 3 []]) ++ [SO.dct []]) := Gr.push.app
  have ho : ((s ++ [SO.ins 3 []]) ++ [SO.dct []])[s.length]? = some (.ins c_Caster []) := Gr.push _ _ push_get
  have h1 : find (.as p own) noC ([] ++ [0]) = some (own, made2) := by
    unfold find
    rw [show ([] : List Int) ++ [0] ++ [0] = [0, 0] from rfl, h]
    dsimp only
    rw [castP_same]
  refine as_walk (p := []) (Γ := noC) h1 castP_same ow ow (by omega) (Nat.zero_le _) ho (fun Q' q' => ?_) fun s' g1 => q s' (g.trans g1)
  refine as_walk (p := [0]) (Γ := noC) h castP_same ow ow (by omega) (by decide) ho (fun Q2 q2 => ?_) fun s' g1 => q' s' g1
  refine find_walk p d 0 2 2 noC [0, 0] s.length (s ++ [SO.ins 3 []]).length _ _ (by omega) (by simp; omega) (by omega) hs (fun x u h => by cases h) (Nat.le_refl _) hm ho ⟨[], dctOf_dct push_get, Nat.zero_le _, fun x => rfl⟩ (fun k t' s' h9 g1 => ?_) (fun h9 => by rw [h] at h9; cases h9)
  rw [h] at h9
  cases h9
  exact q2 s' g1
end
end Zk44

end
section
set_option maxHeartbeats 4000000
namespace Zk44
open PySem L2 Z
local macro_rules | `(tactic| infer_instance) => `(tactic| first
  | with_reducible first
    | refine k_asg ?_ | refine k_exp ?_ | refine k_ret ?_ | refine k_pop ?_ | refine k_retN ?_ | refine k_ixSet ?_ | refine k_fldSet ?_ | refine k_aug ?_ | refine k_par ?_ | refine k_unp ?_ | refine k_pass ?_ | refine k_cont ?_ | refine k_break ?_ | refine k_rai0 ?_ | refine k_whl ?_ | refine k_in ?_ | refine k_end ?_
    | refine w_call ?_ | refine w_cons ?_ | refine w_nil ?_ | refine w_e2 ?_ | refine w_e1 ?_ | refine w_cmp ?_ | refine w_tcmp ?_ | refine w_ttru ?_ | refine w_sl ?_ | refine w_meth ?_ | refine w_dct ?_ | refine w_lc ?_ | refine w_unlT ?_ | refine w_dct0 ?_ | refine w_bare ?_ | refine w_and ?_ | refine w_or ?_ | refine w_part ?_ | refine w_walk ?_ | refine w_of ?_
    | refine lp_n ?_ | refine lp_c ?_ | refine lp_b ?_ | refine lp_r ?_ | refine sq_n ?_ | refine sq_r ?_ | refine fnR_n ?_ | refine fnR_r ?_ | refine if_ff ?_ | refine if_tt ?_
  | ((with_reducible apply k_if0); (case e => exact rfl))
  | ((with_reducible apply k_if1); (case e => exact rfl))
  | with_reducible refine k_if ?_
  | ((with_reducible apply w_if0); (case e => exact rfl))
  | ((with_reducible apply w_if1); (case e => exact rfl))
  | with_reducible first | refine w_if ?_ | refine w_tand ?_ | refine w_tor ?_ | refine w_tnot ?_ | refine k_for ?_
  | ((with_reducible apply w_tup); (case hl => exact Nat.le_of_ble_eq_true rfl))
  | ((with_reducible apply w_lst); (case hl => exact Nat.le_of_ble_eq_true rfl))
  | ((with_reducible apply k_rai); (case h1 => exact rfl); (case h2 => exact Nat.le_of_ble_eq_true rfl))
  | ((with_reducible apply if_r0); (case h => exact rfl))
  | ((with_reducible apply if_r1); (case h => exact rfl))
  | ((with_reducible apply W_ok); (case h => exact rfl)))
theorem datL_Ps : ∀ ls : List (List Int), datL (ls.map encP) = some (ls.map dP)
  | [] => rfl
  | l :: r => by simp only [List.map_cons, datL, dat_P, datL_Ps r]
theorem lay_Ps : ∀ ls : List (List Int), PyData.canLayAll0 (ls.map dP) = true ∧ PyData.depthAll (ls.map dP) ≤ 1
  | [] => ⟨rfl, Nat.zero_le _⟩
  | l :: r => by
    obtain ⟨h1, h2⟩ := lay_Ps r
    simp only [List.map_cons, PyData.canLayAll0, PyData.depthAll, lay_P, h1, dep_P]
    exact ⟨rfl, by omega⟩
theorem shaped_Ps (ls : List (List Int)) : SeqAt.shaped (.list (ls.map dP)) = true := by
  obtain ⟨h1, h2⟩ := lay_Ps ls
  unfold SeqAt.shaped
  simp only [PyData.canLay0, PyData.depth, h1, Bool.true_and]
  exact decide_eq_true (by omega)
theorem eqv_ints : ∀ l : List Int, PyData.eqvAll (l.map PyData.int) (l.map PyData.int) = true
  | [] => rfl
  | i :: r => by simp [PyData.eqvAll, PyData.eqv, eqv_ints r]
theorem eqv_P (l : List Int) : PyData.eqv (dP l) (dP l) = true := by
  simp only [dP, PyData.eqv]
  exact eqv_ints l
section
variable {s : Store} {E : XP}
theorem turn_p {tp c D : Nat} {A R : Fl → Sl → Store → Prop} (hD : 195 ≤ D) (T : Tp s tp c) {a0 x2 x3 x4 x5 x6 x7 x8 x9 x10 x11 x12 x13 x14 x15 : Option PV}
    (q : ∀ x11 x12 x13 x14 x15 s', Tp s' tp c → A .next [a0, some (.ref tp), x2, x3, x4, x5, x6, x7, x8, x9, x10, x11, x12, x13, x14, x15] s') :
    SW (cB [[cAsg 11 (eCall (callN tab (D + 2) 17) [sl 1, eLst [], kst (.int 4)]),
    cTry tab (cBlk [cUnp (eCall (callN tab (D + 2) 7) [sl 11]) (Tgt.run (.tup [.nm 12, .nm 13]))]) 1 (suiC .cont) goneN,
    cAsg 14 (eCall (callN tab (D + 2) 13) [sl 13, kst (.int 180)]),
    cIf (tAnd (tCmp .Eq (Z.e2 ixP (sl 14) (kst (.int 0))) (kst (.str "blame"))) (tCmp .NotIn (Z.e2 ixP (sl 14) (kst (.int 1))) (eCall (callN tab (D + 2) 21) [sl 13]))) (cBlk [cRet (kst (.bl false))]) (cBlk []),
    cAsg 15 (eTup [kst (.str "as"), eTup [kst (.str "as"), sl 11, sl 12], sl 12]),
    cIf (tAnd (tCmp .NotIn (eCall (callN tab (D + 2) 13) [Z.e2 ixP (eCall (callN tab (D + 2) 7) [sl 15]) (kst (.int 1)), kst (.int 180)]) (eTup [sl 14, eTup [kst (.str "tired")]])) (tCmp .NotEq (Z.e2 ixP (sl 14) (kst (.int 0))) (kst (.str "blame")))) (cBlk [cRet (kst (.bl false))]) (cBlk [])]]) [a0, some (.ref tp), x2, x3, x4, x5, x6, x7, x8, x9, x10, x11, x12, x13, x14, x15] s (lp A R) E := by
  repeat infer_instance
  refine prog_ok 4 (D + 2) _ s.length [] _ (by omega) (by decide) (T.gr Gr.push) push_get (Nat.ne_of_gt T.lt) (by decide) (fun x h => by cases h) fun p s1 p1 p2 p3 T1 k1 => ?_
  repeat infer_instance
  refine k_tryK (fl0 := ["code", "path"]) (by rfl) ?_ fun c fs ρ' s' h => exc_unp h
  repeat infer_instance
  have p3' : msr p ≤ 32 := p3
  have hDB : DB = 38 := rfl
  refine with_walk (B0 := 2) (by omega) (by omega) p1.1 (by omega) (fun own made s2 hf g2 => ?_) (fun hn f s2 g2 => ?_)
  · repeat infer_instance
    refine ⟨_, rfl, ?_⟩
    obtain ⟨_, w⟩ := find_wt (S := fun l => l ∈ labs made) p noC [] own made 2 hf p1.1 (fun x u h => by cases h) (Nat.le_refl _) (by omega)
    have wt := w fun l h => h
    obtain ⟨dm1, dm2, dm3⟩ := find_dm p noC [] own made 2 hf p1.1 p1.2 (fun x u h => by cases h) (Nat.le_refl _) (by omega)
    have nlc : nl p ≤ 100000 := by
      have h1 := nl_cap p
      have h2 := cap_mono (show ht p ≤ 10 from p2)
      have h3 : cap 10 ≤ 100000 := by decide +kernel
      omega
    repeat infer_instance
    refine run_casts_walk (n := 180) wt (by decide) (by omega) (by omega) fun s3 g3 => ?_
    have sd := (sound _ D).1 180 made noC noE own wt (fun y u e => by cases e) (by omega)
    obtain ⟨made2, f2, f2', ts⟩ := find_twice hf
    have sm := (sim D).1 180 made made2 noE noE ts ⟨fun y _ => rfl, fun y v h => by cases h⟩
    obtain ⟨_, w2⟩ := find_wt (S := fun _ => True) p noC [0, 0] own made2 2 f2' p1.1 (fun x u h => by cases h) (Nat.le_refl _) (by omega)
    have wt2 := w2 fun l h => trivial
    have hnoE : (fun _ => none : Env) = noE := rfl
    rw [hnoE]
    generalize (ev D).run 180 made noE = r at sd sm
    cases r with
    | done v m =>
      unfold resP
      repeat infer_instance
      refine twice_walk (p := p) (own := own) f2' (by omega) (by omega) p1.1 (by omega) fun s4 g4 => ?_
      repeat infer_instance
      refine run_casts_walk (n := 180) wt2 (by decide) (by omega) (by omega) fun s5 g5 => ?_
      rw [hnoE]
      generalize (ev D).run 180 made2 noE = r2 at sm
      cases sm with
      | done vs =>
        repeat infer_instance
        refine c_ninR (a := .done v m) (by intro h; cases h) ?_
        refine iff_ (by rw [eqv_done (dS_of vs.shown)]; simp) ?_
        repeat infer_instance
        exact q _ _ _ _ _ s5 ((((T1.gr g2).gr g3).gr g4).gr g5)
    | blame l pp m =>
      unfold resP
      repeat infer_instance
      refine lab_M made (D + 2) (by omega) dm1 (by omega) (by omega) _ _ fun n s4 hs g4 => ?_
      refine w_ninL hs (dat_P l) (datL_Ps _) (shaped_P l) (shaped_Ps _) ?_
      have hany : ((labs made).map dP).any (fun z => PyData.eqv z (dP l)) = true := List.any_eq_true.mpr ⟨dP l, List.mem_map.mpr ⟨l, sd, rfl⟩, eqv_P l⟩
      rw [hany]
      repeat infer_instance
      refine twice_walk (p := p) (own := own) f2' (by omega) (by omega) p1.1 (by omega) fun s5 g5 => ?_
      repeat infer_instance
      refine run_casts_walk (n := 180) wt2 (by decide) (by omega) (by omega) fun s6 g6 => ?_
      rw [hnoE]
      generalize (ev D).run 180 made2 noE = r2 at sm
      cases sm with
      | @blame _ l' _ p' _ m' =>
        repeat infer_instance
        refine c_ninR (r := .blame l' p' m') (a := .blame l pp m) (by intro h; cases h) ?_
        generalize (PyData.eqv (dR (.blame l pp m)) (dR (.blame l' p' m')) || PyData.eqv (dR .tired) (dR (.blame l' p' m'))) = b
        cases b with
        | true =>
          repeat infer_instance
          exact q _ _ _ _ _ s6 (((((T1.gr g2).gr g3).gr g4).gr g5).gr g6)
        | false =>
          repeat infer_instance
          exact q _ _ _ _ _ s6 (((((T1.gr g2).gr g3).gr g4).gr g5).gr g6)
    | tired =>
      unfold resP
      repeat infer_instance
      refine twice_walk (p := p) (own := own) f2' (by omega) (by omega) p1.1 (by omega) fun s4 g4 => ?_
      repeat infer_instance
      refine run_casts_walk (n := 180) wt2 (by decide) (by omega) (by omega) fun s5 g5 => ?_
      rw [hnoE]
      generalize (ev D).run 180 made2 noE = r2 at sm
      cases sm with
      | tired =>
        repeat infer_instance
        refine c_ninR (r := .tired) (a := .tired) (by intro h; cases h) ?_
        refine iff_ (by decide) ?_
        repeat infer_instance
        exact q _ _ _ _ _ s5 ((((T1.gr g2).gr g3).gr g4).gr g5)
    | stuck => exact sd.elim
  · refine ⟨_, rfl, ift (by decide) ⟨_, rfl, SW_goneN ?_⟩⟩
    exact q _ _ _ _ _ s2 (T1.gr g2)
end
end Zk44

end
section
set_option maxHeartbeats 4000000
namespace Zk44
open PySem L2 Z
local macro_rules | `(tactic| infer_instance) => `(tactic| first
  | with_reducible first
    | refine k_asg ?_ | refine k_exp ?_ | refine k_ret ?_ | refine k_pop ?_ | refine k_retN ?_ | refine k_ixSet ?_ | refine k_fldSet ?_ | refine k_aug ?_ | refine k_par ?_ | refine k_unp ?_ | refine k_pass ?_ | refine k_cont ?_ | refine k_break ?_ | refine k_rai0 ?_ | refine k_whl ?_ | refine k_in ?_ | refine k_end ?_
    | refine w_call ?_ | refine w_cons ?_ | refine w_nil ?_ | refine w_e2 ?_ | refine w_e1 ?_ | refine w_cmp ?_ | refine w_tcmp ?_ | refine w_ttru ?_ | refine w_sl ?_ | refine w_meth ?_ | refine w_dct ?_ | refine w_lc ?_ | refine w_unlT ?_ | refine w_dct0 ?_ | refine w_bare ?_ | refine w_and ?_ | refine w_or ?_ | refine w_part ?_ | refine w_walk ?_ | refine w_of ?_
    | refine lp_n ?_ | refine lp_c ?_ | refine lp_b ?_ | refine lp_r ?_ | refine sq_n ?_ | refine sq_r ?_ | refine fnR_n ?_ | refine fnR_r ?_ | refine if_ff ?_ | refine if_tt ?_
  | ((with_reducible apply k_if0); (case e => exact rfl))
  | ((with_reducible apply k_if1); (case e => exact rfl))
  | with_reducible refine k_if ?_
  | ((with_reducible apply w_if0); (case e => exact rfl))
  | ((with_reducible apply w_if1); (case e => exact rfl))
  | with_reducible first | refine w_if ?_ | refine w_tand ?_ | refine w_tor ?_ | refine w_tnot ?_ | refine k_for ?_
  | ((with_reducible apply w_tup); (case hl => exact Nat.le_of_ble_eq_true rfl))
  | ((with_reducible apply w_lst); (case hl => exact Nat.le_of_ble_eq_true rfl))
  | ((with_reducible apply k_rai); (case h1 => exact rfl); (case h2 => exact Nat.le_of_ble_eq_true rfl))
  | ((with_reducible apply if_r0); (case h => exact rfl))
  | ((with_reducible apply if_r1); (case h => exact rfl))
  | ((with_reducible apply W_ok); (case h => exact rfl)))
/-- a row -/
def Row (t : Tm) (k : Ty) (v : PV) : Prop := ∃ one, v = encM one ∧ Cn t k one k ∧ Src 2 one ∧ ht one ≤ 11 ∧ msr one ≤ 7
section
variable {s : Store} {E : XP}
theorem turn_r {tp c D m : Nat} {A R : Fl → Sl → Store → Prop} {t : Tm} {k less lesser : Ty} {v : Vl} (hD : 195 ≤ D) (T : Tp s tp c) (hk : Kd k) (st : ST noC t k) (sr : Src 2 t) (hh : ht t ≤ 7) (l1 : lessK less k = true) (l2 : lessK lesser less = true) (d1 : less.dep ≤ 2) (d2 : lesser.dep ≤ 2) (hv : (ev D).run 180 (used t k) noE = .done v m) {a0 x2 x8 x9 x10 x11 x12 x13 x14 x15 : Option PV}
    (q : ∀ x3 x4 x5 x6 x7 x8 x9 x10 x11 x12 x13 x14 x15 s', Tp s' tp c → A .next [a0, some (.ref tp), x2, x3, x4, x5, x6, x7, x8, x9, x10, x11, x12, x13, x14, x15] s') :
    SW (cB [[cAsg 8 (eLst [eTup [kst (.str "as"), eTup [kst (.str "as"), sl 4, sl 5], sl 3], eTup [kst (.str "as"), eTup [kst (.str "as"), eTup [kst (.str "as"), sl 4, sl 5], sl 6], sl 3], eTup [kst (.str "as"), eTup [kst (.str "as"), eTup [kst (.str "as"), sl 4, sl 5], sl 5], sl 3], eTup [kst (.str "as"), eTup [kst (.str "as"), eTup [kst (.str "as"), sl 4, eTup [kst (.str "any")]], sl 5], sl 3], eTup [kst (.str "as"), eTup [kst (.str "as"), eTup [kst (.str "as"), eTup [kst (.str "as"), sl 4, sl 5], sl 3], sl 6], sl 3]]),
    cFor (sWalk (sl 8)) (Tgt.run (.nm 9)) (b_law_2 (callN tab (D + 2)) (iniN tab (D + 2))),
    cIf (tOr (tNot (tTru (eCall (callN tab (D + 2) 2) [sl 5, sl 3]))) (tOr (tNot (tTru (eCall (callN tab (D + 2) 2) [sl 6, sl 5]))) (tOr (tCmp .NotEq (eCall (callN tab (D + 2) 3) [sl 5, sl 3]) (sl 3)) (tNot (tTru (eCall (callN tab (D + 2) 1) [sl 6, sl 3])))))) (cBlk [cRet (kst (.bl false))]) (cBlk []),
    cAsg 11 (eCall (callN tab (D + 2) 17) [sl 1, eLst [], kst (.int 4)]),
    cTry tab (cBlk [cUnp (eCall (callN tab (D + 2) 7) [sl 11]) (Tgt.run (.tup [.nm 12, .nm 13]))]) 1 (suiC .cont) goneN,
    cAsg 14 (eCall (callN tab (D + 2) 13) [sl 13, kst (.int 180)]),
    cIf (tAnd (tCmp .Eq (Z.e2 ixP (sl 14) (kst (.int 0))) (kst (.str "blame"))) (tCmp .NotIn (Z.e2 ixP (sl 14) (kst (.int 1))) (eCall (callN tab (D + 2) 21) [sl 13]))) (cBlk [cRet (kst (.bl false))]) (cBlk []),
    cAsg 15 (eTup [kst (.str "as"), eTup [kst (.str "as"), sl 11, sl 12], sl 12]),
    cIf (tAnd (tCmp .NotIn (eCall (callN tab (D + 2) 13) [Z.e2 ixP (eCall (callN tab (D + 2) 7) [sl 15]) (kst (.int 1)), kst (.int 180)]) (eTup [sl 14, eTup [kst (.str "tired")]])) (tCmp .NotEq (Z.e2 ixP (sl 14) (kst (.int 0))) (kst (.str "blame")))) (cBlk [cRet (kst (.bl false))]) (cBlk [])]]) [a0, some (.ref tp), x2, some (encT k), some (encM t), some (encT less), some (encT lesser), some (resP (.done v m)), x8, x9, x10, x11, x12, x13, x14, x15] s (lp A R) E := by
  have hDB : DB = 38 := rfl
  have kd := hk.dep
  have ms : msr t ≤ 7 := Nat.le_trans st.msr_le hh
  have l3 := lessK_trans l2 l1
  have la : lessK .any k = true := by cases k <;> rfl
  have lk := lessK_refl k
  have c0 := Cn.base st
  have rows : ∀ v ∈ [encM (.as (.as t less) k), encM (.as (.as (.as t less) lesser) k), encM (.as (.as (.as t less) less) k), encM (.as (.as (.as t .any) less) k), encM (.as (.as (.as (.as t less) k) lesser) k)], Row t k v := by
    intro v hv
    simp only [List.mem_cons, List.not_mem_nil, or_false] at hv
    rcases hv with rfl | rfl | rfl | rfl | rfl
    · exact ⟨_, rfl, (c0.as lk l1).as l1 lk, ⟨⟨sr, d1⟩, kd⟩, by simp only [ht]; omega, ms⟩
    · exact ⟨_, rfl, ((c0.as lk l1).as l1 l3).as l3 lk, ⟨⟨⟨sr, d1⟩, d2⟩, kd⟩, by simp only [ht]; omega, ms⟩
    · exact ⟨_, rfl, ((c0.as lk l1).as l1 l1).as l1 lk, ⟨⟨⟨sr, d1⟩, d1⟩, kd⟩, by simp only [ht]; omega, ms⟩
    · exact ⟨_, rfl, ((c0.as lk la).as la l1).as l1 lk, ⟨⟨⟨sr, Nat.zero_le _⟩, d1⟩, kd⟩, by simp only [ht]; omega, ms⟩
    · exact ⟨_, rfl, (((c0.as lk l1).as l1 lk).as lk l3).as l3 lk, ⟨⟨⟨⟨sr, d1⟩, kd⟩, d2⟩, kd⟩, by simp only [ht]; omega, ms⟩
  repeat infer_instance
  generalize hitems : [encM (.as (.as t less) k), encM (.as (.as (.as t less) lesser) k), encM (.as (.as (.as t less) less) k), encM (.as (.as (.as t .any) less) k), encM (.as (.as (.as (.as t less) k) lesser) k)] = items at rows
  have hL : (s ++ [SO.lst items])[s.length]? = some (.lst items) := push_get
  have T0 : Tp (s ++ [SO.lst items]) tp c := T.gr Gr.push
  have hs' : s ++ [SO.lst [encM (.as (.as t less) k), encM (.as (.as (.as t less) lesser) k), encM (.as (.as (.as t less) less) k), encM (.as (.as (.as t .any) less) k), encM (.as (.as (.as (.as t less) k) lesser) k)]] = s ++ [SO.lst items] := by rw [hitems]
  simp only [encM, encT] at hs'
  rw [hs']
  refine w_walkL (lst_of hL) ?_
  refine SW_forP (fun i ρ s' => ∃ x9 x10, ρ = [a0, some (.ref tp), x2, some (encT k), some (encM t), some (encT less), some (encT lesser), some (resP (.done v m)), some (.ref s.length), x9, x10, x11, x12, x13, x14, x15] ∧ Gr (s ++ [SO.lst items]) s') items (fun i ρ s' h => ?_) (fun i w ρ s' hw h => ?_) (fun ρ s' h => ?_) _ 0 _ _ ⟨_, _, rfl, Gr.refl⟩ (Nat.zero_le _) ?_
  · obtain ⟨_, _, _, g⟩ := h
    show (lstOf s' s.length).map (·[i]?) = _
    rw [lst_of (g _ _ hL)]
    rfl
  · obtain ⟨x9, x10, rfl, g⟩ := h
    obtain ⟨one, rfl, cn, s1, h1, m1⟩ := rows w (List.mem_of_getElem? hw)
    refine ⟨_, rfl, ?_⟩
    unfold b_law_2
    repeat infer_instance
    refine used_ok hk (by omega) ?_
    repeat infer_instance
    obtain ⟨u1, u2, u3⟩ := used_bd (t := one) hk s1
    obtain ⟨made, f1, rl⟩ := (cn.used hk) []
    refine with_walk (B0 := 2) (by omega) (by omega) u1 (by omega) (fun own made' s2 hf g2 => ?_) (fun hn => by rw [show find (used one k) (fun _ => none) [] = some (res k, made) from f1] at hn; cases hn)
    rw [show find (used one k) (fun _ => none) [] = some (res k, made) from f1] at hf
    cases hf
    repeat infer_instance
    obtain ⟨_, w⟩ := find_wt (S := fun _ => True) (used one k) noC [] (res k) made 2 f1 u1 (fun x u h => by cases h) (Nat.le_refl _) (by omega)
    have wt := w fun l h => trivial
    refine run_casts_walk (n := 190) wt (by decide) (by omega) (by omega) fun s3 g3 => ?_
    rcases row_ok hk.res rl wt hv (n2 := 190) (by omega) with ⟨v', m', e, sh⟩ | e
    · rw [show (ev D).run 190 made (fun _ => none) = .done v' m' from e]
      repeat infer_instance
      refine c_ninR (r := .done v' m') (a := .done v m) (by intro h; cases h) ?_
      refine iff_ (by rw [eqv_done (dS_of sh)]; simp) ?_
      repeat infer_instance
      exact ⟨_, _, rfl, (g.trans g2).trans g3⟩
    · rw [show (ev D).run 190 made (fun _ => none) = .tired from e]
      repeat infer_instance
      refine c_ninR (r := .tired) (a := .done v m) (by intro h; cases h) ?_
      refine iff_ (by rw [show PyData.eqv (dR .tired) (dR .tired) = true by decide +kernel]; simp) ?_
      repeat infer_instance
      exact ⟨_, _, rfl, (g.trans g2).trans g3⟩
  · obtain ⟨x9, x10, rfl, g⟩ := h
    repeat infer_instance
    refine less_ok less k _ _ (by omega) (by omega) (by omega) ?_
    rw [l1]
    repeat infer_instance
    refine less_ok lesser less _ _ (by omega) (by omega) (by omega) ?_
    rw [l2]
    repeat infer_instance
    refine common_ok less k _ _ (by omega) (by omega) (by omega) ?_
    rw [common_less l1]
    repeat infer_instance
    refine c_neT (by omega) (by omega) ?_
    refine iff_ (by simp) ?_
    repeat infer_instance
    refine fits_ok lesser k _ _ (by omega) (by omega) (by omega) ?_
    rw [less_fits l3]
    refine W_ok (a := true) rfl ?_
    refine iff_ (by decide) ?_
    refine k_pop ?_
    exact turn_p hD (T0.gr g) fun x11 x12 x13 x14 x15 s' T' => q _ _ _ _ _ _ _ _ _ _ _ _ _ s' T'
  · have e : lenI (s ++ [SO.lst items]) (.live s.length) = items.length := by
      show ((lstOf _ _).getD []).length = _
      rw [lst_of hL]
      rfl
    rw [e]
    omega
end
end Zk44

end
section
set_option maxHeartbeats 4000000
namespace Zk44
open PySem L2 Z
local macro_rules | `(tactic| infer_instance) => `(tactic| first
  | with_reducible first
    | refine k_asg ?_ | refine k_exp ?_ | refine k_ret ?_ | refine k_pop ?_ | refine k_retN ?_ | refine k_ixSet ?_ | refine k_fldSet ?_ | refine k_aug ?_ | refine k_par ?_ | refine k_unp ?_ | refine k_pass ?_ | refine k_cont ?_ | refine k_break ?_ | refine k_rai0 ?_ | refine k_whl ?_ | refine k_in ?_ | refine k_end ?_
    | refine w_call ?_ | refine w_cons ?_ | refine w_nil ?_ | refine w_e2 ?_ | refine w_e1 ?_ | refine w_cmp ?_ | refine w_tcmp ?_ | refine w_ttru ?_ | refine w_sl ?_ | refine w_meth ?_ | refine w_dct ?_ | refine w_lc ?_ | refine w_unlT ?_ | refine w_dct0 ?_ | refine w_bare ?_ | refine w_and ?_ | refine w_or ?_ | refine w_part ?_ | refine w_walk ?_ | refine w_of ?_
    | refine lp_n ?_ | refine lp_c ?_ | refine lp_b ?_ | refine lp_r ?_ | refine sq_n ?_ | refine sq_r ?_ | refine fnR_n ?_ | refine fnR_r ?_ | refine if_ff ?_ | refine if_tt ?_
  | ((with_reducible apply k_if0); (case e => exact rfl))
  | ((with_reducible apply k_if1); (case e => exact rfl))
  | with_reducible refine k_if ?_
  | ((with_reducible apply w_if0); (case e => exact rfl))
  | ((with_reducible apply w_if1); (case e => exact rfl))
  | with_reducible first | refine w_if ?_ | refine w_tand ?_ | refine w_tor ?_ | refine w_tnot ?_ | refine k_for ?_
  | ((with_reducible apply w_tup); (case hl => exact Nat.le_of_ble_eq_true rfl))
  | ((with_reducible apply w_lst); (case hl => exact Nat.le_of_ble_eq_true rfl))
  | ((with_reducible apply k_rai); (case h1 => exact rfl); (case h2 => exact Nat.le_of_ble_eq_true rfl))
  | ((with_reducible apply if_r0); (case h => exact rfl))
  | ((with_reducible apply if_r1); (case h => exact rfl))
  | ((with_reducible apply W_ok); (case h => exact rfl)))
theorem kind4 {s : Store} {E : XP} {t c d : Nat} {Q : PV → Store → Prop} (hd : 1 ≤ d) (h : Tp s t c) (q : ∀ k s', Kd k → Tp s' t c → Kp t s s' → Q (encT k) s') :
    W (callN tab d 15 [.ref t, .int 4]) (s ++ [SO.lst [.tup [.str "int"], .tup [.str "bool"], .tup [.str "arrow", .tup [.str "int"], .tup [.str "bool"]], .tup [.str "arrow", .tup [.str "arrow", .tup [.str "int"], .tup [.str "int"]], .tup [.str "int"]]]]) (fun y s' => W (ixP (.ref s.length) y) s' Q E) E := by
  refine take_w (h.gr Gr.push) (by decide) (by decide) hd fun r s2 r0 r1 h2 k2 l2 => ?_
  have hL := k2.get push_get (Nat.ne_of_gt h.lt)
  have k3 : Kp t s s2 := Kp.refl.add.trans k2
  have : r = 0 ∨ r = 1 ∨ r = 2 ∨ r = 3 := by omega
  rcases this with rfl | rfl | rfl | rfl
  · exact w_at (lst_of hL) rfl (q .int s2 (.inl rfl) h2 k3)
  · exact w_at (lst_of hL) rfl (q .bool s2 (.inr (.inl rfl)) h2 k3)
  · exact w_at (lst_of hL) rfl (q (.arr .int .bool) s2 (.inr (.inr (.inl rfl))) h2 k3)
  · exact w_at (lst_of hL) rfl (q (.arr (.arr .int .int) .int) s2 (.inr (.inr (.inr rfl))) h2 k3)
theorem turn_w {s : Store} {E : XP} {tp c D : Nat} {A R : Fl → Sl → Store → Prop} (hD : 195 ≤ D) (T : Tp s tp c) {a0 x2 x3 x4 x5 x6 x7 x8 x9 x10 x11 x12 x13 x14 x15 : Option PV}
    (q : ∀ x3 x4 x5 x6 x7 x8 x9 x10 x11 x12 x13 x14 x15 s', Tp s' tp c → A .next [a0, some (.ref tp), x2, x3, x4, x5, x6, x7, x8, x9, x10, x11, x12, x13, x14, x15] s') :
    SW (b_law_1 (callN tab (D + 2)) (iniN tab (D + 2))) [a0, some (.ref tp), x2, x3, x4, x5, x6, x7, x8, x9, x10, x11, x12, x13, x14, x15] s (lp A R) E := by
  unfold b_law_1
  repeat infer_instance
  refine kind4 (by omega) T fun k s1 hk T1 k1 => ?_
  repeat infer_instance
  have kd := hk.dep
  have hDB : DB = 38 := rfl
  have kar : k.ar ≤ 1 := by rcases hk with rfl | rfl | rfl | rfl <;> decide
  refine static_ok (D + 2) 7 _ s1.length noC k 3 0 _ (by show 6 + k.ar ≤ 7; omega) (by omega) ⟨hk.full, kd⟩ (T1.gr Gr.push) ⟨⟨[], dctOf_dct push_get, Nat.zero_le _, fun x => rfl, fun p hp => by cases hp⟩, fun x u h => by cases h⟩ (Nat.ne_of_gt T1.lt) (by omega) fun t s2 st sr hh T2 k2 le2 => ?_
  repeat infer_instance
  refine forgot_ok k _ _ _ (by omega) T2 fun less s3 l1 d1 T3 k3 => ?_
  repeat infer_instance
  refine c_neT (b := .any) (by omega) (Nat.zero_le _) ?_
  have rest : ∀ (lesser : Ty) (s4 : Store), lessK lesser less = true → lesser.dep ≤ 2 → Tp s4 tp c → SW (cB [[cAsg 7 (eCall (callN tab (D + 2) 13) [Z.e2 ixP (eCall (callN tab (D + 2) 7) [eCall (callN tab (D + 2) 20) [sl 4, sl 3]]) (kst (.int 1)), kst (.int 180)]),
    cIf (tCmp .Eq (sl 7) (eTup [kst (.str "tired")])) (cBlk [cCont]) (cBlk []),
    cAsg 8 (eLst [eTup [kst (.str "as"), eTup [kst (.str "as"), sl 4, sl 5], sl 3], eTup [kst (.str "as"), eTup [kst (.str "as"), eTup [kst (.str "as"), sl 4, sl 5], sl 6], sl 3], eTup [kst (.str "as"), eTup [kst (.str "as"), eTup [kst (.str "as"), sl 4, sl 5], sl 5], sl 3], eTup [kst (.str "as"), eTup [kst (.str "as"), eTup [kst (.str "as"), sl 4, eTup [kst (.str "any")]], sl 5], sl 3], eTup [kst (.str "as"), eTup [kst (.str "as"), eTup [kst (.str "as"), eTup [kst (.str "as"), sl 4, sl 5], sl 3], sl 6], sl 3]]),
    cFor (sWalk (sl 8)) (Tgt.run (.nm 9)) (b_law_2 (callN tab (D + 2)) (iniN tab (D + 2))),
    cIf (tOr (tNot (tTru (eCall (callN tab (D + 2) 2) [sl 5, sl 3]))) (tOr (tNot (tTru (eCall (callN tab (D + 2) 2) [sl 6, sl 5]))) (tOr (tCmp .NotEq (eCall (callN tab (D + 2) 3) [sl 5, sl 3]) (sl 3)) (tNot (tTru (eCall (callN tab (D + 2) 1) [sl 6, sl 3])))))) (cBlk [cRet (kst (.bl false))]) (cBlk []),
    cAsg 11 (eCall (callN tab (D + 2) 17) [sl 1, eLst [], kst (.int 4)]),
    cTry tab (cBlk [cUnp (eCall (callN tab (D + 2) 7) [sl 11]) (Tgt.run (.tup [.nm 12, .nm 13]))]) 1 (suiC .cont) goneN,
    cAsg 14 (eCall (callN tab (D + 2) 13) [sl 13, kst (.int 180)]),
    cIf (tAnd (tCmp .Eq (Z.e2 ixP (sl 14) (kst (.int 0))) (kst (.str "blame"))) (tCmp .NotIn (Z.e2 ixP (sl 14) (kst (.int 1))) (eCall (callN tab (D + 2) 21) [sl 13]))) (cBlk [cRet (kst (.bl false))]) (cBlk []),
    cAsg 15 (eTup [kst (.str "as"), eTup [kst (.str "as"), sl 11, sl 12], sl 12]),
    cIf (tAnd (tCmp .NotIn (eCall (callN tab (D + 2) 13) [Z.e2 ixP (eCall (callN tab (D + 2) 7) [sl 15]) (kst (.int 1)), kst (.int 180)]) (eTup [sl 14, eTup [kst (.str "tired")]])) (tCmp .NotEq (Z.e2 ixP (sl 14) (kst (.int 0))) (kst (.str "blame")))) (cBlk [cRet (kst (.bl false))]) (cBlk [])]]) [a0, some (.ref tp), x2, some (encT k), some (encM t), some (encT less), some (encT lesser), x7, x8, x9, x10, x11, x12, x13, x14, x15] s4 (lp A R) E := fun lesser s4 l2 d2 T4 => by
    repeat infer_instance
    refine used_ok hk (by omega) ?_
    repeat infer_instance
    obtain ⟨u1, u2, u3⟩ := used_bd (t := t) hk sr
    have ust := used_st hk st
    have hf0 : find (used t k) (fun _ => none) [] = some (res k, used t k) := find_st ust []
    have ms : msr t ≤ 7 := Nat.le_trans st.msr_le hh
    refine with_walk (B0 := 2) (by omega) (by omega) u1 (by omega) (fun own made' s5 hf g5 => ?_) (fun hn => by rw [hf0] at hn; cases hn)
    rw [hf0] at hf
    cases hf
    repeat infer_instance
    refine run_casts_walk (n := 180) (ust.wt fun _ => True) (by decide) (by omega) (by omega) fun s6 g6 => ?_
    rcases due_ok ust (D := D) (n := 180) (by omega) with ⟨v, m, e⟩ | e
    · rw [show (ev D).run 180 (used t k) (fun _ => none) = .done v m from e]
      repeat infer_instance
      refine c_tired (r := .done v m) (by intro h; cases h) ?_
      refine iff_ (by simp [dR, PyData.eqv, PyData.eqvAll]) ?_
      refine k_pop ?_
      exact turn_r hD ((T4.gr g5).gr g6) hk st sr hh l1 l2 (by omega) (by omega) e fun x3 x4 x5 x6 x7 x8 x9 x10 x11 x12 x13 x14 x15 s' T' => q _ _ _ _ _ _ _ _ _ _ _ _ _ s' T'
    · rw [show (ev D).run 180 (used t k) (fun _ => none) = .tired from e]
      repeat infer_instance
      refine c_tired (r := .tired) (by intro h; cases h) ?_
      refine ift (by decide +kernel) ?_
      repeat infer_instance
      exact q _ _ _ _ _ _ _ _ _ _ _ _ _ s6 ((T4.gr g5).gr g6)
  by_cases e : less = .any
  · refine iff_ (by simp [e]) ?_
    refine W_ok rfl ?_
    exact rest less s3 (lessK_refl _) (by omega) T3
  · refine ift (by simp [e]) ?_
    refine w_call ?_
    repeat (refine w_cons ?_; refine W_ok rfl ?_)
    refine w_nil ?_
    refine forgot_ok less _ _ _ (by omega) T3 fun lesser s4 l2 d2 T4 k4 => ?_
    exact rest lesser s4 l2 (by omega) T4
theorem law_holds (ns : List Int) (h : ns.length ≤ 63) : ∃ st, callN tab 210 i_law [.ref 0] [.rol (ns.map PV.int)] = .ok (.bl true) st := by
  have key : W (callN tab 210 i_law [.ref 0]) [.rol (ns.map PV.int)] (fun v _ => v = .bl true) (fun _ _ _ => False) := by
    show W (callN tab (209 + 1) 22 [.ref 0]) _ _ _
    rw [w_law 209 rfl]
    refine W_cFn ?_
    unfold b_law
    repeat infer_instance
    show W (callN tab (208 + 1) 14 [.ref 0]) _ _ _
    rw [w__law_tape 208 rfl]
    refine tape_ok (a := 0) (ns := ns) (rol_of (by rfl)) h fun t c s1 T1 k1 lt1 ge1 => ?_
    repeat infer_instance
    refine SW_forP (fun i ρ s' => ∃ x2 x3 x4 x5 x6 x7 x8 x9 x10 x11 x12 x13 x14 x15 : Option PV, ρ = [some (.ref 0), some (.ref t), x2, x3, x4, x5, x6, x7, x8, x9, x10, x11, x12, x13, x14, x15] ∧ Tp s' t c) [.int 0, .int 1, .int 2, .int 3] (fun i ρ s' _ => rfl) ?_ ?_ _ 0 _ _ ⟨none, none, none, none, none, none, none, none, none, none, none, none, none, none, rfl, T1⟩ (Nat.zero_le _) (show 4 < 5 by decide)
    · rintro i v ρ s' hv ⟨x2, x3, x4, x5, x6, x7, x8, x9, x10, x11, x12, x13, x14, x15, rfl, T'⟩
      refine ⟨_, rfl, ?_⟩
      exact turn_w (D := 207) (by decide) T' fun x3 x4 x5 x6 x7 x8 x9 x10 x11 x12 x13 x14 x15 s2 T3 => ⟨_, x3, x4, x5, x6, x7, x8, x9, x10, x11, x12, x13, x14, x15, rfl, T3⟩
    · rintro ρ s' ⟨x2, x3, x4, x5, x6, x7, x8, x9, x10, x11, x12, x13, x14, x15, rfl, T'⟩
      repeat infer_instance
      rfl
  obtain ⟨a, s', e, rfl⟩ := W_get key
  exact ⟨s', e⟩
end Zk44

end
namespace Zk44
open PySem L2 Z
theorem sc0 : FnScope fn0.N fn0.ps fn0.sc := ⟨rfl, rfl, rfl, by decide +kernel, rfl, by decide +kernel, by decide +kernel⟩
theorem nb0 : ∀ x ∈ fn0.N, (x == ("__debug__" : Str)) = false ∧ (x == ("__classdict__" : Str)) = false := by decide +kernel
theorem sc1 : FnScope fn1.N fn1.ps fn1.sc := ⟨rfl, rfl, rfl, by decide +kernel, rfl, by decide +kernel, by decide +kernel⟩
theorem nb1 : ∀ x ∈ fn1.N, (x == ("__debug__" : Str)) = false ∧ (x == ("__classdict__" : Str)) = false := by decide +kernel
theorem sc2 : FnScope fn2.N fn2.ps fn2.sc := ⟨rfl, rfl, rfl, by decide +kernel, rfl, by decide +kernel, by decide +kernel⟩
theorem nb2 : ∀ x ∈ fn2.N, (x == ("__debug__" : Str)) = false ∧ (x == ("__classdict__" : Str)) = false := by decide +kernel
theorem sc3 : FnScope fn3.N fn3.ps fn3.sc := ⟨rfl, rfl, rfl, by decide +kernel, rfl, by decide +kernel, by decide +kernel⟩
theorem nb3 : ∀ x ∈ fn3.N, (x == ("__debug__" : Str)) = false ∧ (x == ("__classdict__" : Str)) = false := by decide +kernel
theorem sc4 : FnScope fn4.N fn4.ps fn4.sc := ⟨rfl, rfl, rfl, by decide +kernel, rfl, by decide +kernel, by decide +kernel⟩
theorem nb4 : ∀ x ∈ fn4.N, (x == ("__debug__" : Str)) = false ∧ (x == ("__classdict__" : Str)) = false := by decide +kernel
theorem sc5 : FnScope fn5.N fn5.ps fn5.sc := ⟨rfl, rfl, rfl, by decide +kernel, rfl, by decide +kernel, by decide +kernel⟩
theorem nb5 : ∀ x ∈ fn5.N, (x == ("__debug__" : Str)) = false ∧ (x == ("__classdict__" : Str)) = false := by decide +kernel
theorem sc6 : FnScope fn6.N fn6.ps fn6.sc := ⟨rfl, rfl, rfl, by decide +kernel, rfl, by decide +kernel, by decide +kernel⟩
theorem nb6 : ∀ x ∈ fn6.N, (x == ("__debug__" : Str)) = false ∧ (x == ("__classdict__" : Str)) = false := by decide +kernel
theorem sc7 : FnScope fn7.N fn7.ps fn7.sc := ⟨rfl, rfl, rfl, by decide +kernel, rfl, by decide +kernel, by decide +kernel⟩
theorem nb7 : ∀ x ∈ fn7.N, (x == ("__debug__" : Str)) = false ∧ (x == ("__classdict__" : Str)) = false := by decide +kernel
theorem sc8 : FnScope fn8.N fn8.ps fn8.sc := ⟨rfl, rfl, rfl, by decide +kernel, rfl, by decide +kernel, by decide +kernel⟩
theorem nb8 : ∀ x ∈ fn8.N, (x == ("__debug__" : Str)) = false ∧ (x == ("__classdict__" : Str)) = false := by decide +kernel
theorem sc9 : FnScope fn9.N fn9.ps fn9.sc := ⟨rfl, rfl, rfl, by decide +kernel, rfl, by decide +kernel, by decide +kernel⟩
theorem nb9 : ∀ x ∈ fn9.N, (x == ("__debug__" : Str)) = false ∧ (x == ("__classdict__" : Str)) = false := by decide +kernel
theorem sc10 : FnScope fn10.N fn10.ps fn10.sc := ⟨rfl, rfl, rfl, by decide +kernel, rfl, by decide +kernel, by decide +kernel⟩
theorem nb10 : ∀ x ∈ fn10.N, (x == ("__debug__" : Str)) = false ∧ (x == ("__classdict__" : Str)) = false := by decide +kernel
theorem sc11 : FnScope fn11.N fn11.ps fn11.sc := ⟨rfl, rfl, rfl, by decide +kernel, rfl, by decide +kernel, by decide +kernel⟩
theorem nb11 : ∀ x ∈ fn11.N, (x == ("__debug__" : Str)) = false ∧ (x == ("__classdict__" : Str)) = false := by decide +kernel
theorem sc12 : FnScope fn12.N fn12.ps fn12.sc := ⟨rfl, rfl, rfl, by decide +kernel, rfl, by decide +kernel, by decide +kernel⟩
theorem nb12 : ∀ x ∈ fn12.N, (x == ("__debug__" : Str)) = false ∧ (x == ("__classdict__" : Str)) = false := by decide +kernel
theorem sc13 : FnScope fn13.N fn13.ps fn13.sc := ⟨rfl, rfl, rfl, by decide +kernel, rfl, by decide +kernel, by decide +kernel⟩
theorem nb13 : ∀ x ∈ fn13.N, (x == ("__debug__" : Str)) = false ∧ (x == ("__classdict__" : Str)) = false := by decide +kernel
theorem sc14 : FnScope fn14.N fn14.ps fn14.sc := ⟨rfl, rfl, rfl, by decide +kernel, rfl, by decide +kernel, by decide +kernel⟩
theorem nb14 : ∀ x ∈ fn14.N, (x == ("__debug__" : Str)) = false ∧ (x == ("__classdict__" : Str)) = false := by decide +kernel
theorem sc15 : FnScope fn15.N fn15.ps fn15.sc := ⟨rfl, rfl, rfl, by decide +kernel, rfl, by decide +kernel, by decide +kernel⟩
theorem nb15 : ∀ x ∈ fn15.N, (x == ("__debug__" : Str)) = false ∧ (x == ("__classdict__" : Str)) = false := by decide +kernel
theorem sc16 : FnScope fn16.N fn16.ps fn16.sc := ⟨rfl, rfl, rfl, by decide +kernel, rfl, by decide +kernel, by decide +kernel⟩
theorem nb16 : ∀ x ∈ fn16.N, (x == ("__debug__" : Str)) = false ∧ (x == ("__classdict__" : Str)) = false := by decide +kernel
theorem sc17 : FnScope fn17.N fn17.ps fn17.sc := ⟨rfl, rfl, rfl, by decide +kernel, rfl, by decide +kernel, by decide +kernel⟩
theorem nb17 : ∀ x ∈ fn17.N, (x == ("__debug__" : Str)) = false ∧ (x == ("__classdict__" : Str)) = false := by decide +kernel
theorem sc18 : FnScope fn18.N fn18.ps fn18.sc := ⟨rfl, rfl, rfl, by decide +kernel, rfl, by decide +kernel, by decide +kernel⟩
theorem nb18 : ∀ x ∈ fn18.N, (x == ("__debug__" : Str)) = false ∧ (x == ("__classdict__" : Str)) = false := by decide +kernel
theorem sc19 : FnScope fn19.N fn19.ps fn19.sc := ⟨rfl, rfl, rfl, by decide +kernel, rfl, by decide +kernel, by decide +kernel⟩
theorem nb19 : ∀ x ∈ fn19.N, (x == ("__debug__" : Str)) = false ∧ (x == ("__classdict__" : Str)) = false := by decide +kernel
theorem sc20 : FnScope fn20.N fn20.ps fn20.sc := ⟨rfl, rfl, rfl, by decide +kernel, rfl, by decide +kernel, by decide +kernel⟩
theorem nb20 : ∀ x ∈ fn20.N, (x == ("__debug__" : Str)) = false ∧ (x == ("__classdict__" : Str)) = false := by decide +kernel
theorem sc21 : FnScope fn21.N fn21.ps fn21.sc := ⟨rfl, rfl, rfl, by decide +kernel, rfl, by decide +kernel, by decide +kernel⟩
theorem nb21 : ∀ x ∈ fn21.N, (x == ("__debug__" : Str)) = false ∧ (x == ("__classdict__" : Str)) = false := by decide +kernel
theorem sc22 : FnScope fn22.N fn22.ps fn22.sc := ⟨rfl, rfl, rfl, by decide +kernel, rfl, by decide +kernel, by decide +kernel⟩
theorem nb22 : ∀ x ∈ fn22.N, (x == ("__debug__" : Str)) = false ∧ (x == ("__classdict__" : Str)) = false := by decide +kernel
set_option maxHeartbeats 4000000 in
theorem all_mk {w : World} {K : PySem.W.Frag} {h : Heap} {mg : Str → Option Value} {fa0 : Addr} (X : K.In h) (G : h.Ns mainGlobals mg) (hfa : mg "law" = some (.ref fa0))
    {f0 f1 f2 f3 f4 f5 f6 f7 f8 f9 f10 f11 f12 f13 f14 f15 f16 f17 f18 f19 f20 f21 f22 C0 C1 C2 C3 C4 e1 ca1 cc1 wN1 ta1 ta2 ta3 : Addr} {oc0 kV0 dc0 pm0 cd0 ct0 oc1 kV1 dc1 pm1 cd1 ct1 oc2 kV2 dc2 pm2 cd2 ct2 oc3 kV3 dc3 pm3 cd3 ct3 oc4 kV4 dc4 pm4 cd4 ct4 oc5 kV5 dc5 pm5 cd5 ct5 oc6 kV6 dc6 pm6 cd6 ct6 oc7 kV7 dc7 pm7 cd7 ct7 oc8 kV8 dc8 pm8 cd8 ct8 oc9 kV9 dc9 pm9 cd9 ct9 oc10 kV10 dc10 pm10 cd10 ct10 oc11 kV11 dc11 pm11 cd11 ct11 oc12 kV12 dc12 pm12 cd12 ct12 oc13 kV13 dc13 pm13 cd13 ct13 oc14 kV14 dc14 pm14 cd14 ct14 oc15 kV15 dc15 pm15 cd15 ct15 oc16 kV16 dc16 pm16 cd16 ct16 oc17 kV17 dc17 pm17 cd17 ct17 oc18 kV18 dc18 pm18 cd18 ct18 oc19 kV19 dc19 pm19 cd19 ct19 oc20 kV20 dc20 pm20 cd20 ct20 oc21 kV21 dc21 pm21 cd21 ct21 oc22 kV22 dc22 pm22 cd22 ct22 xo1 xk1 xd1 xm1 xt1 xa1 xb1 : Value} {od0 an0 od1 an1 od2 an2 od3 an3 od4 an4 od5 an5 od6 an6 od7 an7 od8 an8 od9 an9 od10 an10 od11 an11 od12 an12 od13 an13 od14 an14 od15 an15 od16 an16 od17 an17 od18 an18 od19 an19 od20 an20 od21 an21 od22 an22 yp1 ya1 yd1 ye1 wd1 to1 to2 to3 : Option Addr} {sl0 sl1 sl2 sl3 sl4 sl5 sl6 sl7 sl8 sl9 sl10 sl11 sl12 sl13 sl14 sl15 sl16 sl17 sl18 sl19 sl20 sl21 sl22 zs1 zu1 zt1 tz1 tz2 tz3 : Array (Option Value)} {uv1 ti1 ti2 ti3 : Array Value} {uf1 tk0 tk1_0 tk2_0 tk3_0 : Tok} {wb1 wu1 : List Value} {wn1 wq1 : Str} {ws1 : List Str} {wa1 : Bool} {wc1 : Option Bool} {w01 w11 w21 w31 w51 : Option Value} {tn1 tn2 tn3 : Nat}
    (u_A0 : PySem.W.nsIn K mainGlobals "HouseError" = some (some (.ref C0)))
    (u_A1 : PySem.W.nsIn K mainGlobals "TypeProblem" = some (some (.ref C1)))
    (u_A2 : PySem.W.nsIn K mainGlobals "Tired" = some (some (.ref C2)))
    (u_A3 : PySem.W.nsIn K mainGlobals "Caster" = some (some (.ref C3)))
    (u_A4 : PySem.W.nsIn K mainGlobals "CastRun" = some (some (.ref C4)))
    (u_a0 : PySem.W.nsIn K mainGlobals "reckon" = some (some (.ref f0)))
    (u_l0 : K.lookup f0 = some ⟨oc0, od0, .func (PySem.W.fnOf "reckon" "reckon" (defArgs st0) (defBody st0) (defScope st0) .none kV0 dc0 pm0 an0 cd0 ct0), sl0⟩)
    (u_c0 : PySem.W.codeIn K cd0 "reckon" = true)
    (u_k0 : PySem.W.keepIn K (.ref f0) = true)
    (u_a1 : PySem.W.nsIn K mainGlobals "fits" = some (some (.ref f1)))
    (u_l1 : K.lookup f1 = some ⟨oc1, od1, .func (PySem.W.fnOf "fits" "fits" (defArgs st1) (defBody st1) (defScope st1) .none kV1 dc1 pm1 an1 cd1 ct1), sl1⟩)
    (u_c1 : PySem.W.codeIn K cd1 "fits" = true)
    (u_k1 : PySem.W.keepIn K (.ref f1) = true)
    (u_a2 : PySem.W.nsIn K mainGlobals "less_known" = some (some (.ref f2)))
    (u_l2 : K.lookup f2 = some ⟨oc2, od2, .func (PySem.W.fnOf "less_known" "less_known" (defArgs st2) (defBody st2) (defScope st2) .none kV2 dc2 pm2 an2 cd2 ct2), sl2⟩)
    (u_c2 : PySem.W.codeIn K cd2 "less_known" = true)
    (u_k2 : PySem.W.keepIn K (.ref f2) = true)
    (u_a3 : PySem.W.nsIn K mainGlobals "common" = some (some (.ref f3)))
    (u_l3 : K.lookup f3 = some ⟨oc3, od3, .func (PySem.W.fnOf "common" "common" (defArgs st3) (defBody st3) (defScope st3) .none kV3 dc3 pm3 an3 cd3 ct3), sl3⟩)
    (u_c3 : PySem.W.codeIn K cd3 "common" = true)
    (u_k3 : PySem.W.keepIn K (.ref f3) = true)
    (u_a4 : PySem.W.findIn K (.ref C3) "cast" = some (some (.ref f4)))
    (u_i4 : PySem.W.isFn K (.ref f4) = true)
    (u_l4 : K.lookup f4 = some ⟨oc4, od4, .func (PySem.W.fnOf "cast" "Caster.cast" (defArgs st4) (defBody st4) (defScope st4) .none kV4 dc4 pm4 an4 cd4 ct4), sl4⟩)
    (u_c4 : PySem.W.codeIn K cd4 "Caster.cast" = true)
    (u_k4 : PySem.W.keepIn K (.ref f4) = true)
    (u_a5 : PySem.W.findIn K (.ref C3) "find" = some (some (.ref f5)))
    (u_i5 : PySem.W.isFn K (.ref f5) = true)
    (u_l5 : K.lookup f5 = some ⟨oc5, od5, .func (PySem.W.fnOf "find" "Caster.find" (defArgs st5) (defBody st5) (defScope st5) .none kV5 dc5 pm5 an5 cd5 ct5), sl5⟩)
    (u_c5 : PySem.W.codeIn K cd5 "Caster.find" = true)
    (u_k5 : PySem.W.keepIn K (.ref f5) = true)
    (u_a6 : PySem.W.findIn K (.ref C3) "whole" = some (some (.ref f6)))
    (u_i6 : PySem.W.isFn K (.ref f6) = true)
    (u_l6 : K.lookup f6 = some ⟨oc6, od6, .func (PySem.W.fnOf "whole" "Caster.whole" (defArgs st6) (defBody st6) (defScope st6) .none kV6 dc6 pm6 an6 cd6 ct6), sl6⟩)
    (u_c6 : PySem.W.codeIn K cd6 "Caster.whole" = true)
    (u_k6 : PySem.W.keepIn K (.ref f6) = true)
    (u_a7 : PySem.W.nsIn K mainGlobals "with_casts" = some (some (.ref f7)))
    (u_l7 : K.lookup f7 = some ⟨oc7, od7, .func (PySem.W.fnOf "with_casts" "with_casts" (defArgs st7) (defBody st7) (defScope st7) .none kV7 dc7 pm7 an7 cd7 ct7), sl7⟩)
    (u_c7 : PySem.W.codeIn K cd7 "with_casts" = true)
    (u_k7 : PySem.W.keepIn K (.ref f7) = true)
    (u_a8 : PySem.W.findIn K (.ref C4) "__init__" = some (some (.ref f8)))
    (u_i8 : PySem.W.isFn K (.ref f8) = true)
    (u_l8 : K.lookup f8 = some ⟨oc8, od8, .func (PySem.W.fnOf "__init__" "CastRun.__init__" (defArgs st8) (defBody st8) (defScope st8) .none kV8 dc8 pm8 an8 cd8 ct8), sl8⟩)
    (u_c8 : PySem.W.codeIn K cd8 "CastRun.__init__" = true)
    (u_k8 : PySem.W.keepIn K (.ref f8) = true)
    (u_a9 : PySem.W.findIn K (.ref C4) "run" = some (some (.ref f9)))
    (u_i9 : PySem.W.isFn K (.ref f9) = true)
    (u_l9 : K.lookup f9 = some ⟨oc9, od9, .func (PySem.W.fnOf "run" "CastRun.run" (defArgs st9) (defBody st9) (defScope st9) .none kV9 dc9 pm9 an9 cd9 ct9), sl9⟩)
    (u_c9 : PySem.W.codeIn K cd9 "CastRun.run" = true)
    (u_k9 : PySem.W.keepIn K (.ref f9) = true)
    (u_a10 : PySem.W.findIn K (.ref C4) "called" = some (some (.ref f10)))
    (u_i10 : PySem.W.isFn K (.ref f10) = true)
    (u_l10 : K.lookup f10 = some ⟨oc10, od10, .func (PySem.W.fnOf "called" "CastRun.called" (defArgs st10) (defBody st10) (defScope st10) .none kV10 dc10 pm10 an10 cd10 ct10), sl10⟩)
    (u_c10 : PySem.W.codeIn K cd10 "CastRun.called" = true)
    (u_k10 : PySem.W.keepIn K (.ref f10) = true)
    (u_a11 : PySem.W.findIn K (.ref C4) "changed" = some (some (.ref f11)))
    (u_i11 : PySem.W.isFn K (.ref f11) = true)
    (u_l11 : K.lookup f11 = some ⟨oc11, od11, .func (PySem.W.fnOf "changed" "CastRun.changed" (defArgs st11) (defBody st11) (defScope st11) .none kV11 dc11 pm11 an11 cd11 ct11), sl11⟩)
    (u_c11 : PySem.W.codeIn K cd11 "CastRun.changed" = true)
    (u_k11 : PySem.W.keepIn K (.ref f11) = true)
    (u_a12 : PySem.W.nsIn K mainGlobals "shown_cast" = some (some (.ref f12)))
    (u_l12 : K.lookup f12 = some ⟨oc12, od12, .func (PySem.W.fnOf "shown_cast" "shown_cast" (defArgs st12) (defBody st12) (defScope st12) .none kV12 dc12 pm12 an12 cd12 ct12), sl12⟩)
    (u_c12 : PySem.W.codeIn K cd12 "shown_cast" = true)
    (u_k12 : PySem.W.keepIn K (.ref f12) = true)
    (u_a13 : PySem.W.nsIn K mainGlobals "run_casts" = some (some (.ref f13)))
    (u_l13 : K.lookup f13 = some ⟨oc13, od13, .func (PySem.W.fnOf "run_casts" "run_casts" (defArgs st13) (defBody st13) (defScope st13) .none kV13 dc13 pm13 an13 cd13 ct13), sl13⟩)
    (u_c13 : PySem.W.codeIn K cd13 "run_casts" = true)
    (u_k13 : PySem.W.keepIn K (.ref f13) = true)
    (u_a14 : PySem.W.nsIn K mainGlobals "_law_tape" = some (some (.ref f14)))
    (u_l14 : K.lookup f14 = some ⟨oc14, od14, .func (PySem.W.fnOf "_law_tape" "_law_tape" (defArgs st14) (defBody st14) (defScope st14) .none kV14 dc14 pm14 an14 cd14 ct14), sl14⟩)
    (u_c14 : PySem.W.codeIn K cd14 "_law_tape" = true)
    (u_k14 : PySem.W.keepIn K (.ref f14) = true)
    (u_a15 : PySem.W.nsIn K mainGlobals "_law_take" = some (some (.ref f15)))
    (u_l15 : K.lookup f15 = some ⟨oc15, od15, .func (PySem.W.fnOf "_law_take" "_law_take" (defArgs st15) (defBody st15) (defScope st15) .none kV15 dc15 pm15 an15 cd15 ct15), sl15⟩)
    (u_c15 : PySem.W.codeIn K cd15 "_law_take" = true)
    (u_k15 : PySem.W.keepIn K (.ref f15) = true)
    (u_a16 : PySem.W.nsIn K mainGlobals "_law_kind" = some (some (.ref f16)))
    (u_l16 : K.lookup f16 = some ⟨oc16, od16, .func (PySem.W.fnOf "_law_kind" "_law_kind" (defArgs st16) (defBody st16) (defScope st16) .none kV16 dc16 pm16 an16 cd16 ct16), sl16⟩)
    (u_c16 : PySem.W.codeIn K cd16 "_law_kind" = true)
    (u_k16 : PySem.W.keepIn K (.ref f16) = true)
    (u_a17 : PySem.W.nsIn K mainGlobals "_law_program" = some (some (.ref f17)))
    (u_l17 : K.lookup f17 = some ⟨oc17, od17, .func (PySem.W.fnOf "_law_program" "_law_program" (defArgs st17) (defBody st17) (defScope st17) .none kV17 dc17 pm17 an17 cd17 ct17), sl17⟩)
    (u_c17 : PySem.W.codeIn K cd17 "_law_program" = true)
    (u_k17 : PySem.W.keepIn K (.ref f17) = true)
    (u_a18 : PySem.W.nsIn K mainGlobals "_law_static" = some (some (.ref f18)))
    (u_l18 : K.lookup f18 = some ⟨oc18, od18, .func (PySem.W.fnOf "_law_static" "_law_static" (defArgs st18) (defBody st18) (defScope st18) .none kV18 dc18 pm18 an18 cd18 ct18), sl18⟩)
    (u_c18 : PySem.W.codeIn K cd18 "_law_static" = true)
    (u_k18 : PySem.W.keepIn K (.ref f18) = true)
    (u_a19 : PySem.W.nsIn K mainGlobals "_law_forgotten" = some (some (.ref f19)))
    (u_l19 : K.lookup f19 = some ⟨oc19, od19, .func (PySem.W.fnOf "_law_forgotten" "_law_forgotten" (defArgs st19) (defBody st19) (defScope st19) .none kV19 dc19 pm19 an19 cd19 ct19), sl19⟩)
    (u_c19 : PySem.W.codeIn K cd19 "_law_forgotten" = true)
    (u_k19 : PySem.W.keepIn K (.ref f19) = true)
    (u_a20 : PySem.W.nsIn K mainGlobals "_law_used" = some (some (.ref f20)))
    (u_l20 : K.lookup f20 = some ⟨oc20, od20, .func (PySem.W.fnOf "_law_used" "_law_used" (defArgs st20) (defBody st20) (defScope st20) .none kV20 dc20 pm20 an20 cd20 ct20), sl20⟩)
    (u_c20 : PySem.W.codeIn K cd20 "_law_used" = true)
    (u_k20 : PySem.W.keepIn K (.ref f20) = true)
    (u_a21 : PySem.W.nsIn K mainGlobals "_law_labels" = some (some (.ref f21)))
    (u_l21 : K.lookup f21 = some ⟨oc21, od21, .func (PySem.W.fnOf "_law_labels" "_law_labels" (defArgs st21) (defBody st21) (defScope st21) .none kV21 dc21 pm21 an21 cd21 ct21), sl21⟩)
    (u_c21 : PySem.W.codeIn K cd21 "_law_labels" = true)
    (u_k21 : PySem.W.keepIn K (.ref f21) = true)
    (u_a22 : PySem.W.nsIn K mainGlobals "law" = some (some (.ref f22)))
    (u_l22 : K.lookup f22 = some ⟨oc22, od22, .func (PySem.W.fnOf "law" "law" (defArgs st22) (defBody st22) (defScope st22) .none kV22 dc22 pm22 an22 cd22 ct22), sl22⟩)
    (u_c22 : PySem.W.codeIn K cd22 "law" = true)
    (u_k22 : PySem.W.keepIn K (.ref f22) = true)
    (u_K0 : PySem.W.keepIn K (.ref C0) = true)
    (u_B0 : PySem.W.subIn K (.ref C0) (.type "BaseException") = some true)
    (u_T0 : PySem.W.typeIn K (.ref C0) = some (.type "type"))
    (u_E0 : PySem.W.excIn K C0 [.type "ValueError", .type "Exception", .type "BaseException", .type "object"] "ValueError.__new__" = true)
    (u_K1 : PySem.W.keepIn K (.ref C1) = true)
    (u_B1 : PySem.W.subIn K (.ref C1) (.type "BaseException") = some true)
    (u_T1 : PySem.W.typeIn K (.ref C1) = some (.type "type"))
    (u_Xa1 : PySem.W.findIn K (.ref C1) "__getattribute__" = some (some (.builtin "BaseException.__getattribute__")))
    (u_Xb1 : PySem.W.findIn K (.ref C1) "__getattr__" = some none)
    (u_Xc1 : PySem.W.hasDictIn K C1 = true)
    (u_n1_0 : PySem.W.findIn K (.ref C1) "code" = some none)
    (u_n1_1 : PySem.W.findIn K (.ref C1) "path" = some none)
    (u_I1 : PySem.W.findIn K (.ref C1) "__init__" = some (some (.ref e1)))
    (u_J1 : PySem.W.typeIn K (.ref e1) = some (.type "function"))
    (u_S1 : PySem.W.findIn K (.ref C1) "__setattr__" = some (some (.builtin "object.__setattr__")))
    (u_V1 : PySem.W.subIn K (.ref C1) (.type "ValueError") = some true)
    (u_W1 : PySem.W.subIn K (.ref C1) (.ref C1) = some true)
    (u_U1 : PySem.W.ks_superIn K C1 C1 "__init__" = some (some (.builtin "ValueError.__init__")))
    (u_O1 : PySem.W.nsIn K cStatics "thirdparty.any" = some none)
    (u_Y1 : PySem.W.nsIn K mainGlobals "super" = some none)
    (u_L1 : K.lookup e1 = some ⟨xo1, yp1, .func (PySem.W.ksFn "__init__" "TypeProblem.__init__" (defArgs (inClass (top 2) 0)) (defBody (inClass (top 2) 0)) (defScope (inClass (top 2) 0)) .none xk1 xd1 xm1 ya1 (.ref ca1) xt1 cc1), zs1⟩)
    (u_D1 : PySem.W.codeIn K (.ref ca1) "TypeProblem.__init__" = true)
    (u_P1 : K.lookup ca1 = some ⟨xa1, yd1, .fields uv1, zu1⟩)
    (u_p1 : K.lookup cc1 = some ⟨xb1, ye1, .cell (some (.ref C1)), zt1⟩)
    (u_Q1 : uv1[2]? = some (.str (PySem.Challenge.pw_effecthouse_k44_whole_casts_there_and_ba).main.file uf1))
    (u_N1 : K.lookup C1 = some (PySem.excClassObj wn1 wq1 C1 wN1 wb1 [.ref C0, .type "ValueError", .type "Exception", .type "BaseException", .type "object"] true ws1 wu1 wa1 wc1 wd1 w01 w11 w21 w31 w51 "ValueError.__new__"))
    (u_K2 : PySem.W.keepIn K (.ref C2) = true)
    (u_B2 : PySem.W.subIn K (.ref C2) (.type "BaseException") = some true)
    (u_T2 : PySem.W.typeIn K (.ref C2) = some (.type "type"))
    (u_E2 : PySem.W.excIn K C2 [.type "ValueError", .type "Exception", .type "BaseException", .type "object"] "ValueError.__new__" = true)
    (u_K3 : PySem.W.keepIn K (.ref C3) = true)
    (u_pg3 : PySem.W.plainGet K C3 Str.empty = true)
    (u_hd3 : PySem.W.hasDictIn K C3 = true)
    (u_po3 : PySem.W.plainOver K C3 = true)
    (u_sa3 : PySem.W.findIn K (.ref C3) "__setattr__" = some (some (.builtin "object.__setattr__")))
    (u_mk3 : PySem.W.makesIn K C3 = true)
    (u_bi3 : PySem.W.findIn K (.ref C3) "__init__" = some (some (.builtin "object.__init__")))
    (u_K4 : PySem.W.keepIn K (.ref C4) = true)
    (u_pg4 : PySem.W.plainGet K C4 Str.empty = true)
    (u_hd4 : PySem.W.hasDictIn K C4 = true)
    (u_po4 : PySem.W.plainOver K C4 = true)
    (u_sa4 : PySem.W.findIn K (.ref C4) "__setattr__" = some (some (.builtin "object.__setattr__")))
    (u_mk4 : PySem.W.makesIn K C4 = true)
    (u_n4_0 : PySem.W.findIn K (.ref C4) "fuel" = some none)
    (u_R0 : PySem.W.isClsIn K C0 = true)
    (u_s0_0 : PySem.W.subIn K (.ref C0) (.ref C0) = some true)
    (u_s0_1 : PySem.W.subIn K (.ref C0) (.ref C1) = some false)
    (u_s0_2 : PySem.W.subIn K (.ref C0) (.ref C2) = some false)
    (u_R1 : PySem.W.isClsIn K C1 = true)
    (u_s1_0 : PySem.W.subIn K (.ref C1) (.ref C0) = some true)
    (u_s1_1 : PySem.W.subIn K (.ref C1) (.ref C1) = some true)
    (u_s1_2 : PySem.W.subIn K (.ref C1) (.ref C2) = some false)
    (u_R2 : PySem.W.isClsIn K C2 = true)
    (u_s2_0 : PySem.W.subIn K (.ref C2) (.ref C0) = some true)
    (u_s2_1 : PySem.W.subIn K (.ref C2) (.ref C1) = some false)
    (u_s2_2 : PySem.W.subIn K (.ref C2) (.ref C2) = some true)
    (u_z0 : PySem.W.nsIn K mainGlobals "range" = some none)
    (u_z1 : PySem.W.nsIn K mainGlobals "enumerate" = some none)
    (u_z2 : PySem.W.nsIn K mainGlobals "isinstance" = some none)
    (u_z3 : PySem.W.nsIn K mainGlobals "abs" = some none)
    (u_z4 : PySem.W.nsIn K mainGlobals "int" = some none)
    (u_z5 : PySem.W.nsIn K mainGlobals "max" = some none)
    (u_z6 : PySem.W.nsIn K mainGlobals "min" = some none)
    (u_z7 : PySem.W.nsIn K mainGlobals "len" = some none)
    (u_z8 : PySem.W.nsIn K mainGlobals "any" = some none)
    (u_z9 : PySem.W.nsIn K mainGlobals "all" = some none)
    (u_z10 : PySem.W.nsIn K mainGlobals "tuple" = some none)
    (u_z11 : PySem.W.nsIn K mainGlobals "list" = some none)
    (u_z12 : PySem.W.nsIn K mainGlobals "dict" = some none)
    (u_z13 : PySem.W.nsIn K mainGlobals "bool" = some none)
    (u_z14 : PySem.W.nsIn K mainGlobals "str" = some none)
    (u_g0 : PySem.W.nsIn K mainGlobals "WHOLE" = some (some (.int 4294967296 tk0)))
    (u_g1 : PySem.W.nsIn K mainGlobals "ANY" = some (some (.ref ta1)))
    (u_v1 : K.lookup ta1 = some ⟨.type "tuple", to1, .seq ti1 tn1, tz1⟩)
    (u_vv1 : ti1 = #[.str "any" tk1_0])
    (u_g2 : PySem.W.nsIn K mainGlobals "INT" = some (some (.ref ta2)))
    (u_v2 : K.lookup ta2 = some ⟨.type "tuple", to2, .seq ti2 tn2, tz2⟩)
    (u_vv2 : ti2 = #[.str "int" tk2_0])
    (u_g3 : PySem.W.nsIn K mainGlobals "BOOL" = some (some (.ref ta3)))
    (u_v3 : K.lookup ta3 = some ⟨.type "tuple", to3, .seq ti3 tn3, tz3⟩)
    (u_vv3 : ti3 = #[.str "bool" tk3_0])
    : ∃ fd : FuncData, (∀ (s : Shared) (v : Value), BindsTo s fd ⟨[v], []⟩ [("script", v)]) ∧ ∀ base : Heap, K.In base → base.Ns mainGlobals mg → FnOk PySem.Challenge.pw_effecthouse_k44_whole_casts_there_and_ba w K mg base (L2.CX PySem.Challenge.pw_effecthouse_k44_whole_casts_there_and_ba w) (210 + 2) fa0 fd ["script"] (spL tab K 210 i_law) := by
  have e : f22 = fa0 := Value.ref.inj (Option.some.inj ((PySem.W.mg_of X G u_a22).symm.trans hfa))
  subst e
  have F0 := fun_mk (st := st0) u_l0 u_c0 u_k0
  have b0 := F0.binds (ps := fn0.ps) fun _ _ _ _ _ _ us hl => match us, hl with | [_, _, _], _ => rfl
  have F1 := fun_mk (st := st1) u_l1 u_c1 u_k1
  have b1 := F1.binds (ps := fn1.ps) fun _ _ _ _ _ _ us hl => match us, hl with | [_, _], _ => rfl
  have F2 := fun_mk (st := st2) u_l2 u_c2 u_k2
  have b2 := F2.binds (ps := fn2.ps) fun _ _ _ _ _ _ us hl => match us, hl with | [_, _], _ => rfl
  have F3 := fun_mk (st := st3) u_l3 u_c3 u_k3
  have b3 := F3.binds (ps := fn3.ps) fun _ _ _ _ _ _ us hl => match us, hl with | [_, _], _ => rfl
  have F4 := fun_mk (st := st4) u_l4 u_c4 u_k4
  have b4 := F4.binds (ps := fn4.ps) fun _ _ _ _ _ _ us hl => match us, hl with | [_, _, _, _, _], _ => rfl
  have F5 := fun_mk (st := st5) u_l5 u_c5 u_k5
  have b5 := F5.binds (ps := fn5.ps) fun _ _ _ _ _ _ us hl => match us, hl with | [_, _, _, _], _ => rfl
  have F6 := fun_mk (st := st6) u_l6 u_c6 u_k6
  have b6 := F6.binds (ps := fn6.ps) fun _ _ _ _ _ _ us hl => match us, hl with | [_, _, _, _], _ => rfl
  have F7 := fun_mk (st := st7) u_l7 u_c7 u_k7
  have b7 := F7.binds (ps := fn7.ps) fun _ _ _ _ _ _ us hl => match us, hl with | [_], _ => rfl
  have F8 := fun_mk (st := st8) u_l8 u_c8 u_k8
  have b8 := F8.binds (ps := fn8.ps) fun _ _ _ _ _ _ us hl => match us, hl with | [_, _], _ => rfl
  have F9 := fun_mk (st := st9) u_l9 u_c9 u_k9
  have b9 := F9.binds (ps := fn9.ps) fun _ _ _ _ _ _ us hl => match us, hl with | [_, _, _], _ => rfl
  have F10 := fun_mk (st := st10) u_l10 u_c10 u_k10
  have b10 := F10.binds (ps := fn10.ps) fun _ _ _ _ _ _ us hl => match us, hl with | [_, _, _], _ => rfl
  have F11 := fun_mk (st := st11) u_l11 u_c11 u_k11
  have b11 := F11.binds (ps := fn11.ps) fun _ _ _ _ _ _ us hl => match us, hl with | [_, _, _, _, _], _ => rfl
  have F12 := fun_mk (st := st12) u_l12 u_c12 u_k12
  have b12 := F12.binds (ps := fn12.ps) fun _ _ _ _ _ _ us hl => match us, hl with | [_], _ => rfl
  have F13 := fun_mk (st := st13) u_l13 u_c13 u_k13
  have b13 := F13.binds (ps := fn13.ps) fun _ _ _ _ _ _ us hl => match us, hl with | [_, _], _ => rfl
  have F14 := fun_mk (st := st14) u_l14 u_c14 u_k14
  have b14 := F14.binds (ps := fn14.ps) fun _ _ _ _ _ _ us hl => match us, hl with | [_], _ => rfl
  have F15 := fun_mk (st := st15) u_l15 u_c15 u_k15
  have b15 := F15.binds (ps := fn15.ps) fun _ _ _ _ _ _ us hl => match us, hl with | [_, _], _ => rfl
  have F16 := fun_mk (st := st16) u_l16 u_c16 u_k16
  have b16 := F16.binds (ps := fn16.ps) fun _ _ _ _ _ _ us hl => match us, hl with | [_, _], _ => rfl
  have F17 := fun_mk (st := st17) u_l17 u_c17 u_k17
  have b17 := F17.binds (ps := fn17.ps) fun _ _ _ _ _ _ us hl => match us, hl with | [_, _, _], _ => rfl
  have F18 := fun_mk (st := st18) u_l18 u_c18 u_k18
  have b18 := F18.binds (ps := fn18.ps) fun _ _ _ _ _ _ us hl => match us, hl with | [_, _, _, _], _ => rfl
  have F19 := fun_mk (st := st19) u_l19 u_c19 u_k19
  have b19 := F19.binds (ps := fn19.ps) fun _ _ _ _ _ _ us hl => match us, hl with | [_, _], _ => rfl
  have F20 := fun_mk (st := st20) u_l20 u_c20 u_k20
  have b20 := F20.binds (ps := fn20.ps) fun _ _ _ _ _ _ us hl => match us, hl with | [_, _], _ => rfl
  have F21 := fun_mk (st := st21) u_l21 u_c21 u_k21
  have b21 := F21.binds (ps := fn21.ps) fun _ _ _ _ _ _ us hl => match us, hl with | [_], _ => rfl
  have F22 := fun_mk (st := st22) u_l22 u_c22 u_k22
  have b22 := F22.binds (ps := fn22.ps) fun _ _ _ _ _ _ us hl => match us, hl with | [_], _ => rfl
  refine ⟨PySem.W.fnOf "law" "law" (defArgs st22) (defBody st22) (defScope st22) .none kV22 dc22 pm22 an22 cd22 ct22, fun s v => .of_eq rfl, fun base KB GB => ?_⟩
  have M : ModOk tab PySem.Challenge.pw_effecthouse_k44_whole_casts_there_and_ba w K mg base (fun i => ([C0, C1, C2, C3, C4] : List Addr).getD i 0) (fun i => ([f0, f1, f2, f3, f4, f5, f6, f7, f8, f9, f10, f11, f12, f13, f14, f15, f16, f17, f18, f19, f20, f21, f22] : List Addr).getD i 0) (fun i => ([PySem.W.fnOf "reckon" "reckon" (defArgs st0) (defBody st0) (defScope st0) .none kV0 dc0 pm0 an0 cd0 ct0, PySem.W.fnOf "fits" "fits" (defArgs st1) (defBody st1) (defScope st1) .none kV1 dc1 pm1 an1 cd1 ct1, PySem.W.fnOf "less_known" "less_known" (defArgs st2) (defBody st2) (defScope st2) .none kV2 dc2 pm2 an2 cd2 ct2, PySem.W.fnOf "common" "common" (defArgs st3) (defBody st3) (defScope st3) .none kV3 dc3 pm3 an3 cd3 ct3, PySem.W.fnOf "cast" "Caster.cast" (defArgs st4) (defBody st4) (defScope st4) .none kV4 dc4 pm4 an4 cd4 ct4, PySem.W.fnOf "find" "Caster.find" (defArgs st5) (defBody st5) (defScope st5) .none kV5 dc5 pm5 an5 cd5 ct5, PySem.W.fnOf "whole" "Caster.whole" (defArgs st6) (defBody st6) (defScope st6) .none kV6 dc6 pm6 an6 cd6 ct6, PySem.W.fnOf "with_casts" "with_casts" (defArgs st7) (defBody st7) (defScope st7) .none kV7 dc7 pm7 an7 cd7 ct7, PySem.W.fnOf "__init__" "CastRun.__init__" (defArgs st8) (defBody st8) (defScope st8) .none kV8 dc8 pm8 an8 cd8 ct8, PySem.W.fnOf "run" "CastRun.run" (defArgs st9) (defBody st9) (defScope st9) .none kV9 dc9 pm9 an9 cd9 ct9, PySem.W.fnOf "called" "CastRun.called" (defArgs st10) (defBody st10) (defScope st10) .none kV10 dc10 pm10 an10 cd10 ct10, PySem.W.fnOf "changed" "CastRun.changed" (defArgs st11) (defBody st11) (defScope st11) .none kV11 dc11 pm11 an11 cd11 ct11, PySem.W.fnOf "shown_cast" "shown_cast" (defArgs st12) (defBody st12) (defScope st12) .none kV12 dc12 pm12 an12 cd12 ct12, PySem.W.fnOf "run_casts" "run_casts" (defArgs st13) (defBody st13) (defScope st13) .none kV13 dc13 pm13 an13 cd13 ct13, PySem.W.fnOf "_law_tape" "_law_tape" (defArgs st14) (defBody st14) (defScope st14) .none kV14 dc14 pm14 an14 cd14 ct14, PySem.W.fnOf "_law_take" "_law_take" (defArgs st15) (defBody st15) (defScope st15) .none kV15 dc15 pm15 an15 cd15 ct15, PySem.W.fnOf "_law_kind" "_law_kind" (defArgs st16) (defBody st16) (defScope st16) .none kV16 dc16 pm16 an16 cd16 ct16, PySem.W.fnOf "_law_program" "_law_program" (defArgs st17) (defBody st17) (defScope st17) .none kV17 dc17 pm17 an17 cd17 ct17, PySem.W.fnOf "_law_static" "_law_static" (defArgs st18) (defBody st18) (defScope st18) .none kV18 dc18 pm18 an18 cd18 ct18, PySem.W.fnOf "_law_forgotten" "_law_forgotten" (defArgs st19) (defBody st19) (defScope st19) .none kV19 dc19 pm19 an19 cd19 ct19, PySem.W.fnOf "_law_used" "_law_used" (defArgs st20) (defBody st20) (defScope st20) .none kV20 dc20 pm20 an20 cd20 ct20, PySem.W.fnOf "_law_labels" "_law_labels" (defArgs st21) (defBody st21) (defScope st21) .none kV21 dc21 pm21 an21 cd21 ct21, PySem.W.fnOf "law" "law" (defArgs st22) (defBody st22) (defScope st22) .none kV22 dc22 pm22 an22 cd22 ct22] : List FuncData).getD i (PySem.W.fnOf "law" "law" (defArgs st22) (defBody st22) (defScope st22) .none kV22 dc22 pm22 an22 cd22 ct22)) := by
    refine ModOk.of [0, 1, 2] ?gl ?fs ?cs ?zs ?xl ?sb
    case gl => exact ⟨PySem.W.mg_of KB GB u_A0, PySem.W.mg_of KB GB u_A1, PySem.W.mg_of KB GB u_A2, ⟨_, .int 4294967296, PySem.W.mg_of KB GB u_g0, ⟨_, rfl⟩, fun _ _ => .int _⟩, ⟨PySem.W.mg_of KB GB u_a0, _, rfl⟩, ⟨_, .ref _, PySem.W.mg_of KB GB u_g1, rfl, fun _ _ => .tup (Or.inr ⟨_, _, _, u_v1, rfl, rfl, (by rw [u_vv1]; exact (show 1 ≤ sizeLine by decide)), (by rw [u_vv1]; exact (.cons ⟨_, rfl⟩ .nil))⟩) (.cons (.str _) .nil)⟩, ⟨_, .ref _, PySem.W.mg_of KB GB u_g2, rfl, fun _ _ => .tup (Or.inr ⟨_, _, _, u_v2, rfl, rfl, (by rw [u_vv2]; exact (show 1 ≤ sizeLine by decide)), (by rw [u_vv2]; exact (.cons ⟨_, rfl⟩ .nil))⟩) (.cons (.str _) .nil)⟩, ⟨_, .ref _, PySem.W.mg_of KB GB u_g3, rfl, fun _ _ => .tup (Or.inr ⟨_, _, _, u_v3, rfl, rfl, (by rw [u_vv3]; exact (show 1 ≤ sizeLine by decide)), (by rw [u_vv3]; exact (.cons ⟨_, rfl⟩ .nil))⟩) (.cons (.str _) .nil)⟩, ⟨PySem.W.mg_of KB GB u_a1, _, rfl⟩, ⟨PySem.W.mg_of KB GB u_a2, _, rfl⟩, ⟨PySem.W.mg_of KB GB u_a3, _, rfl⟩, PySem.W.mg_of KB GB u_A3, ⟨PySem.W.mg_of KB GB u_a7, _, rfl⟩, PySem.W.mg_of KB GB u_A4, ⟨PySem.W.mg_of KB GB u_a12, _, rfl⟩, ⟨PySem.W.mg_of KB GB u_a13, _, rfl⟩, ⟨PySem.W.mg_of KB GB u_a14, _, rfl⟩, ⟨PySem.W.mg_of KB GB u_a15, _, rfl⟩, ⟨PySem.W.mg_of KB GB u_a16, _, rfl⟩, ⟨PySem.W.mg_of KB GB u_a17, _, rfl⟩, ⟨PySem.W.mg_of KB GB u_a18, _, rfl⟩, ⟨PySem.W.mg_of KB GB u_a19, _, rfl⟩, ⟨PySem.W.mg_of KB GB u_a20, _, rfl⟩, ⟨PySem.W.mg_of KB GB u_a21, _, rfl⟩, ⟨PySem.W.mg_of KB GB u_a22, _, rfl⟩, trivial⟩
    case fs => exact ⟨⟨u_k0, ⟨_, _, st0, F0, rfl, rfl⟩, sc0, nb0, b0⟩, ⟨u_k1, ⟨_, _, st1, F1, rfl, rfl⟩, sc1, nb1, b1⟩, ⟨u_k2, ⟨_, _, st2, F2, rfl, rfl⟩, sc2, nb2, b2⟩, ⟨u_k3, ⟨_, _, st3, F3, rfl, rfl⟩, sc3, nb3, b3⟩, ⟨u_k4, ⟨_, _, st4, F4, rfl, rfl⟩, sc4, nb4, b4⟩, ⟨u_k5, ⟨_, _, st5, F5, rfl, rfl⟩, sc5, nb5, b5⟩, ⟨u_k6, ⟨_, _, st6, F6, rfl, rfl⟩, sc6, nb6, b6⟩, ⟨u_k7, ⟨_, _, st7, F7, rfl, rfl⟩, sc7, nb7, b7⟩, ⟨u_k8, ⟨_, _, st8, F8, rfl, rfl⟩, sc8, nb8, b8⟩, ⟨u_k9, ⟨_, _, st9, F9, rfl, rfl⟩, sc9, nb9, b9⟩, ⟨u_k10, ⟨_, _, st10, F10, rfl, rfl⟩, sc10, nb10, b10⟩, ⟨u_k11, ⟨_, _, st11, F11, rfl, rfl⟩, sc11, nb11, b11⟩, ⟨u_k12, ⟨_, _, st12, F12, rfl, rfl⟩, sc12, nb12, b12⟩, ⟨u_k13, ⟨_, _, st13, F13, rfl, rfl⟩, sc13, nb13, b13⟩, ⟨u_k14, ⟨_, _, st14, F14, rfl, rfl⟩, sc14, nb14, b14⟩, ⟨u_k15, ⟨_, _, st15, F15, rfl, rfl⟩, sc15, nb15, b15⟩, ⟨u_k16, ⟨_, _, st16, F16, rfl, rfl⟩, sc16, nb16, b16⟩, ⟨u_k17, ⟨_, _, st17, F17, rfl, rfl⟩, sc17, nb17, b17⟩, ⟨u_k18, ⟨_, _, st18, F18, rfl, rfl⟩, sc18, nb18, b18⟩, ⟨u_k19, ⟨_, _, st19, F19, rfl, rfl⟩, sc19, nb19, b19⟩, ⟨u_k20, ⟨_, _, st20, F20, rfl, rfl⟩, sc20, nb20, b20⟩, ⟨u_k21, ⟨_, _, st21, F21, rfl, rfl⟩, sc21, nb21, b21⟩, ⟨u_k22, ⟨_, _, st22, F22, rfl, rfl⟩, sc22, nb22, b22⟩, trivial⟩
    case cs => exact ⟨{ ini := fun f e => (by cases e), ba := fun _ e => (by cases e), me := trivial, fl := trivial, cl := fun e => (by cases e), no := fun _ => ⟨rfl, rfl⟩, e1 := fun _ => ⟨u_E0, u_K0, u_B0, u_T0⟩, e2 := fun fl e => (by cases e) },
      { ini := fun f e => (by cases e), ba := fun _ e => (by cases e), me := trivial, fl := trivial, cl := fun e => (by cases e), no := fun _ => ⟨rfl, rfl⟩, e1 := fun e => (by cases e), e2 := fun fl e => (by cases e; exact ⟨rfl, ⟨e1, { cls := ⟨_, _, _, _, _, _, _, _, _, _, _, _, _, _, _, u_N1, by rfl⟩, sa := u_S1, noC := u_n1_0, noP := u_n1_1, iC := u_I1, tI := u_J1, kC := u_K1, exC := u_B1, tyC := u_T1, veC := u_V1, slf := u_W1, sup := u_U1, opq := u_O1, noS := u_Y1, top := by decide +kernel, fn := ⟨_, _, _, _, _, _, _, _, _, _, _, _, _, _, _, _, _, _, _, _, _, _, _, _, _, _, _, u_L1, u_D1, rfl, ⟨_, _, _, _, _, _, u_P1, u_Q1, by simp⟩, _, _, _, u_p1⟩ }⟩, ⟨⟨⟨u_Xa1, u_Xb1, u_B1, u_Xc1⟩, u_n1_0⟩, ⟨⟨u_Xa1, u_Xb1, u_B1, u_Xc1⟩, u_n1_1⟩, trivial⟩⟩) },
      { ini := fun f e => (by cases e), ba := fun _ e => (by cases e), me := trivial, fl := trivial, cl := fun e => (by cases e), no := fun _ => ⟨rfl, rfl⟩, e1 := fun _ => ⟨u_E2, u_K2, u_B2, u_T2⟩, e2 := fun fl e => (by cases e) },
      { ini := fun f e => (by cases e), ba := fun e _ => ⟨u_mk3, u_bi3, u_K3⟩, me := ⟨⟨⟨u_a4, u_i4, u_k4⟩, _, rfl⟩, ⟨⟨u_a5, u_i5, u_k5⟩, _, rfl⟩, ⟨⟨u_a6, u_i6, u_k6⟩, _, rfl⟩, trivial⟩, fl := trivial, cl := fun _ => ⟨u_pg3, u_hd3, u_po3, u_sa3⟩, no := fun e => absurd rfl e, e1 := fun e => (by cases e), e2 := fun fl e => (by cases e) },
      { ini := fun f e => (by cases e; exact ⟨⟨u_mk4, u_a8, u_i8, u_K4⟩, _, rfl⟩), ba := fun e _ => (by cases e), me := ⟨⟨⟨u_a9, u_i9, u_k9⟩, _, rfl⟩, ⟨⟨u_a10, u_i10, u_k10⟩, _, rfl⟩, ⟨⟨u_a11, u_i11, u_k11⟩, _, rfl⟩, trivial⟩, fl := ⟨u_n4_0, trivial⟩, cl := fun _ => ⟨u_pg4, u_hd4, u_po4, u_sa4⟩, no := fun e => absurd rfl e, e1 := fun e => (by cases e), e2 := fun fl e => (by cases e) }, trivial⟩
    case zs => exact ⟨PySem.W.mg_none_of KB GB u_z0, PySem.W.mg_none_of KB GB u_z1, PySem.W.mg_none_of KB GB u_z2, PySem.W.mg_none_of KB GB u_z3, PySem.W.mg_none_of KB GB u_z4, PySem.W.mg_none_of KB GB u_z5, PySem.W.mg_none_of KB GB u_z6, PySem.W.mg_none_of KB GB u_z7, PySem.W.mg_none_of KB GB u_z8, PySem.W.mg_none_of KB GB u_z9, PySem.W.mg_none_of KB GB u_z10, PySem.W.mg_none_of KB GB u_z11, PySem.W.mg_none_of KB GB u_z12, PySem.W.mg_none_of KB GB u_z13, PySem.W.mg_none_of KB GB u_z14, trivial⟩
    case xl => exact ⟨fun e => by decide, fun e => by decide, fun e => by decide, fun e => absurd rfl e, fun e => absurd rfl e, trivial⟩
    case sb => exact ⟨⟨exm_of u_B0 u_R0 u_T0 u_s0_0, exm_of u_B1 u_R1 u_T1 u_s0_1, exm_of u_B2 u_R2 u_T2 u_s0_2, trivial⟩, ⟨exm_of u_B0 u_R0 u_T0 u_s1_0, exm_of u_B1 u_R1 u_T1 u_s1_1, exm_of u_B2 u_R2 u_T2 u_s1_2, trivial⟩, ⟨exm_of u_B0 u_R0 u_T0 u_s2_0, exm_of u_B1 u_R1 u_T1 u_s2_1, exm_of u_B2 u_R2 u_T2 u_s2_2, trivial⟩, trivial⟩
  exact law_fn M (i := i_law) (F := fn22) rfl 210
theorem walk {l : PySem.W.OpenLaw} {q : Program} {loose : List Str} {XP : (Str → Option Value) → Heap → Prop} {YP : World → Heap → Prop} {d : DefRec} {K : Params → PySem.W.Frag} (hn : l.most = some 63) (hdf : d.params.defaults = [])
    (hY : ∀ (w : World) (h : Heap), YP w h → (K w.params).In h)
    (F : ∀ (w : World) (mg : Str → Option Value) (fa : Addr) (h : Heap), (K w.params).In h → h.Ns mainGlobals mg → mg d.name = some (.ref fa) →
      ∃ fd : FuncData, (∀ (s : Shared) (u : Value), BindsTo s fd ⟨[u], []⟩ [("script", u)]) ∧ ∀ base : Heap, (K w.params).In base → base.Ns mainGlobals mg → FnOk l.prog w (K w.params) mg base (L2.CX l.prog w) (210 + 2) fa fd ["script"] (spL tab (K w.params) 210 i_law)) :
    PySem.W.WalkO q loose XP YP l.row.toRowW d [] (fun f vs => PySem.call f vs) :=
  L2.walk_of (n := 63) (k := 210 + 2) (x := "script") (CX := fun w => L2.CX l.prog w) (sp := fun w => spL tab (K w.params) 210 i_law) hn (by decide) hdf ⟨rfl, by decide, by decide⟩ hY F
    (fun _ _ a ns hl hO hS => by
      obtain ⟨st, e⟩ := law_holds ns hl
      exact ⟨a, ns, st, rfl, hO, hS, e, fun _ => rfl⟩) fun _ _ _ _ _ z => by
      obtain ⟨_, _, _, _, _, _, _, _, _, _, _, _, z⟩ := z
      exact z
end Zk44

open PySem PySem.W PyProof.Rows in
set_option maxRecDepth 100000 in
set_option maxHeartbeats 0 in
theorem PySem.Challenge.cw_effecthouse_k44_whole_casts_there_and_ba_holds : PySem.Challenge.rw_effecthouse_k44_whole_casts_there_and_ba.Holds := by
  w_on; o_law; k_head; (case hw => w_witness2)
  k_fill
  refine Zk44.walk (l := PySem.Challenge.rw_effecthouse_k44_whole_casts_there_and_ba) rfl rfl (fun w h Y => PySem.W.kIn_of Y) ?F
  case F =>
    intro w mg fa h KX G hmg
    refine' Zk44.all_mk KX G hmg ?u_A0 ?u_A1 ?u_A2 ?u_A3 ?u_A4 ?u_a0 ?u_l0 ?u_c0 ?u_k0 ?u_a1 ?u_l1 ?u_c1 ?u_k1 ?u_a2 ?u_l2 ?u_c2 ?u_k2 ?u_a3 ?u_l3 ?u_c3 ?u_k3 ?u_a4 ?u_i4 ?u_l4 ?u_c4 ?u_k4 ?u_a5 ?u_i5 ?u_l5 ?u_c5 ?u_k5 ?u_a6 ?u_i6 ?u_l6 ?u_c6 ?u_k6 ?u_a7 ?u_l7 ?u_c7 ?u_k7 ?u_a8 ?u_i8 ?u_l8 ?u_c8 ?u_k8 ?u_a9 ?u_i9 ?u_l9 ?u_c9 ?u_k9 ?u_a10 ?u_i10 ?u_l10 ?u_c10 ?u_k10 ?u_a11 ?u_i11 ?u_l11 ?u_c11 ?u_k11 ?u_a12 ?u_l12 ?u_c12 ?u_k12 ?u_a13 ?u_l13 ?u_c13 ?u_k13 ?u_a14 ?u_l14 ?u_c14 ?u_k14 ?u_a15 ?u_l15 ?u_c15 ?u_k15 ?u_a16 ?u_l16 ?u_c16 ?u_k16 ?u_a17 ?u_l17 ?u_c17 ?u_k17 ?u_a18 ?u_l18 ?u_c18 ?u_k18 ?u_a19 ?u_l19 ?u_c19 ?u_k19 ?u_a20 ?u_l20 ?u_c20 ?u_k20 ?u_a21 ?u_l21 ?u_c21 ?u_k21 ?u_a22 ?u_l22 ?u_c22 ?u_k22 ?u_K0 ?u_B0 ?u_T0 ?u_E0 ?u_K1 ?u_B1 ?u_T1 ?u_Xa1 ?u_Xb1 ?u_Xc1 ?u_n1_0 ?u_n1_1 ?u_I1 ?u_J1 ?u_S1 ?u_V1 ?u_W1 ?u_U1 ?u_O1 ?u_Y1 ?u_L1 ?u_D1 ?u_P1 ?u_p1 ?u_Q1 ?u_N1 ?u_K2 ?u_B2 ?u_T2 ?u_E2 ?u_K3 ?u_pg3 ?u_hd3 ?u_po3 ?u_sa3 ?u_mk3 ?u_bi3 ?u_K4 ?u_pg4 ?u_hd4 ?u_po4 ?u_sa4 ?u_mk4 ?u_n4_0 ?u_R0 ?u_s0_0 ?u_s0_1 ?u_s0_2 ?u_R1 ?u_s1_0 ?u_s1_1 ?u_s1_2 ?u_R2 ?u_s2_0 ?u_s2_1 ?u_s2_2 ?u_z0 ?u_z1 ?u_z2 ?u_z3 ?u_z4 ?u_z5 ?u_z6 ?u_z7 ?u_z8 ?u_z9 ?u_z10 ?u_z11 ?u_z12 ?u_z13 ?u_z14 ?u_g0 ?u_g1 ?u_v1 ?u_vv1 ?u_g2 ?u_v2 ?u_vv2 ?u_g3 ?u_v3 ?u_vv3
    (case u_A0 => k_is)
    (case u_A1 => k_is)
    (case u_A2 => k_is)
    (case u_A3 => k_is)
    (case u_A4 => k_is)
    (case u_a0 => k_is)
    (case u_l0 => k_is)
    (case u_c0 => k_is)
    (case u_k0 => k_is)
    (case u_a1 => k_is)
    (case u_l1 => k_is)
    (case u_c1 => k_is)
    (case u_k1 => k_is)
    (case u_a2 => k_is)
    (case u_l2 => k_is)
    (case u_c2 => k_is)
    (case u_k2 => k_is)
    (case u_a3 => k_is)
    (case u_l3 => k_is)
    (case u_c3 => k_is)
    (case u_k3 => k_is)
    (case u_a4 => k_is)
    (case u_i4 => k_is)
    (case u_l4 => k_is)
    (case u_c4 => k_is)
    (case u_k4 => k_is)
    (case u_a5 => k_is)
    (case u_i5 => k_is)
    (case u_l5 => k_is)
    (case u_c5 => k_is)
    (case u_k5 => k_is)
    (case u_a6 => k_is)
    (case u_i6 => k_is)
    (case u_l6 => k_is)
    (case u_c6 => k_is)
    (case u_k6 => k_is)
    (case u_a7 => k_is)
    (case u_l7 => k_is)
    (case u_c7 => k_is)
    (case u_k7 => k_is)
    (case u_a8 => k_is)
    (case u_i8 => k_is)
    (case u_l8 => k_is)
    (case u_c8 => k_is)
    (case u_k8 => k_is)
    (case u_a9 => k_is)
    (case u_i9 => k_is)
    (case u_l9 => k_is)
    (case u_c9 => k_is)
    (case u_k9 => k_is)
    (case u_a10 => k_is)
    (case u_i10 => k_is)
    (case u_l10 => k_is)
    (case u_c10 => k_is)
    (case u_k10 => k_is)
    (case u_a11 => k_is)
    (case u_i11 => k_is)
    (case u_l11 => k_is)
    (case u_c11 => k_is)
    (case u_k11 => k_is)
    (case u_a12 => k_is)
    (case u_l12 => k_is)
    (case u_c12 => k_is)
    (case u_k12 => k_is)
    (case u_a13 => k_is)
    (case u_l13 => k_is)
    (case u_c13 => k_is)
    (case u_k13 => k_is)
    (case u_a14 => k_is)
    (case u_l14 => k_is)
    (case u_c14 => k_is)
    (case u_k14 => k_is)
    (case u_a15 => k_is)
    (case u_l15 => k_is)
    (case u_c15 => k_is)
    (case u_k15 => k_is)
    (case u_a16 => k_is)
    (case u_l16 => k_is)
    (case u_c16 => k_is)
    (case u_k16 => k_is)
    (case u_a17 => k_is)
    (case u_l17 => k_is)
    (case u_c17 => k_is)
    (case u_k17 => k_is)
    (case u_a18 => k_is)
    (case u_l18 => k_is)
    (case u_c18 => k_is)
    (case u_k18 => k_is)
    (case u_a19 => k_is)
    (case u_l19 => k_is)
    (case u_c19 => k_is)
    (case u_k19 => k_is)
    (case u_a20 => k_is)
    (case u_l20 => k_is)
    (case u_c20 => k_is)
    (case u_k20 => k_is)
    (case u_a21 => k_is)
    (case u_l21 => k_is)
    (case u_c21 => k_is)
    (case u_k21 => k_is)
    (case u_a22 => k_is)
    (case u_l22 => k_is)
    (case u_c22 => k_is)
    (case u_k22 => k_is)
    (case u_K0 => k_is)
    (case u_B0 => k_is)
    (case u_T0 => k_is)
    (case u_E0 => k_exc)
    (case u_K1 => k_is)
    (case u_B1 => k_is)
    (case u_T1 => k_is)
    (case u_Xa1 => k_is)
    (case u_Xb1 => k_is)
    (case u_Xc1 => k_is)
    (case u_n1_0 => k_is)
    (case u_n1_1 => k_is)
    (case u_I1 => k_is)
    (case u_J1 => k_is)
    (case u_S1 => k_is)
    (case u_V1 => k_is)
    (case u_W1 => k_is)
    (case u_U1 => ks_is)
    (case u_O1 => k_is)
    (case u_Y1 => k_is)
    (case u_L1 => k_is)
    (case u_D1 => k_is)
    (case u_P1 => k_is)
    (case u_p1 => k_is)
    (case u_Q1 => rfl)
    (case u_N1 => k_is)
    (case u_K2 => k_is)
    (case u_B2 => k_is)
    (case u_T2 => k_is)
    (case u_E2 => k_exc)
    (case u_K3 => k_is)
    (case u_pg3 => k_is)
    (case u_hd3 => k_is)
    (case u_po3 => k_is)
    (case u_sa3 => k_is)
    (case u_mk3 => k_is)
    (case u_bi3 => k_is)
    (case u_K4 => k_is)
    (case u_pg4 => k_is)
    (case u_hd4 => k_is)
    (case u_po4 => k_is)
    (case u_sa4 => k_is)
    (case u_mk4 => k_is)
    (case u_n4_0 => k_is)
    (case u_R0 => k_is)
    (case u_s0_0 => k_is)
    (case u_s0_1 => k_is)
    (case u_s0_2 => k_is)
    (case u_R1 => k_is)
    (case u_s1_0 => k_is)
    (case u_s1_1 => k_is)
    (case u_s1_2 => k_is)
    (case u_R2 => k_is)
    (case u_s2_0 => k_is)
    (case u_s2_1 => k_is)
    (case u_s2_2 => k_is)
    (case u_z0 => k_is)
    (case u_z1 => k_is)
    (case u_z2 => k_is)
    (case u_z3 => k_is)
    (case u_z4 => k_is)
    (case u_z5 => k_is)
    (case u_z6 => k_is)
    (case u_z7 => k_is)
    (case u_z8 => k_is)
    (case u_z9 => k_is)
    (case u_z10 => k_is)
    (case u_z11 => k_is)
    (case u_z12 => k_is)
    (case u_z13 => k_is)
    (case u_z14 => k_is)
    (case u_g0 => k_is)
    (case u_g1 => k_is)
    (case u_v1 => k_is)
    (case u_vv1 => rfl)
    (case u_g2 => k_is)
    (case u_v2 => k_is)
    (case u_vv2 => rfl)
    (case u_g3 => k_is)
    (case u_v3 => k_is)
    (case u_vv3 => rfl)
#print axioms PySem.Challenge.cw_effecthouse_k44_whole_casts_there_and_ba_holds

