import PyProof.Rows.All
import Wide.All
import OpenK.AllK
import Wide.FinOn
import KE.GoesRaise
import HandS.ForMost
import HandS.ForExc
import KE.KExcInit
import KE.KExcIs
import HandS.ExcIs
import KE.GoesEnum
import HandS.Walk
import HandS.Zip
import HandS.TupMul
import HandS.TupAny
import PySem.Challenge.RW_manrods_k88_whole_gauges_that_part_most
import HandS.IsInst
import HandS.Conv
import HandS.NoneIn
import HandS.Flow
import HandS.SetFor
import HandS.Deep
import HandS.Codes
set_option Elab.async false
set_option linter.all false
set_option maxRecDepth 100000
set_option maxHeartbeats 2000000
/-! A list comprehension whose element may raise what a called def lets out. -/
namespace L2
open PySem PySem.Spec PyProof.Rows

/-- the block of a comprehension, with a wish of what its element lets out -/
abbrev Cx.blkX (X : Cx) (s : Shared) (H : Hp) (scope : Scope) (cenv : Env) (fp : List Addr) (xe : Value → Shared → Prop) : Cx := { X.blk s H scope cenv fp with xe := xe }
theorem okToX {X : Cx} {xe : Value → Shared → Prop} (ok : X.Ok) : ({ X with xe := xe } : Cx).Ok :=
  ⟨ok.mod, ok.kind, ok.glob, ok.blt, ok.above, ok.inj, ok.has, ok.cab, ok.hd, ok.frames, ok.stk, ok.exf, ok.bs, ok.bsz, ok.noex, ok.exfs, ok.funs, ok.frf⟩
theorem invToX {X : Cx} {xe : Value → Shared → Prop} {pins : List (Addr × Obj)} {σ : St} {H : Hp} {s : Shared} (I : Inv X pins σ H s) : Inv { X with xe := xe } pins σ H s :=
  ⟨okToX I.ok, I.os, I.bare, I.base, I.loc, I.cell, I.free, I.freeC, I.pin, I.hok, I.len⟩
theorem okOfX {X : Cx} {xe : Value → Shared → Prop} (ok : ({ X with xe := xe } : Cx).Ok) : X.Ok :=
  ⟨ok.mod, ok.kind, ok.glob, ok.blt, ok.above, ok.inj, ok.has, ok.cab, ok.hd, ok.frames, ok.stk, ok.exf, ok.bs, ok.bsz, ok.noex, ok.exfs, ok.funs, ok.frf⟩
theorem invOfX {X : Cx} {xe : Value → Shared → Prop} {pins : List (Addr × Obj)} {σ : St} {H : Hp} {s : Shared} (I : Inv { X with xe := xe } pins σ H s) : Inv X pins σ H s :=
  ⟨okOfX I.ok, I.os, I.bare, I.base, I.loc, I.cell, I.free, I.freeC, I.pin, I.hok, I.len⟩

/-- frames, where their own objects stand as they did -/
theorem funFrames_at {base B h h' : Heap} : ∀ {l : List Env}, h.FunFrames base l → (∀ L ∈ frs l, B.get? L = none) → (∀ L ∈ frs l, h'.get? L = h.get? L) → h'.FunFrames B l
  | [], _, _, _ => trivial
  | env :: l, h, hn, hk => by
    obtain ⟨k1, ⟨L, o, hf, _, ho, hd⟩, hr⟩ := h
    have hL : L ∈ frs (env :: l) := List.mem_filterMap.mpr ⟨env, List.mem_cons_self, hf⟩
    refine ⟨k1, ⟨L, o, hf, hn L hL, (hk L hL).trans ho, hd⟩, funFrames_at hr (fun b hb => ?_) fun b hb => ?_⟩
    · obtain ⟨e, he, q⟩ := List.mem_filterMap.mp hb
      exact hn b (List.mem_filterMap.mpr ⟨e, List.mem_cons_of_mem _ he, q⟩)
    · obtain ⟨e, he, q⟩ := List.mem_filterMap.mp hb
      exact hk b (List.mem_filterMap.mpr ⟨e, List.mem_cons_of_mem _ he, q⟩)

section
variable {X : Cx}
/-- what a block's element lets out: a call's exception -/
def BlkAir (Y : Cx) (E : XK) (e : Value) (s' : Shared) : Prop := ∃ (pins : List (Addr × Obj)) (σ : St) (H : Hp) (s : Shared), Inv Y pins σ H s ∧ L2.CX Y.prog Y.w Y.stack H s E e s'
theorem BlkAir.passes {Y : Cx} {E : XK} : Passes (L2.CX Y.prog Y.w) { Y with xe := BlkAir Y E } E := fun pins σ H s e s' I c => ⟨pins, σ, H, s, invOfX I, c⟩

/-- out of the comprehension: the block's own dict is let go -/
theorem air_out {E : XK} {W : WX} {pins : List (Addr × Obj)} {σ : St} {H3 : Hp} {s3 s' : Shared} {scope : Scope} {ce : Env} {fp : List Addr} {u D : Value} {use : Option (Value → Sem Unit)} {Qf : Value → Shared → Prop}
    (hs : X.stack = X.env :: X.outer) (hf : X.env.frame = some X.env.locals) (tk : Takes X W) (hW : ∀ cls d σ H, E cls d H → W cls d σ H)
    (I3 : Inv X pins σ H3 s3) (hcf : ce.frame = X.env.frame) (cL : ce.locals = s3.heap.objs.size)
    (f3 : ∀ b ∈ fp, FpOk X pins H3 b ∧ b < s3.heap.objs.size)
    (x : BlkAir (X.blk s3 H3 scope ce fp) E u s') :
    notedBy (model X.prog X.w) X.A ce (fun e s'' => compEnds (model X.prog X.w) X.A X.xe use Qf D ce (.error e) s'') u s' := by
  obtain ⟨pins4, σ4, H4, s4, I4, c⟩ := x
  have xe : XE (X.blk s3 H3 scope ce fp) (fun cls d _ H => E cls d H) u s' := XE.of_call I4 (fun _ _ _ h => h) c
  obtain ⟨a0, B0, H', cls0, d0, e1, fl0, hok0, ub0, na0, os0, ag0, w0⟩ := c
  obtain ⟨a, B, sI, pins', σ', H'', cls, d, e2, J, nb, up, sky, na, os, ag, w⟩ := xe
  subst e2
  have e1' : a0 = a := by injection e1 with e; exact e.symm
  subst e1'
  have nb : ∀ b o, sI.heap.get? b = some o → b ∉ frs X.stack → B.get? b = some o := nb
  have fl : HandSPX.FlyingZ B X.stack a0 (Zc cls d) s'.heap := by
    obtain ⟨_, _, _, oe, vs, T, oT, ts, he, hz, hd, h1, hnT, hTe, hT, hdT, h3⟩ := fl0
    rcases sky with ⟨_, _, _, oe2, vs2, he2, _, hd2, h12⟩ | fl | ⟨_, _, _, oe2, vs2, T2, oT2, ts2, he2, _, hd2, h12, _, _, hT2, hdT2, h32⟩
    · rw [he] at he2; cases he2
      rw [hd] at hd2; cases hd2
      rw [h1] at h12; cases h12
    · exact fl
    · rw [he] at he2; cases he2
      rw [hd] at hd2; cases hd2
      rw [h1] at h12; cases h12
      rw [hT] at hT2; cases hT2
      rw [hdT] at hdT2; cases hdT2
      rw [h3] at h32
      have z : (Value.none : Value) = rawInt (X.blk s3 H3 scope ce fp).env.locals := Option.some.inj h32
      cases z
  have hfr : X.A.frames = some (X.env :: X.outer) := by rw [I3.ok.frames, hs]
  show wpAny _ _ (noteFrame (.ref a0) ce) _ _ _
  rw [noteFrame_env (.ref a0) hcf]
  refine HandSPX.looks_onZ (env := X.env) (outer := X.outer) (base := B) Zc.steady hfr hf (by rw [← hs]; exact fl) fun h3 hh3 up3 => ?_
  rw [← hs] at hh3
  -- the block's dict
  generalize hC : s3.heap.objs.size = C at cL f3
  obtain ⟨m0, hn0, _⟩ := J.loc
  have hn0 : sI.heap.Ns ce.locals m0 := hn0
  rw [cL] at hn0
  have hn3 : h3.Ns C m0 := (up.trans up3).ns hn0
  have nC : H'' C = none := by
    have z : H'' ce.locals = none := J.free
    rw [cL] at z
    exact z
  have key : CompFails (model X.prog X.w) X.A X.xe ce (.ref a0) { s' with heap := h3 } := by
    unfold CompFails
    rw [cL]
    refine ⟨m0, hn3, fun h' _ _ sb => ?_⟩
    obtain ⟨oC, esC, epC, hoC, hdC, _⟩ := hn3
    have sz3 : ∀ {b : Addr} {o : Obj}, s3.heap.get? b = some o → b ≠ C := fun {b o} e z => by
      rw [← hC] at z
      exact Nat.lt_irrefl _ (z ▸ Heap.lt_size e)
    have hH'' := J.base
    obtain ⟨G, g1, g2⟩ := restrict sI.heap fun b => decide (b ≠ C)
    obtain ⟨B', b1, b2⟩ := restrict B fun b => decide (b ≠ C)
    have gk : ∀ b, b ≠ C → G.get? b = sI.heap.get? b := fun b hb => g1 b (decide_eq_true hb)
    have gn : G.get? C = none := g2 C (by simp)
    have bk : ∀ b, b ≠ C → B'.get? b = B.get? b := fun b hb => b1 b (decide_eq_true hb)
    have bn : B'.get? C = none := b2 C (by simp)
    have gne : ∀ {b : Addr} {o : Obj}, G.get? b = some o → b ≠ C := fun {b o} e z => by rw [z, gn] at e; cases e
    have bne : ∀ {b : Addr} {o : Obj}, B'.get? b = some o → b ≠ C := fun {b o} e z => by rw [z, bn] at e; cases e
    have frC : ∀ L ∈ frs X.stack, L ≠ C := fun L hL => by
      obtain ⟨_, o, ho, _⟩ := I3.stack.mem hL
      exact sz3 ho
    -- the state of ours, without the dict
    have J' : Inv X pins σ H'' { sI with heap := G } := by
      refine I3.call' (ch := fp) (s' := { sI with heap := G }) (show sI.os = s3.os from J.os) ⟨fun b o e n hb hx => (gk b (sz3 e)).trans (J.base.keep b o e n hb hx), fun b o e n hb hx => ?_, J.base.free, fun b o e hx => ?_, J.base.tups, J.base.frzs, J.base.tbls⟩
        (fun b o q => (J.hok b o q).stay (fun c v hc r => (gk c (fun z => ?_)).trans r) (fun _ r => r) fun _ _ r => r) J.bare fun b hb => ⟨(f3 b hb).1.2.2.2.1, (f3 b hb).1.2.1, (f3 b hb).1.2.2.2.2.1, (f3 b hb).1.2.2.2.2.2⟩
      · obtain ⟨sl, q⟩ := J.base.slot b o e n hb hx
        exact ⟨sl, (gk b (sz3 e)).trans q⟩
      · obtain ⟨o', q⟩ := J.base.there b o e hx
        exact ⟨o', (gk b (sz3 e)).trans q⟩
      · rcases hc with hc | hc
        · rw [z] at hc
          rw [← hc, nC] at q; cases q
        · rw [z, nC] at hc; cases hc
    obtain ⟨k1, k2, k3, oe, vs, T, oT, ts, he, hz, hd, h1, hnT, hTe, hT, hdT, h3f⟩ := hh3
    have fC : ∀ {b : Addr} {o : Obj} {vs : Array Value}, h3.get? b = some o → o.data = .fields vs → b ≠ C := fun {b o vs} e dd z => by
      rw [z, hoC] at e; cases e
      rw [hdC] at dd; cases dd
    have aC := fC he hd
    have TC := fC hT hdT
    have he' : h'.get? a0 = some oe := (sb.2 a0 aC).trans he
    have hT' : h'.get? T = some oT := (sb.2 T TC).trans hT
    have hh : HandSPX.HeldZ B' X.stack a0 (Zc cls d) X.env.locals h' := by
      refine ⟨fun b o e => (sb.2 b (bne e)).trans (k1 b o ((bk b (bne e)).symm.trans e)), ?_, funFrames_at k3 (fun L hL => ?_) fun L hL => sb.2 L (frC L hL), oe, vs, T, oT, ts, he', hz, hd, h1, ?_, hTe, hT', hdT, h3f⟩
      · rw [bk a0 aC]; exact k2
      · rw [bk L (frC L hL)]; exact (k3.mem hL).1
      · rw [bk T TC]; exact hnT
    unfold PySem.passOn
    refine wpAny_bind (wpAny_field he' hd h1 ?_)
    rw [if_neg (show ¬ ((Value.ref T == Value.none) = true) from by simp)]
    have fin : wpAny (model X.prog X.w) X.A (setFlight (.ref a0) ce.frame) (fun _ s4 => wpAny (model X.prog X.w) X.A (throw (.ref a0) : Sem Value) (fun _ _ => False) X.xe s4) X.xe { s' with heap := h' } := by
      rw [hcf, hf]
      refine HandSPX.setFlight_onZ hh fun h4 hh4 up4 => wpAny_throw (tk _ _ ?_)
      refine ⟨a0, B', { sI with heap := G }, pins, σ, H'', cls, d, rfl, J', fun b o e hb => (bk b (gne e)).trans (nb b o ((gk b (gne e)).symm.trans e) hb), fun b o e hnf => ?_, .inr (.inr hh4), na, os, ag, hW _ _ _ _ w⟩
      obtain ⟨sl, q⟩ := (up.trans up3) b o ((gk b (gne e)).symm.trans e) hnf
      have q' : h'.get? b = some { o with slots := sl } := (sb.2 b (gne e)).trans q
      obtain ⟨sl2, q2⟩ := up4 b { o with slots := sl } q' hnf
      exact ⟨sl2, q2⟩
    first
      | exact wpAny_bind (wpAny_pure (wpAny_bind fin))
      | exact wpAny_bind fin
  cases use <;> exact key

/-- the loop of such a block: one turn at a time -/
theorem block_loopX {E : XK} {W : WX} {pins : List (Addr × Obj)} {σ : St} {H3 : Hp} {s3 s4 : Shared} {Q : VK} {elt tg iter : Expr} {ifs : List Expr} {scope : Scope} {own : List (Str × Nat)} {pos : Pos} {g : TG} {tt : TT} {te : TE} {use : Option (Value → Sem Unit)} {Qf : Value → Shared → Prop}
    {ce : Env} {D it : Addr} {fp : List Addr} {tn : Nat → Heap → Prop} {J : It} {P : Nat → Nat → Hp → Prop} {n : Nat}
    (hst : X.stack = X.env :: X.outer) (hfr : X.env.frame = some X.env.locals) (tk : Takes X W) (hW : ∀ cls d σ H, E cls d H → W cls d σ H) (hc : X.calm = true)
    (I3 : Inv X pins σ H3 s3) (cL : ce.locals = s3.heap.objs.size) (cF : ce.frame = X.env.frame) (T : Turn X.prog X.w X.K tg J fp it tn) (f3 : ∀ b ∈ fp, FpOk X pins H3 b ∧ b < s3.heap.objs.size)
    (pg : PG (X.blk s3 H3 scope ce fp) tg g) (pt : PTs (X.blk s3 H3 scope ce fp) ifs tt) (pe : ∀ xe, Passes (L2.CX X.prog X.w) (X.blkX s3 H3 scope ce fp xe) E → PE (X.blkX s3 H3 scope ce fp xe) elt te)
    (I4 : Inv (X.blk s3 H3 scope ce fp) [] (wipe σ (own.map (·.2))) H3 s4) (st4 : tn 0 s4.heap) (p0 : P 0 n H3)
    (hP : ∀ i m H, P i m H → (J.stop i H ∧ Q (.ref D) H) ∨ (J.go i H ∧ ∃ Nx : Hp → Prop, (∀ H', Nx H' → ∃ m', m' < m ∧ P (i + 1) m' H') ∧ ∀ x H', J.yld i H x H' → g x (wipe σ (own.map (·.2))) H' fun σ2 H2 => wipe σ2 (own.map (·.2)) = wipe σ (own.map (·.2)) ∧ tt σ2 H2 fun b H3 =>
      if b = true then te σ2 H3 fun y H4 => ∃ acc, H4 D = some (.lst acc) ∧ acc.length < sizeLine ∧ Nx (upd H4 D (.lst (acc ++ [y]))) else Nx H3))
    (hE : ∀ s' m H', Inv X pins σ H' s' → Q (.ref D) H' → s'.heap.Ns ce.locals m → FpOk X pins H' ce.locals → compEnds (model X.prog X.w) X.A X.xe use Qf (.ref D) ce (.ok .next) s') :
    codeAny (model X.prog X.w) X.A (.compLoop (.ListComp elt [⟨tg, iter, ifs, 0⟩] scope pos) 0 (.ref it) (.ref D) ce) (compEnds (model X.prog X.w) X.A X.xe use Qf (.ref D) ce) s4 := by
  let Y := X.blk s3 H3 scope ce fp
  have free0 : ∀ b ∈ fp, H3 b = none := fun b hb => (f3 b hb).1.1
  have foot : ∀ {σ' : St} {H' : Hp} {s' : Shared}, Inv Y [] σ' H' s' → (∀ b ∈ fp, H' b = none) → ∀ b ∈ fp, FpOk Y [] H' b := fun {_ _ _} I' hn b hb =>
    ⟨hn b hb, (I'.ok.exf b hb).1, I'.ok.exfs b hb, .inl hb, fun x c e => (I'.ok.exf b hb).2 x c e, fun p hp => nomatch hp⟩
  refine compLoop_any (fun k s' => ∃ i H', Inv Y [] (wipe σ (own.map (·.2))) H' s' ∧ tn i s'.heap ∧ (∀ b ∈ fp, H' b = none) ∧ P i k H') (fun k s5 => ?_) n ⟨0, H3, I4, st4, free0, p0⟩
  rintro ⟨i, H5, I5, st5, n5, p5⟩
  rcases hP i k H5 p5 with ⟨stop, q⟩ | ⟨go, Nx, hNx, step⟩
  · -- no item is left: back in the def's own context
    refine thnF (T.done Y rfl rfl rfl hc i [] s5 _ H5 (fun _ _ => False) I5 (foot I5 n5) st5 stop) fun r s6 ⟨hr, I6⟩ => ?_
    subst hr
    have own3 : ∀ b ∈ fp, (b ∈ X.ex ∨ X.s_0.heap.objs.size ≤ b) ∧ b ≠ X.env.locals ∧ (∀ x c, X.env.cells.lookup x = some c → c ≠ b) ∧ ∀ p ∈ X.pn ++ pins, p.1 ≠ b := fun b hb =>
      let z := (f3 b hb).1
      ⟨z.2.2.2.1, z.2.1, z.2.2.2.2.1, z.2.2.2.2.2⟩
    have back : Inv X pins σ H5 s6 := I3.call' (ch := fp) I6.os I6.base I6.hok I6.bare own3
    obtain ⟨m, hn, _⟩ := I6.loc
    have nl : H5 ce.locals = none := I6.free
    exact hE s6 m H5 back q hn (I3.fpOk (by rw [cL]; exact Nat.le_refl _) nl)
  · -- an item: the target, the tests, the element
    refine thnF (T.item Y rfl rfl rfl hc i [] s5 _ H5 (fun _ _ => False) I5 (foot I5 n5) st5 go) fun r s6 ⟨u, hr, h6⟩ => ?_
    subst hr
    refine thnF h6 fun _ s7 ⟨x, H7, I7, r7, y7, st7, n7⟩ => ?_
    refine thnF (pg.run _ s7 _ H7 x u _ (I7.pinned (foot I7 n7) (T.obj _ _ st7)) r7 (step x H7 y7)) fun _ s8 ⟨σ8, H8, I8, w8, q8⟩ => ?_
    refine thnF (pt.run _ s8 σ8 H8 _ I8 q8) fun b s9 ⟨H9, I9, q9⟩ => ?_
    have next : ∀ {s' : Shared} {H' : Hp}, Inv Y ([] ++ pinsAt fp s7.heap) σ8 H' s' → Nx H' → ∃ m, m < k ∧ ∃ i H', Inv Y [] (wipe σ (own.map (·.2))) H' s' ∧ tn i s'.heap ∧ (∀ b ∈ fp, H' b = none) ∧ P i m H' := fun {s' H'} I' nx => by
      obtain ⟨m', hm, p'⟩ := hNx H' nx
      have held : ∀ b ∈ fp, ∀ o, s7.heap.get? b = some o → s'.heap.get? b = some o ∧ H' b = none := fun b hb o e => by
        have z := I'.pin (b, o) (List.mem_append_right _ (List.mem_append_right _ (mem_pinsAt hb e)))
        exact ⟨z.1, z.2.1⟩
      refine ⟨m', hm, i + 1, H', (I'.unpinned (pins := [])).weak (by rw [← w8, wipe_length]) (fun j v e => (wipe_some (w8 ▸ e)).1), T.keep _ _ _ st7 fun b hb o e => (held b hb o e).1, fun b hb => ?_, p'⟩
      obtain ⟨o, e, _⟩ := T.obj _ _ st7 b hb
      exact (held b hb o e).2
    cases b with
    | false => exact next I9 q9
    | true =>
      have q9 : te σ8 H9 fun y H4 => ∃ acc, H4 D = some (.lst acc) ∧ acc.length < sizeLine ∧ Nx (upd H4 D (.lst (acc ++ [y]))) := q9
      refine wpAny_mono ((pe (BlkAir Y E) BlkAir.passes).run _ s9 σ8 H9 _ (invToX I9) q9) (fun z s10 h10 => ?_) fun u s10 hx => air_out hst hfr tk hW I3 cF cL f3 hx
      obtain ⟨yv, H10, I10, r10, acc, e10, z10, nx⟩ := h10
      exact app_ok (X := Y) (invOfX I10) e10 z10 r10 fun s11 I11 => next I11 nx

theorem lc_coreX {E : XK} {W : WX} {pins : List (Addr × Obj)} {s : Shared} {σ : St} {H : Hp} {Q : VK} {elt tg iter : Expr} {ifs : List Expr} {scope : Scope} {own : List (Str × Nat)} {pos pos' : Pos} {wi : TI} {g : TG} {tt : TT} {te : TE} {use : Option (Value → Sem Unit)} {Qf : Value → Shared → Prop}
    (hst : X.stack = X.env :: X.outer) (hfr : X.env.frame = some X.env.locals) (tk : Takes X W) (hW : ∀ cls d σ H, E cls d H → W cls d σ H)
    (hc : X.calm = true) (hN : X.N.Nodup) (I : Inv X pins σ H s) (hi : PI X tg iter wi) (ok : BlkOk X.N X.env.scope scope own)
    (hg : ∀ (s : Shared) (H : Hp) (C : Addr) (cl : List (Str × Addr)) (fp : List Addr), PG (X.blk s H scope (compEnvC scope cl C X.env) fp) tg g) (ht : ∀ (s : Shared) (H : Hp) (C : Addr) (cl : List (Str × Addr)) (fp : List Addr), PTs (X.blk s H scope (compEnvC scope cl C X.env) fp) ifs tt)
    (he : ∀ (s : Shared) (H : Hp) (C : Addr) (cl : List (Str × Addr)) (fp : List Addr) (xe : Value → Shared → Prop), Passes (L2.CX X.prog X.w) (X.blkX s H scope (compEnvC scope cl C X.env) fp xe) E → PE (X.blkX s H scope (compEnvC scope cl C X.env) fp xe) elt te) (hs : ∀ x, foldedSetIterable iter X.env x = pure x)
    (h : tLc wi g tt te (own.map (·.2)) σ H Q)
    (hRR : ∀ D (ce : Env) s' m H', Inv X pins σ H' s' → Q (.ref D) H' → s'.heap.Ns ce.locals m → FpOk X pins H' ce.locals → compEnds (model X.prog X.w) X.A X.xe use Qf (.ref D) ce (.ok .next) s') :
    wpAny (model X.prog X.w) X.A (comprehension (.ListComp elt [⟨tg, iter, ifs, 0⟩] scope pos) scope X.env pos' (newList []) false (eval iter X.env) use) Qf X.xe s := by
  have cells : ∀ y ∈ scope.names, y.2 = .free → ∃ c, X.env.cells.lookup y.1 = some c := fun y hy e => I.ok.has _ (ok.free y hy e)
  refine comprehension_at (use := use) rfl hs (closure_ok cells) ok.kind (fun y hy e => by rw [ok.uniq y hy, e]) (thn (hi.run pins s σ H _ I h) fun xv s1 hx => thn hx fun itv s2 h2 => ?_)
  obtain ⟨it, fp, tn, J, H2, rfl, I2, T, st2, f2, q⟩ := h2
  refine wpAny_newObj_type (newEnv_comp ?_) (by show 0 ≤ sizeLine; decide)
  obtain ⟨P, ⟨n, p0⟩, hP⟩ := q s2.heap.objs.size (I2.hok.fresh (Nat.le_refl _))
  have lt : ∀ b ∈ fp, b < s2.heap.objs.size := fun b hb => let ⟨_, e, _⟩ := T.obj _ _ st2 b hb; Heap.lt_size e
  generalize eD : s2.heap.objs.size = D at *
  generalize e3 : ({ s2 with heap := s2.heap.push { cls := .type "list", data := .seq ([] : List Value).toArray } } : Shared) = s3
  have hp3 : s3.heap = s2.heap.push { cls := .type "list", data := .seq ([] : List Value).toArray } := e3 ▸ rfl
  have old3 : ∀ b o, s2.heap.get? b = some o → s3.heap.get? b = some o := fun b o e => hp3 ▸ Heap.get?_push_of_some _ e
  have at3 : s3.heap.get? D = some { cls := .type "list", data := .seq ([] : List Value).toArray } := hp3 ▸ eD ▸ Heap.get?_push_size _ rfl
  have I3 : Inv X pins σ (upd H2 D (.lst [])) s3 := by
    rw [← e3]
    exact I2.laid (t' := s2.toks) (fun b o e => Heap.get?_push_of_some _ e) (Nat.le_of_eq eD) ⟨Nat.zero_le _, [], 0, .nil, by rw [← hp3]; exact at3⟩
  have f3 : ∀ b ∈ fp, FpOk X pins (upd H2 D (.lst [])) b ∧ b < s3.heap.objs.size := fun b hb => by
    refine ⟨⟨?_, (f2 b hb).2⟩, by rw [hp3, Heap.size_push, eD]; exact Nat.lt_succ_of_lt (lt b hb)⟩
    rw [upd_ne (Nat.ne_of_lt (lt b hb))]
    exact (f2 b hb).1
  have I4 := block_start I3 ok hN f3
  have pg := hg s3 (upd H2 D (.lst [])) s3.heap.objs.size (cellsFrom (s3.heap.objs.size + 1) scope.names (cloFrom X.env.cells scope.names [])) fp
  have pt := ht s3 (upd H2 D (.lst [])) s3.heap.objs.size (cellsFrom (s3.heap.objs.size + 1) scope.names (cloFrom X.env.cells scope.names [])) fp
  have pe := he s3 (upd H2 D (.lst [])) s3.heap.objs.size (cellsFrom (s3.heap.objs.size + 1) scope.names (cloFrom X.env.cells scope.names [])) fp
  show codeAny _ _ (.compStart _ 0 (.ref it) (.ref D) (compEnvC scope (cellsFrom (s3.heap.objs.size + 1) scope.names (cloFrom X.env.cells scope.names [])) s3.heap.objs.size X.env)) (compEnds (model X.prog X.w) X.A X.xe use Qf (.ref D) (compEnvC scope (cellsFrom (s3.heap.objs.size + 1) scope.names (cloFrom X.env.cells scope.names [])) s3.heap.objs.size X.env))
    { s3 with heap := pushCells (s3.heap.push { cls := .type "dict", data := .dict #[] }) scope.names }
  generalize ec : compEnvC scope (cellsFrom (s3.heap.objs.size + 1) scope.names (cloFrom X.env.cells scope.names [])) s3.heap.objs.size X.env = ce at I4 pg pt pe ⊢
  have cL : ce.locals = s3.heap.objs.size := by rw [← ec]; rfl
  have cF : ce.frame = X.env.frame := by rw [← ec]; rfl
  generalize e4 : ({ s3 with heap := pushCells (s3.heap.push { cls := .type "dict", data := .dict #[] }) scope.names } : Shared) = s4 at I4 ⊢
  have st4 : tn 0 s4.heap := T.keep _ _ _ st2 fun b _ o e => by rw [← e4]; exact pushCells_keeps _ _ _ _ (Heap.get?_push_of_some _ (old3 b o e))
  have loop := block_loopX (use := use) (Qf := Qf) (iter := iter) (pos := pos) (own := own) hst hfr tk hW hc I3 cL cF T f3 pg pt pe I4 st4 p0 hP fun s' m H' I' q hn f => hRR D ce s' m H' I' q hn f
  exact codeAny_compStart_list loop (T.self X.A 0 _ _ _ st4 loop)
/-- as a value -/
theorem pe_lcX {E : XK} {W : WX} {elt tg iter : Expr} {ifs : List Expr} {scope : Scope} {own : List (Str × Nat)} {pos : Pos} {wi : TI} {g : TG} {tt : TT} {te : TE} (hst : X.stack = X.env :: X.outer) (hfr : X.env.frame = some X.env.locals) (tk : Takes X W) (hW : ∀ cls d σ H, E cls d H → W cls d σ H)
    (hc : X.calm = true) (hN : X.N.Nodup) (hi : PI X tg iter wi) (ok : BlkOk X.N X.env.scope scope own)
    (hg : ∀ (s : Shared) (H : Hp) (C : Addr) (cl : List (Str × Addr)) (fp : List Addr), PG (X.blk s H scope (compEnvC scope cl C X.env) fp) tg g) (ht : ∀ (s : Shared) (H : Hp) (C : Addr) (cl : List (Str × Addr)) (fp : List Addr), PTs (X.blk s H scope (compEnvC scope cl C X.env) fp) ifs tt)
    (he : ∀ (s : Shared) (H : Hp) (C : Addr) (cl : List (Str × Addr)) (fp : List Addr) (xe : Value → Shared → Prop), Passes (L2.CX X.prog X.w) (X.blkX s H scope (compEnvC scope cl C X.env) fp xe) E → PE (X.blkX s H scope (compEnvC scope cl C X.env) fp xe) elt te) (hs : ∀ x, foldedSetIterable iter X.env x = pure x := by intro _; rfl) :
    PE X (.ListComp elt [⟨tg, iter, ifs, 0⟩] scope pos) (tLc wi g tt te (own.map (·.2))) := by
  refine ⟨fun pins s σ H Q I h => ?_⟩
  rw [eval_ListComp]
  refine lc_coreX hst hfr tk hW hc hN I hi ok hg ht he hs h fun D ce s' m H' I' q hn f => ⟨m, hn, fun h'' sb => ?_⟩
  obtain ⟨f0, f1, f2, f3, f4, f5⟩ := f
  exact ⟨.ref D, H', I'.turned (t' := s'.toks) (fun b o hb e => (sb.2 b hb).trans e) f0 f1 f3 f4 f5, rfl, q⟩
/-- name = [..] on one line, the name a local -/
theorem ps_setLcX {E : XK} {W : WX} {i : Nat} {y : Str} {py : Pos} {elt tg iter : Expr} {ifs : List Expr} {scope : Scope} {own : List (Str × Nat)} {pos spos : Pos} {wi : TI} {g : TG} {tt : TT} {te : TE} (hst : X.stack = X.env :: X.outer) (hfr : X.env.frame = some X.env.locals) (tk : Takes X W) (hW : ∀ cls d σ H, E cls d H → W cls d σ H)
    (hc : X.calm = true) (hN : X.N.Nodup) (hy : X.N[i]? = some y) (hyl : X.env.scope.names.lookup y = some .local)
    (hsw : swapsWith (.ListComp elt [⟨tg, iter, ifs, 0⟩] scope pos) (some (.Name y py)) spos.line X.env = pure true) (hi : PI X tg iter wi) (ok : BlkOk X.N X.env.scope scope own)
    (hg : ∀ (s : Shared) (H : Hp) (C : Addr) (cl : List (Str × Addr)) (fp : List Addr), PG (X.blk s H scope (compEnvC scope cl C X.env) fp) tg g) (ht : ∀ (s : Shared) (H : Hp) (C : Addr) (cl : List (Str × Addr)) (fp : List Addr), PTs (X.blk s H scope (compEnvC scope cl C X.env) fp) ifs tt)
    (he : ∀ (s : Shared) (H : Hp) (C : Addr) (cl : List (Str × Addr)) (fp : List Addr) (xe : Value → Shared → Prop), Passes (L2.CX X.prog X.w) (X.blkX s H scope (compEnvC scope cl C X.env) fp xe) E → PE (X.blkX s H scope (compEnvC scope cl C X.env) fp xe) elt te) (hs : ∀ x, foldedSetIterable iter X.env x = pure x := by intro _; rfl) :
    PS X (.Assign [.Name y py] (.ListComp elt [⟨tg, iter, ifs, 0⟩] scope pos) spos) (tAsg (tLc wi g tt te (own.map (·.2))) (gName i)) := by
  refine ⟨fun pins s σ H D I h => ?_⟩
  rw [exec_Assign_Name_used _ _ _ _ hsw]
  refine wpAny_bind (wpAny_standAt (wpAny_bind ?_))
  show wpAny _ X.A (do let _ ← comprehension (.ListComp elt [⟨tg, iter, ifs, 0⟩] scope pos) scope X.env (firstIterPos [⟨tg, iter, ifs, 0⟩] pos) (newList []) false (eval iter X.env) (some (assign (.Name y py) X.env))) _ _ s
  have h : tLc wi g tt te (own.map (·.2)) σ H (fun x H1 => gName i x σ H1 D.nx) := h
  refine wpAny_bind (thn (lc_coreX (Qf := fun _ s' => SP X pins D .next s') hst hfr tk hW hc hN I hi ok hg ht he hs h fun L ce s' m H' I' q hn f => ?_) fun _ s' hq => wpAny_pure (wpAny_pure hq))
  show wpAny _ _ (assign (.Name y py) X.env (.ref L)) _ _ _
  refine wpAny_assign_Name (store_ok2 (v := V.ref L) I' hN hy (.inl hyl) rfl (fun s2 I2 ⟨a, sb, ha⟩ => ?_) (.inr hyl))
  obtain ⟨f0, f1, f2, f3, f4, f5⟩ := f
  have apart : ce.locals ≠ a := ha.elim (fun z => z ▸ f1) fun z e => f4 y a z e.symm
  refine ⟨m, hn.sameBut sb apart, fun h3 sb3 => ?_⟩
  exact ⟨_, H', I2.turned (t' := s2.toks) (fun b o hb e => (sb3.2 b hb).trans e) f0 f1 f3 f4 f5, q⟩
end
end L2
/-! An own error over LookupError that keeps one field. -/
namespace PySem
namespace NpX
open PySem.W PySem.Calls PyProof.Rows PySem.HandSPX
open Builtin Builtin.ObjectAttr
/-- what stands behind an own class over LookupError -/
abbrev leTail : List Value := [.type "LookupError", .type "Exception", .type "BaseException", .type "object"]
/-- the first field of such an error, which has no dict yet -/
theorem first_field {prog : Program} {w : World} {A : Around} {R : Result → Shared → Prop} {hp : Heap} {g : Array GenState} {d : Drawn} {t : Nat} {os : OsState} {K : Frag} {name : Str} {tk : Tok} {v : Value} {x C N : Addr} {fv : Array Value}
    {nm q : Str} {bs bm : List Value} {sn : List Str} {sub : List Value} {ab : Bool} {col : Option Bool}
    (X : K.In hp) (hx : hp.get? x = some { cls := .ref C, data := .fields fv })
    (hcl : clsIn K C = some { name := nm, bases := bs, mro := .ref C :: bm, ns := N, qualname := q, hasDict := true, slotNames := sn, subclasses := sub, abstract := ab, collection := col, hasDel := false })
    (hm : excTail leTail bm = true) (hno : findIn K (.ref C) name = some none)
    (hq : ∀ h' tk' dx, (∀ b o, b ≠ x → hp.get? b = some o → h'.get? b = some o) → hp.objs.size ≤ dx → dx ≠ x → h'.get? x = some { cls := .ref C, dict := some dx, data := .fields fv } →
      h'.Ns1 dx (fun y => if y = name then some v else none) → R (.ok (.ret .none)) ⟨h', g, d, tk', os⟩) :
    codeAny (model prog w) A (.call (.builtin "object.__setattr__") ⟨[.ref x, .str name tk, v], []⟩) R ⟨hp, g, d, t, os⟩ := by
  have over : excOver K C leTail = true := by
    unfold excOver
    rw [hcl]
    show (C == C && excTail leTail bm) = true
    rw [hm, Bool.and_true, beq_self_eq_true]
  have take : takerIn K C name = some none := by
    unfold takerIn
    rw [hno]
    rfl
  have hI : InstAt hp x { cls := .ref C, data := .fields fv } C none := ⟨hx, rfl, rfl, trivial⟩
  have hne : x ≠ hp.objs.size := Nat.ne_of_lt (Heap.lt_size hx)
  have lk : Looks (model prog w) hp (classData C) _ := looks_clsIn X hcl
  refine osa_openX (s := ⟨hp, g, d, t, os⟩) F.store_LookupError X hI over take fun b => ?_
  unfold storeInOwnDict ownDictForStores
  repeat (first | with_reducible refine store_in_new ?_ ?_ | with_reducible refine wpAny_loadPart_at hx ?_ | with_reducible refine lk.at ?_ | wp_step)
  · exact ⟨_, #[], _, (Heap.get?_update_ne _ _ _ _ (Ne.symm hne)).trans (Heap.get?_push_at rfl rfl), rfl, fun _ z => absurd z (by simp), fun _ => rfl⟩
  · intro h' tk' hn' sb
    have old : ∀ {b : Addr} {o : Obj}, hp.get? b = some o → (hp.push { cls := .type "dict", data := .dict #[] }).get? b = some o := fun e => Heap.get?_push_of_some _ e
    refine hq h' tk' hp.objs.size (fun b o hb ho => (sb.2 b (Nat.ne_of_lt (Heap.lt_size ho))).trans ((Heap.get?_update_ne _ _ _ _ hb).trans (old ho))) (Nat.le_refl _) hne.symm ?_ hn'
    exact (sb.2 x hne).trans (Heap.get?_update_self _ (old hx) rfl)
end NpX
end PySem
namespace PySem
namespace NpX
open PySem.W PySem.Calls PyProof.Rows PySem.HandSPX
open Builtin Builtin.ObjectAttr
/-! ### the text of __init__ -/
def iA (p1 p2 : Pos) : Arguments := { posonlyargs := [], args := [{ arg := "self", annotation := none, pos := p1 }, { arg := "place", annotation := none, pos := p2 }], vararg := none, kwonlyargs := [], kw_defaults := [], kwarg := none, defaults := [] }
def iB (q1 q2 q3 q4 : Pos) : List Stmt := [.Assign [.Attribute (.Name "self" q1) "place" q2] (.Name "place" q3) q4]
def iS : Scope := { kind := .function, names := [(PySem.Str.ofString "self", .local), (PySem.Str.ofString "place", .local)], isGenerator := false, isCoroutine := false, more := [] }
/-- what the written part says of Low, at C, and of its __init__, at fI -/
structure NpTxt (K : Frag) (mg : Str → Option Value) (C fI : Addr) : Prop where
  gC : mg "NoPlace" = some (.ref C)
  cls : ∃ nm q N bs bm sn sub ab col dd k0 k1 k2 k3 k5, K.lookup C = some (excClassObj nm q C N bs bm true sn sub ab col dd k0 k1 k2 k3 k5 "LookupError.__new__") ∧ PySem.W.excTail leTail bm = true
  sa : findIn K (.ref C) "__setattr__" = some (some (.builtin "object.__setattr__"))
  ga : findIn K (.ref C) "__getattribute__" = some (some (.builtin "BaseException.__getattribute__"))
  gg : findIn K (.ref C) "__getattr__" = some none
  noN : findIn K (.ref C) "place" = some none
  iC : findIn K (.ref C) "__init__" = some (some (.ref fI))
  tC : typeIn K (.ref fI) = some (.type "function")
  kC : keepIn K (.ref C) = true
  exC : subIn K (.ref C) (.type "BaseException") = some true
  tyC : typeIn K (.ref C) = some (.type "type")
  hdC : hasDictIn K C = true
  te : exmOne K (.ref C) (.ref C) = some true
  fn : ∃ (oc : Value) (od : Option Addr) (doc pm : Value) (an : Option Addr) (cdv ct : Value) (osl : Array (Option Value)) (p1 p2 q1 q2 q3 q4 : Pos),
    K.lookup fI = some ⟨oc, od, .func (fnOf "__init__" "NoPlace.__init__" (iA p1 p2) (iB q1 q2 q3 q4) iS .none .none doc pm an cdv ct), osl⟩ ∧ codeIn K cdv "NoPlace.__init__" = true
theorem one_size (v : Value) : [v].length ≤ sizeLine := by
  rw [sizeLine_eq]
  exact (by decide : 1 ≤ 16777216)
theorem kept_but {K : Frag} {h h' : Heap} {x : Addr} (X : K.In h) (hx : K.lookup x = none) (k : ∀ b o, b ≠ x → h.get? b = some o → h'.get? b = some o) : K.In h' := fun a o e =>
  k a o (fun z => by rw [z, hx] at e; cases e) (X a o e)
theorem ldC {M : Model} {s : Shared} {name : Str} {scope : Scope} {L a : Addr} {cd : Value} {m : Str → Option Value} {x : Str} {pos : Pos} {v : Value} {Q : Value → Shared → Prop} {A : Around} {E : Value → Shared → Prop} (hn : s.heap.Ns L m) (hv : m x = some v) (h : Q v s)
    (hk : scope.kind = .function := by rfl) (hl : (envOfC name scope L a cd).kindOf x = some .local := by rfl) (hd : (x == ("__debug__" : Str)) = false := by decide) :
    wpAny M A (eval (.Name x pos) (envOfC name scope L a cd)) Q E s := wpAny_Name (wpAny_loadName_local hk hl hn hv h) hd
/-- what __init__ leaves of a fresh exception at x -/
structure InitEnd (h h' : Heap) (x C dx t1 : Addr) (v : Value) : Prop where
  keep : ∀ b o, b ≠ x → h.get? b = some o → h'.get? b = some o
  obj : h'.get? x = some { cls := .ref C, dict := some dx, data := .fields #[.ref t1, .none, .none, .none, .bool false, .none] }
  dbig : h.objs.size ≤ dx
  dne : dx ≠ x
  ns : h'.Ns1 dx (fun y => if y = "place" then some v else none)
/-- a made Low -/
structure OwnMade (h h' : Heap) (e C d : Addr) (v : Value) : Prop where
  keep : ∀ b o, h.get? b = some o → h'.get? b = some o
  new : h.objs.size ≤ e
  obj : ∃ oe vs, h'.get? e = some oe ∧ oe.cls = .ref C ∧ oe.dict = some d ∧ oe.data = .fields vs ∧ vs[1]? = some .none
  dbig : h.objs.size ≤ d
  dne : d ≠ e
  ns : h'.Ns1 d (fun y => if y = "place" then some v else none)
section
variable {prog : Program} {w : World} {A : Around} {E : Value → Shared → Prop} {R : Result → Shared → Prop} {s : Shared} {K : Frag} {mg : Str → Option Value} {C fI : Addr}
theorem np_init (T : NpTxt K mg C fI) {x t0 : Addr} {v : Value} (X : K.In s.heap) (hlim : s.heap.NoLimit) (hx : s.heap.get? x = some (excO C t0)) (hnx : K.lookup x = none) (hroom : A.depth < recursionLimit)
    (hq : ∀ h' tk dx, InitEnd s.heap h' x C dx t0 v → R (.ok (.ret .none)) { s with heap := h', toks := tk }) :
    codeAny (model prog w) A (.call (.ref fI) ⟨[.ref x, v], []⟩) R s := by
  obtain ⟨oc, od, doc, pm, an, cdv, ct, osl, p1, p2, q1, q2, q3, q4, ho, hcd⟩ := T.fn
  obtain ⟨nm, q, N, bs, bm, sn, sub, ab, col, dd, k0, k1, k2, k3, k5, hC, hbm⟩ := T.cls
  have hcl : clsIn K C = some { name := nm, bases := bs, mro := .ref C :: bm, ns := N, qualname := q, hasDict := true, slotNames := sn, subclasses := sub, abstract := ab, collection := col, hasDel := false } := by unfold clsIn; rw [hC] <;> rfl
  refine Att.call_fn (binds := [("self", .ref x), ("place", v)]) X hlim ho hcd hroom (BindsTo.of_eq (by first | rfl | with_unfolding_all rfl)) (by first | rfl | decide | with_unfolding_all rfl) (fun s₁ IC => ?_) rfl rfl rfl
  obtain ⟨h₁, tk₁, rfl⟩ := IC.toInCall.same
  have k : ∀ b o, s.heap.get? b = some o → h₁.get? b = some o := IC.toInCall.keep
  have hn := IC.toInCall.ns
  have hxL : s.heap.objs.size ≠ x := Nat.ne_of_gt (Heap.lt_size hx)
  have X₁ : K.In h₁ := X.keeps k
  have hx₁ := k _ _ hx
  -- self.by = by
  show wpAny _ _ (execs _ _) _ _ _
  refine wpAny_execs_cons (plainObj_wpAny_Assign_Attribute ?_)
  refine ldC (v := v) hn (by first | rfl | with_unfolding_all rfl | kernel_rfl) (ldC (v := .ref x) hn (by first | rfl | with_unfolding_all rfl | kernel_rfl) ?_)
  refine set_plain X₁ (ox := excO C t0) (od := none) ⟨hx₁, rfl, rfl, trivial⟩ T.sa ?_
  refine first_field X₁ hx₁ hcl hbm T.noN (fun h₃ tk₃ dx k₃ dn dne hx₃ hn₃ => ?_)
  show wpAny _ _ (execs _ _) _ _ _
  have z : s.heap.objs.size < h₁.objs.size := hn.lt
  exact wpAny_execs_nil (hq h₃ tk₃ dx ⟨fun b o hb e => k₃ b o hb (k b o e), hx₃, Nat.le_of_lt (Nat.lt_of_lt_of_le z dn), dne, hn₃⟩)
theorem np_made (T : NpTxt K mg C fI) {v : Value} (X : K.In s.heap) (hlim : s.heap.NoLimit) (hroom : A.depth + 1 < recursionLimit)
    (hq : ∀ h' tk e d, OwnMade s.heap h' e C d v → R (.ok (.ret (.ref e))) { s with heap := h', toks := tk }) :
    codeAny (model prog w) A (.call (.ref C) ⟨[v], []⟩) R s := by
  obtain ⟨nm, q, N, bs, bm, sn, sub, ab, col, dd, k0, k1, k2, k3, k5, hC, hbm⟩ := T.cls
  obtain ⟨hp, g, dr, tk, os⟩ := s
  have k : ∀ b o, hp.get? b = some o → ((hp.push (kdv_tup [v])).push (excO C hp.objs.size)).get? b = some o := fun b o e => Heap.get?_push_of_some _ (Heap.get?_push_of_some _ e)
  have hget : ((hp.push (kdv_tup [v])).push (excO C hp.objs.size)).get? (hp.objs.size + 1) = some (excO C hp.objs.size) := by heap_get
  have hnx : K.lookup (hp.objs.size + 1) = none := by
    cases e : K.lookup (hp.objs.size + 1) with
    | none => rfl
    | some o =>
      have z : hp.get? (hp.objs.size + 1) = some o := X _ _ e
      exact absurd (Nat.lt_of_succ_lt (Heap.lt_size z)) (Nat.lt_irrefl _)
  refine call_own F.excBase_LookupError (fun X => PySem.W.excTail_contains X bm hbm) (X _ _ hC) (looks_findIn X T.iC) (fun self => bind_fn X self T.tC) (one_size v) ?_
  refine np_init (s := ⟨(hp.push (kdv_tup [v])).push (excO C hp.objs.size), g, dr, tk, os⟩) T (X.keeps k) (hlim.keeps k) hget hnx ?_ fun h' tk' dx ⟨k', hx, dn, dne, hns⟩ => ?_
  · show A.depth + 1 < recursionLimit
    exact hroom
  · have old : ∀ b o, hp.get? b = some o → h'.get? b = some o := fun b o e => k' b o (Nat.ne_of_lt (Nat.lt_succ_of_lt (Heap.lt_size e))) (k b o e)
    have z : hp.objs.size + 1 + 1 ≤ dx := by
      first
        | (simpa only [Heap.size_push] using dn)
        | exact dn
        | (have q := dn; rw [Heap.size_push, Heap.size_push] at q; exact q)
    exact ⟨rfl, hq h' tk' (hp.objs.size + 1) dx ⟨old, Nat.le_succ _, ⟨_, _, hx, rfl, rfl, rfl, rfl⟩, Nat.le_trans (Nat.le_trans (Nat.le_succ _) (Nat.le_succ _)) z, dne, hns⟩⟩
end
end NpX
end PySem
namespace L2
open PySem PySem.Spec PyProof.Rows
theorem relO_np {v : V} {v' : Value} (r : RelV v v') (f : Str) : RelO (List.lookup f [(("place" : Str), v)]) (if f = "place" then some v' else none) := by
  by_cases hw : f = "place"
  · subst hw
    rw [if_pos rfl]
    have q : List.lookup ("place" : Str) [(("place" : Str), v)] = some v := by simp [List.lookup]
    rw [q]
    exact r
  · rw [if_neg hw]
    have qw : (f == ("place" : Str)) = false := by simpa using hw
    have q2 : List.lookup f [(("place" : Str), v)] = none := by simp [List.lookup, qw]
    rw [q2]
    trivial
section
variable {X : Cx} {C fI : Addr}
/-- Low(e) -/
def tMkNp (C : Addr) (ta : TA) : St → Hp → XK → Prop := fun σ H Q => ta σ H fun vs H1 => ∃ v, vs = [v] ∧ ∀ d, H1 d = none → Q (.ref C) (some d) (upd H1 d (.xd [(("place" : Str), v)]))
theorem pmk_np {a : Expr} {ta : TA} {p pos : Pos} {k : Nat} (T : PySem.NpX.NpTxt X.K X.mg C fI) (hr : Room k X.A) (ha : PA X [a] ta) (hg : Gl X "NoPlace" := by rfl)
    (he : starEach (a :: []) X.env = (false, eval a X.env) :: starEach [] X.env := by rfl) (hpl : (backTo pos (starEach [] X.env)).any (·.1) = false := by rfl) :
    PMk X (.Call (.Name "NoPlace" p) [a] [] pos) (tMkNp C ta) := by
  intro pins s σ H Q I h
  refine wpAny_Call_Name_kw (ld_glob I hg T.gC ?_)
  refine PySem.W.callWith_K (h₀ := X.base) I.ok.mod.kin T.kC (thn (ha.run pos pins s σ H _ I h) fun us s1 hh => ?_) he hpl
  obtain ⟨vs, H1, I1, r1, v, ev, q1⟩ := hh
  subst ev
  refine ⟨I1.kIn, ?_⟩
  cases r1 with
  | cons rv rn =>
    rename_i v' us'
    cases rn
    show wpAny _ _ (call (.ref C) [v']) _ _ _
    have hlim := I1.nolimit
    obtain ⟨hp, g, dr, tk, os⟩ := s1
    refine wpAny_call (PySem.NpX.np_made T I1.kIn hlim (by have := hr.dp; omega) fun h' tk' e d M => ?_)
    show MkP X pins σ Q (.ref e) ⟨h', g, dr, tk', os⟩
    obtain ⟨oe, fv, hoe, hc, hd, hdat, h1⟩ := M.obj
    have hns := M.ns
    obtain ⟨G', g1, g2⟩ := restrict h' fun b => decide (b ≠ e)
    have gk : ∀ b, b ≠ e → G'.get? b = h'.get? b := fun b hb => g1 b (decide_eq_true hb)
    have ge : G'.get? e = none := g2 e (by simp)
    have old : ∀ b o, hp.get? b = some o → G'.get? b = some o := fun b o q => (gk b (Nat.ne_of_lt (Nat.lt_of_lt_of_le (Heap.lt_size q) M.new))).trans (M.keep b o q)
    have ob : ObjOk X.prog X.w (upd H1 d (.xd [(("place" : Str), v)])) G' d (.xd [(("place" : Str), v)]) :=
      ⟨_, hns.at (fun o q => (gk d M.dne).trans q), fun f => relO_np rv f⟩
    have J : Inv X pins σ (upd H1 d (.xd [(("place" : Str), v)])) ⟨G', g, dr, tk', os⟩ := I1.laid (t' := tk') old M.dbig ob
    refine ⟨e, oe, fv, ⟨G', g, dr, tk', os⟩, _, .ref C, some d, rfl, J, fun b o q => ?_, ge, hoe, ⟨hc, hd⟩, hdat, h1, ?_, rfl, I1.bare, raises_own T.exC T.tyC, q1 d (I1.hok.fresh M.dbig)⟩
    · by_cases hb : b = e
      · have q' : G'.get? b = some o := q
        rw [hb, ge] at q'; cases q'
      · exact (gk b hb).symm.trans q
    · rw [upd_ne (Ne.symm M.dne)]
      exact I1.hok.fresh M.new
/-- raise Low(e) -/
def tRaiseNp (C : Addr) (W : WX) (ta : TA) : TS := fun _ σ H => tMkNp C ta σ H fun cls d H' => W cls d σ H'
theorem ps_raiseNp {a : Expr} {ta : TA} {W : WX} {p pos pos2 : Pos} {k : Nat} (hc : X.calm = true) (T : PySem.NpX.NpTxt X.K X.mg C fI) (hr : Room k X.A) (tk : Takes X W) (ha : PA X [a] ta) (hg : Gl X "NoPlace" := by rfl)
    (he : starEach (a :: []) X.env = (false, eval a X.env) :: starEach [] X.env := by rfl) (hpl : (backTo pos (starEach [] X.env)).any (·.1) = false := by rfl) :
    PS X (.Raise (some (.Call (.Name "NoPlace" p) [a] [] pos)) none pos2) (tRaiseNp C W ta) := ps_raise hc tk (pmk_np T hr ha hg he hpl)
/-- low.by, low the exception that the suite holds (at a; its class cls, its dict d) -/
def tByNp (C : Addr) (a : Addr) (cls : Value) (d : Option Addr) (te : TE) : TE := fun σ H Q => te σ H fun x H1 => x = .ref a ∧ cls = .ref C ∧ ∃ (dd : Addr) (v : V), d = some dd ∧ H1 dd = some (.xd [(("place" : Str), v)]) ∧ Q v H1
theorem pe_byNp {a : Addr} {oe : Obj} {cls : Value} {d : Option Addr} {pn : List (Addr × Obj)} {e : Expr} {te : TE} {pos : Pos} (T : PySem.NpX.NpTxt X.K X.mg C fI) (hz : Zc cls d oe) (hf : ∃ vs, oe.data = .fields vs) (he : PE (X.suite a ((a, oe) :: pn)) e te)
    (hb : attributeBase e "place" X.env (eval e X.env) = eval e X.env := by rfl) :
    PE (X.suite a ((a, oe) :: pn)) (.Attribute e "place" pos) (tByNp C a cls d te) := by
  refine ⟨fun pins s σ H Q I h => ?_⟩
  refine attr_of hb (thn (he.run pins s σ H _ I h) fun u s1 hh => ?_)
  obtain ⟨x, H1, I1, rx, ex, ec, dd, v, ed, ea, q⟩ := hh
  subst ex
  obtain rfl : u = Value.ref a := rx
  subst ec
  subst ed
  obtain ⟨ha, _⟩ := I1.pin (a, oe) (List.mem_append_left _ List.mem_cons_self)
  obtain ⟨vs, hd⟩ := hf
  have hx : ObjOk X.prog X.w H1 s1.heap dd (.xd [(("place" : Str), v)]) := I1.hok dd _ ea
  obtain ⟨mA, hns, hr⟩ := hx
  obtain ⟨od, ho, hl⟩ := lookIn_ns hns
  have l : List.lookup ("place" : Str) [(("place" : Str), v)] = some v := by simp [List.lookup]
  obtain ⟨u, hu, ru⟩ := RelO.some_of (v := v) (o := mA "place") (by rw [← l]; exact hr "place")
  have J : PySem.W.InstAt s1.heap a oe C (some od) := ⟨ha, hz.1, by unfold PySem.W.notCls; rw [hd] <;> rfl, by rw [hz.2]; exact ho⟩
  exact HandSPX.exc_get I1.kIn J T.ga T.gg T.exC (PySem.W.findObj_own T.hdC T.noN rfl (by rw [hl, hu])) (handed_of ru) ⟨v, H1, I1.tok _, ru, q⟩
end
/-- what the class must say, so that isinstance asks an instance rightly -/
structure NpIs (K : PySem.W.Frag) (C : Addr) : Prop where
  cl : (PySem.W.clsIn K C).isSome = true
  ha : PySem.W.findIn K (.ref C) "__class__" = some (some (.builtin "object.__class__"))
  hn : PySem.W.specialIn K (.builtin "object.__class__") "__get__" = some (some (.builtin "getset_descriptor.__get__"))
  ht : PySem.W.takesIn K (.builtin "object.__class__") = some true
  hm : PySem.W.mroIn K C (.type "object") = some true
  ki : PySem.W.kitOne K (.ref C) (.type "LookupError") = some true
/-- isinstance(e, LookupError), e the exception that the suite holds (at a; its class cls, its dict d) -/
def rIsNp (C a : Addr) (cls : Value) (d : Option Addr) : List V → Hp → VK → Prop := fun xs H Q => xs = [.ref a, .ty "LookupError"] ∧ cls = .ref C ∧ (∃ (dd : Addr) (fs : List (Str × V)), d = some dd ∧ H dd = some (.xd fs)) ∧ Q (.bl true) H
theorem call_isNp {X : Cx} {a C fI : Addr} {oe : Obj} {cls : Value} {d : Option Addr} {pn : List (Addr × Obj)} (T : PySem.NpX.NpTxt X.K X.mg C fI) (S : NpIs X.K C) (hz : Zc cls d oe) (hf : ∃ vs, oe.data = .fields vs) :
    CallR (X.suite a ((a, oe) :: pn)) (.builtin "isinstance") (rIsNp C a cls d) := by
  intro pins s σ H xs us Q I r h
  obtain ⟨rfl, rfl, ⟨dd, fs, rfl, hdd⟩, q⟩ := h
  obtain ⟨u1, u2, rfl, r1, r2⟩ := vals2 r
  obtain rfl : u1 = Value.ref a := r1
  obtain rfl : u2 = Value.type "LookupError" := r2
  obtain ⟨ha, _⟩ := I.pin (a, oe) (List.mem_append_left _ List.mem_cons_self)
  obtain ⟨vs, hd⟩ := hf
  have hx : ObjOk X.prog X.w H s.heap dd (.xd fs) := I.hok dd _ hdd
  obtain ⟨mA, hns, _⟩ := hx
  obtain ⟨od, ho, _⟩ := lookIn_ns hns
  have J : PySem.W.InstAt s.heap a oe C (some od) := ⟨ha, hz.1, by unfold PySem.W.notCls; rw [hd] <;> rfl, by rw [hz.2]; exact ho⟩
  exact PySem.W.kia_one (PySem.W.kitx_exc S.cl T.ga T.gg T.exC S.ha S.hn S.ht S.hm) I.kIn J S.ki (fun z => nomatch z) fun tk => ⟨.bl true, H, I.tok tk, rfl, q⟩
end L2
/-! Walks that the layer lacks: enumerate(tuple), zip(list, tuple). -/
namespace K8
open PySem PySem.Spec PyProof.Rows L2

/-! ### enumerate(tuple) -/
/-- the tuple at a, its items in new pairs -/
def IteT (K : PySem.W.Frag) (a : Addr) : It :=
  ⟨fun i H => ∃ xs : List V, SqT K H a xs ∧ i < xs.length, fun i H v H' => ∃ T x, v = .ref T ∧ H T = none ∧ H' = upd H T (.tup [.int (i : Nat), x]) ∧ ∀ xs, SqT K H a xs → xs[i]? = some x, fun i H => ∃ xs : List V, SqT K H a xs ∧ xs.length = i⟩
theorem walk_enumT {K : PySem.W.Frag} {a : Addr} {xs : List V} : Walk (IteT K a) xs.length (fun H => SqT K H a xs) (YPair (fun i => some (.int (i : Nat))) (fun i => xs[i]?)) := by
  refine ⟨fun i _ hi q => ⟨xs, q, hi⟩, fun _ q => ⟨xs, q, rfl⟩, fun i H v H' _ q y => ?_⟩
  obtain ⟨T, x, h1, h2, h3, h4⟩ := y
  exact ⟨T, .int (i : Nat), x, h1, h2, h3, rfl, h4 xs q⟩
theorem tup_apart {h : Heap} {a b : Addr} {its : Array Value} {o : Obj} {n : String} (t : IsTup h a its) (e : h.get? b = some o) (c : o.cls = .type n) (hn : n ≠ "tuple") : a ≠ b := fun z => by
  obtain ⟨o', e', c', _⟩ := t
  rw [z, e] at e'
  cases e'
  rw [c] at c'
  cases c'
  exact hn rfl
theorem turn_enumT {P : Program} {w : World} {K : PySem.W.Frag} {elts : List Expr} {kk : Nat} {tpos : Pos} (a e it : Addr) :
    Turn P w K (.Tuple elts kk tpos) (IteT K a) [e, it] e (fun i h => (∃ old, IsEnum h e it ((i : Nat) : Int) old) ∧ h.IsTupleIter it a i ∧ e ≠ it) where
  mem := by simp
  obj := fun i h st b hb => by
    obtain ⟨⟨old, he⟩, ⟨o, ho, _, hd⟩, _⟩ := st
    rcases List.mem_cons.mp hb with z | hb
    · rw [z]; exact ⟨_, he, fun v q => nomatch q⟩
    · exact ⟨o, (List.mem_singleton.mp hb) ▸ ho, fun v q => by rw [hd] at q; cases q⟩
  keep := fun i h h' st k => let ⟨⟨old, he⟩, hi, hne⟩ := st; ⟨⟨old, k e (by simp) _ he⟩, hi.at fun o q => k it (by simp) o q, hne⟩
  item := by
    intro X hP hw hK hc i pins s σ H E I hf st hg
    subst hP hw hK
    obtain ⟨⟨old, he⟩, hit, hne⟩ := st
    obtain ⟨xs, hq, hi⟩ := hg
    obtain ⟨its, rv, p, hz⟩ := I.tuple hq
    have hx : xs[i]? = some xs[i] := List.getElem?_eq_getElem hi
    obtain ⟨u, hu, ru⟩ := rv.get hx
    have hel : e < s.heap.objs.size := Heap.lt_size he
    obtain ⟨oi, hoi, hci, _⟩ := id hit
    have hil : it < s.heap.objs.size := Heap.lt_size hoi
    have nit : a ≠ it := tup_apart p hoi hci (by decide)
    have ne' : a ≠ e := tup_apart p he rfl (by decide)
    have D := Draws.tuple (prog := X.prog) (w := X.w) (A := X.A.in1) (I.ok.hd hc) it a nit its.toArray
    refine wpAny_pyNext_enum_itemC D he ⟨hit, p⟩ (by rw [List.size_toArray, ← rv.length]; exact hi) hne (by simp [hne, Ne.symm ne']) fun x h' tk px ho hit' hT hsz hk => ?_
    have ex : x = u := by
      have q : its[i]? = some x := by simpa using px
      rw [hu] at q
      exact (Option.some.inj q).symm
    subst ex
    refine ⟨_, rfl, wpAny_letOwnedTupleGo_enum (s := { s with heap := h', toks := tk + 1 }) ho fun h'' he' sb => ?_⟩
    have hT2 : h''.get? s.heap.objs.size = some { cls := .type "tuple", data := .seq #[.int i tk, x] } := (sb.2 _ (Nat.ne_of_gt hel)).trans hT
    have new : ObjOk X.prog X.w (upd H s.heap.objs.size (.tup [.int (i : Nat), xs[i]])) h'' s.heap.objs.size (.tup [.int (i : Nat), xs[i]]) :=
      ⟨by show 2 ≤ sizeLine; decide, [.int i tk, x], .cons ⟨_, rfl⟩ (.cons ru .nil), ⟨_, hT2, rfl, _, rfl⟩⟩
    have I1 : Inv X pins σ (upd H s.heap.objs.size (.tup [.int (i : Nat), xs[i]])) { s with heap := h'', toks := tk + 1 } :=
      I.turnedNew (ch := [e, it]) (fun b ob hb q => (sb.2 b (fun z => hb (by simp [z]))).trans (hk b ob (fun z => hb (by simp [z])) (fun z => hb (by simp [z])) q)) hf (Nat.le_refl _) new
    refine ⟨.ref s.heap.objs.size, _, I1, rfl, ⟨_, xs[i], rfl, I.hok.fresh (Nat.le_refl _), rfl, fun ys hy => by rw [I.tuple_inj hy hq]; exact hx⟩, ⟨⟨x, ?_⟩, hit'.1.at fun o q => (sb.2 it (Ne.symm hne)).trans q, hne⟩, fun b hb => ?_⟩
    · rw [show ((i + 1 : Nat) : Int) = (i : Int) + 1 by omega]
      exact he'
    · have hlt : b < s.heap.objs.size := by
        rcases List.mem_cons.mp hb with z | z
        · exact z ▸ hel
        · exact (List.mem_singleton.mp z) ▸ hil
      rw [upd_ne (Nat.ne_of_lt hlt)]
      exact (hf b hb).1
  done := by
    intro X hP hw hK hc i pins s σ H E I hf st hg
    subst hP hw hK
    obtain ⟨⟨old, he⟩, hit, hne⟩ := st
    obtain ⟨xs, hq, hi⟩ := hg
    obtain ⟨its, rv, p, hz⟩ := I.tuple hq
    obtain ⟨oi, hoi, hci, _⟩ := id hit
    obtain ⟨f0, f1, f2, f3, f4, f5⟩ := hf it (by simp)
    have D := Draws.tuple (prog := X.prog) (w := X.w) (A := X.A.in1) (I.ok.hd hc) it a (tup_apart p hoi hci (by decide)) its.toArray
    have hn : its.toArray.size = i := by rw [List.size_toArray, ← rv.length]; exact hi
    exact wpAny_pyNext_enum_endD D he (by rw [hn]; exact ⟨hit, p⟩) fun h' eb => ⟨rfl, I.turned (t' := s.toks) (fun b o hb q => eb b o hb q) f0 f1 f3 f4 f5⟩
  self := fun A i s Q E st h => let ⟨⟨_, he⟩, _⟩ := st; wpAny_pyIter_enum he h

theorem meets_enum1 {v : Value} {o : Obj} {Hb : Heap → Prop} (B : Begins v o Hb) :
    Meets (Builtin.«enumerate.__new__» ⟨[.type "enumerate", v], []⟩) (fun _ R s => Hb s.heap ∧
      R (.ok (.ret (.ref (s.heap.push o).objs.size))) { s with heap := (s.heap.push o).push { cls := .type "enumerate", data := .fields #[.none, .bool false, .ref s.heap.objs.size, rawInt 0, .none, .none] } }) :=
  .of_wp fun prog w A R s h => by
    obtain ⟨hp, g, d, tk, os⟩ := s
    obtain ⟨hb, h⟩ := h
    have hsub := sub_enumerate
    have it1 : ∀ {A' : Around} {E : Value → Shared → Prop} {Q : Value → Shared → Prop}, Q (.ref hp.objs.size) ⟨hp.push o, g, d, tk, os⟩ → wpAny (model prog w) A' (pyIter v) Q E ⟨hp, g, d, tk, os⟩ := fun q => B.iter prog w _ _ ⟨hp, g, d, tk, os⟩ _ hb q
    wp_walk using it1
    refine wpAny_stack_any fun st => wpAny_pure ?_
    split
    · rename_i c _ _ _ _ _
      cases (c == Value.type "enumerate") <;> (wp_walk using it1; exact ⟨_, rfl, h⟩)
    · wp_walk using it1
      exact ⟨_, rfl, h⟩
/-- enumerate(v), v anything whose iterator is known: its two new cells -/
theorem enum1_begins {prog : Program} {w : World} {A : Around} {E : Value → Shared → Prop} {s : Shared} {v : Value} {o : Obj} {Hb : Heap → Prop} {Q : Value → Shared → Prop} (B : Begins v o Hb) (hb : Hb s.heap)
    (h : ∀ h', IsEnum h' (s.heap.objs.size + 1) s.heap.objs.size 0 .none → h'.get? s.heap.objs.size = some o → (∀ b o, s.heap.get? b = some o → h'.get? b = some o) → Q (.ref (s.heap.objs.size + 1)) { s with heap := h' }) :
    wpAny (model prog w) A (call (.type "enumerate") [v]) Q E s := by
  refine callType_new F.called_enumerate (by decide) (F.typeCall_enumerate_1 _) (F.newCall_enumerate_1 _) (fun obj => F.args_object_init_2 obj _) F.entry_enumerate_new (meets_enum1 B) ⟨hb, ?_⟩
  have e1 : (s.heap.push o).objs.size = s.heap.objs.size + 1 := Heap.size_push ..
  have he : ((s.heap.push o).push { cls := .type "enumerate", data := .fields #[.none, .bool false, .ref s.heap.objs.size, rawInt 0, .none, .none] }).get? (s.heap.push o).objs.size = some { cls := .type "enumerate", data := .fields #[.none, .bool false, .ref s.heap.objs.size, rawInt 0, .none, .none] } := Heap.get?_push_size _ rfl
  rw [e1] at he
  show _ ∧ _
  rw [e1]
  exact ⟨⟨_, he, rfl⟩, h _ he (Heap.get?_push_of_some _ (Heap.get?_push_size _ B.free)) fun b ob x => Heap.get?_push_of_some _ (Heap.get?_push_of_some _ x)⟩
def iEnumT (K : PySem.W.Frag) (ta : TA) : TI := fun σ H R => ta σ H fun vs H1 => ∃ a xs, vs = [.ref a] ∧ SqT K H1 a xs ∧ R (IteT K a) H1
theorem pi_enumT {X : Cx} {e : Expr} {ta : TA} {p pos tpos : Pos} {elts : List Expr} {kk : Nat} (hg : Gl X "enumerate") (hm : X.mg "enumerate" = none) (ha : PA X [e] ta) (hs : starEach [e] X.env = [(false, eval e X.env)] := by rfl) :
    PI X (.Tuple elts kk tpos) (.Call (.Name "enumerate" p) [e] [] pos) (iEnumT X.K ta) := by
  refine ⟨fun pins s σ H R I h => Call_ (ld_blt I hg hm boot_enumerate (PyProof.Rows.callWith_type1 (thn (ha.run pos pins s σ H _ I h) fun us s1 ⟨vs, H1, I1, r1, q1⟩ => ?_) hs rfl))⟩
  obtain ⟨a, xs, rfl, hq, q⟩ := q1
  obtain ⟨u, rfl, r⟩ := vals1 r1
  cases r
  obtain ⟨its, rv, p', hz⟩ := I1.tuple hq
  refine enum1_begins (begins_tuple a its.toArray) p' fun h' he hit hk => wpAny_pyIter_enum he ?_
  have I2 : Inv X pins σ H1 { s1 with heap := h' } := I1.kept (t' := s1.toks) hk
  refine ⟨s1.heap.objs.size + 1, [s1.heap.objs.size + 1, s1.heap.objs.size], _, _, H1, rfl, I2, turn_enumT a (s1.heap.objs.size + 1) s1.heap.objs.size, ⟨⟨.none, he⟩, ⟨_, hit, rfl, rfl⟩, Nat.succ_ne_self _⟩, fun b hb => ?_, q⟩
  have hle : s1.heap.objs.size ≤ b := by
    rcases List.mem_cons.mp hb with z | z
    · exact z ▸ Nat.le_succ _
    · exact (List.mem_singleton.mp z) ▸ Nat.le_refl _
  exact I1.fpOk hle (I1.hok.fresh hle)

/-! ### zip(list, tuple) -/
/-- the list at a, the tuple at b, of one length, the items in new pairs -/
def ItzM (K : PySem.W.Frag) (a b : Addr) : It :=
  ⟨fun i H => ∃ xs ys : List V, SqL K H a xs ∧ SqT K H b ys ∧ i < xs.length ∧ i < ys.length,
    fun i H v H' => ∃ T x y, v = .ref T ∧ H T = none ∧ H' = upd H T (.tup [x, y]) ∧ (∀ xs, SqL K H a xs → xs[i]? = some x) ∧ ∀ ys, SqT K H b ys → ys[i]? = some y,
    fun i H => ∃ xs ys : List V, SqL K H a xs ∧ SqT K H b ys ∧ xs.length = i ∧ ys.length = i⟩
theorem walk_zipM {K : PySem.W.Frag} {a b : Addr} {xs ys : List V} (hl : ys.length = xs.length) : Walk (ItzM K a b) xs.length (fun H => SqL K H a xs ∧ SqT K H b ys) (YPair (fun i => xs[i]?) (fun i => ys[i]?)) := by
  refine ⟨fun i _ hi q => ⟨xs, ys, q.1, q.2, hi, hl ▸ hi⟩, fun _ q => ⟨xs, ys, q.1, q.2, rfl, hl⟩, fun i H v H' _ q y => ?_⟩
  obtain ⟨T, x, z, h1, h2, h3, h4, h5⟩ := y
  exact ⟨T, x, z, h1, h2, h3, h4 xs q.1, h5 ys q.2⟩
theorem turn_zipM {P : Program} {w : World} {K : PySem.W.Frag} {elts : List Expr} {kk : Nat} {tpos : Pos} {a b z TI TO i1 i2 : Addr} (S : ZipSep2 z TI TO i1 i2 [i1, a] [i2, b]) (na : a ≠ i1) (nb : b ≠ i2) :
    Turn P w K (.Tuple elts kk tpos) (ItzM K a b) [z, TI, TO, i1, i2] z (fun i h => IsZip h z TI TO .none ∧ IsTupOf2 h TI (.ref i1) (.ref i2) ∧ (∃ x y, IsTupOf2 h TO x y) ∧ h.IsListIter i1 a i ∧ h.IsTupleIter i2 b i) where
  mem := by simp
  obj := fun i h st c hc => by
    obtain ⟨hz, hTI, ⟨x, y, hTO⟩, ⟨o1, e1, _, d1⟩, ⟨o2, e2, _, d2⟩⟩ := st
    simp only [List.mem_cons, List.not_mem_nil, or_false] at hc
    rcases hc with q | q | q | q | q <;> subst q
    · exact ⟨_, hz, fun v q => nomatch q⟩
    · exact ⟨_, hTI, fun v q => nomatch q⟩
    · exact ⟨_, hTO, fun v q => nomatch q⟩
    · exact ⟨o1, e1, fun v q => by rw [d1] at q; cases q⟩
    · exact ⟨o2, e2, fun v q => by rw [d2] at q; cases q⟩
  keep := fun i h h' st k => by
    obtain ⟨hz, hTI, ⟨x, y, hTO⟩, h1, h2⟩ := st
    exact ⟨k z (by simp) _ hz, k TI (by simp) _ hTI, ⟨x, y, k TO (by simp) _ hTO⟩, h1.at fun o q => k i1 (by simp) o q, h2.at fun o q => k i2 (by simp) o q⟩
  item := by
    intro X hP hw hK hc i pins s σ H E I hf st hg
    subst hP hw hK
    obtain ⟨hz, hTI, ⟨x0, y0, hTO⟩, h1, h2⟩ := st
    obtain ⟨xs, ys, hqx, hqy, lx, ly⟩ := hg
    obtain ⟨its, rv, p, _⟩ := I.list hqx
    obtain ⟨its2, rv2, p2, _⟩ := I.tuple hqy
    have hx : xs[i]? = some xs[i] := List.getElem?_eq_getElem lx
    have hy : ys[i]? = some ys[i] := List.getElem?_eq_getElem ly
    obtain ⟨u, hu, ru⟩ := rv.get hx
    obtain ⟨u2, hu2, ru2⟩ := rv2.get hy
    have hzl : z < s.heap.objs.size := Heap.lt_size hz
    have D1 := Draws.list (prog := X.prog) (w := X.w) (A := X.A.in1) (I.ok.hd hc) i1 a na its.toArray
    have D2 := Draws.tuple (prog := X.prog) (w := X.w) (A := X.A.in1) (I.ok.hd hc) i2 b nb its2.toArray
    refine wpAny_pyNext_zipD2_item S D1 D2 hz hTI hTO ⟨h1, p.isList⟩ ⟨h2, p2⟩ (by rw [List.size_toArray, ← rv.length]; exact lx) (by rw [List.size_toArray, ← rv2.length]; exact ly) fun x1 x2 h' tk px py z' TO' st1' st2' hT hsz hk => ?_
    have e1 : x1 = u := by
      have q : its[i]? = some x1 := by simpa using px
      rw [hu] at q
      exact (Option.some.inj q).symm
    have e2 : x2 = u2 := by
      have q : its2[i]? = some x2 := by simpa using py
      rw [hu2] at q
      exact (Option.some.inj q).symm
    subst e1 e2
    refine ⟨_, rfl, wpAny_letOwnedTupleGo_zip (s := { s with heap := h', toks := tk }) z' fun h'' z'' sb => ?_⟩
    have hT2 : h''.get? s.heap.objs.size = some { cls := .type "tuple", data := .seq #[x1, x2] } := (sb.2 _ (Nat.ne_of_gt hzl)).trans hT
    have new : ObjOk X.prog X.w (upd H s.heap.objs.size (.tup [xs[i], ys[i]])) h'' s.heap.objs.size (.tup [xs[i], ys[i]]) :=
      ⟨by show 2 ≤ sizeLine; decide, [x1, x2], .cons ru (.cons ru2 .nil), ⟨_, hT2, rfl, _, rfl⟩⟩
    have I1 : Inv X pins σ (upd H s.heap.objs.size (.tup [xs[i], ys[i]])) { s with heap := h'', toks := tk } :=
      I.turnedNew (t' := tk) (ch := [z, TI, TO, i1, i2]) (fun c o hb q => (sb.2 c (fun q' => hb (by simp [q']))).trans (hk c o (fun q' => hb (by simp [q'])) (fun q' => hb (by simp [q'])) (fun q' => hb (by simp [q'])) (fun q' => hb (by simp [q'])) q)) hf (Nat.le_refl _) new
    refine ⟨.ref s.heap.objs.size, _, I1, rfl, ⟨_, xs[i], ys[i], rfl, I.hok.fresh (Nat.le_refl _), rfl, fun l hl => by rw [I.list_inj hl hqx]; exact hx, fun l hl => by rw [I.tuple_inj hl hqy]; exact hy⟩, ⟨z'', ?_, ⟨x1, x2, ?_⟩, ?_, ?_⟩, fun c hcm => ?_⟩
    · exact (sb.2 _ S.TIz).trans (hk _ _ S.TIz S.TITO S.TIi1 S.TIi2 hTI)
    · exact (sb.2 _ S.TOz).trans TO'
    · exact st1'.1.at fun o q => (sb.2 _ (Ne.symm S.zi1)).trans q
    · exact st2'.1.at fun o q => (sb.2 _ (Ne.symm S.zi2)).trans q
    · have hlt : c < s.heap.objs.size := by
        simp only [List.mem_cons, List.not_mem_nil, or_false] at hcm
        rcases hcm with q | q | q | q | q <;> subst q
        · exact hzl
        · exact Heap.lt_size hTI
        · exact Heap.lt_size hTO
        · obtain ⟨_, e1, _⟩ := h1; exact Heap.lt_size e1
        · obtain ⟨_, e2, _⟩ := h2; exact Heap.lt_size e2
      rw [upd_ne (Nat.ne_of_lt hlt)]
      exact (hf c hcm).1
  done := by
    intro X hP hw hK hc i pins s σ H E I hf st hg
    subst hP hw hK
    obtain ⟨hz, hTI, ⟨x0, y0, hTO⟩, h1, h2⟩ := st
    obtain ⟨xs, ys, hqx, hqy, lx, ly⟩ := hg
    obtain ⟨its, rv, p, _⟩ := I.list hqx
    obtain ⟨its2, rv2, p2, _⟩ := I.tuple hqy
    have n1 : its.toArray.size = i := by rw [List.size_toArray, ← rv.length]; exact lx
    have n2 : its2.toArray.size = i := by rw [List.size_toArray, ← rv2.length]; exact ly
    have D1 := Draws.list (prog := X.prog) (w := X.w) (A := X.A.in1) (I.ok.hd hc) i1 a na its.toArray
    have D2 := Draws.tuple (prog := X.prog) (w := X.w) (A := X.A.in1) (I.ok.hd hc) i2 b nb its2.toArray
    exact wpAny_pyNext_zipD2_end S D1 D2 hz hTI hTO ⟨h1, p.isList⟩ ⟨h2, p2⟩ (Nat.le_of_eq n1.symm) (Nat.le_of_eq n2.symm) (.inl n1.symm) fun h' tk hk => ⟨rfl, I.turnedL (t' := tk) (ch := [z, TI, TO, i1, i2]) (fun c o hb q =>
      hk c o (fun q' => hb (by simp [q'])) (fun q' => hb (by simp [q'])) (fun q' => hb (by simp [q'])) (fun q' => hb (by simp [q'])) q) hf⟩
  self := fun A i s Q E st h => wpAny_pyIter_zip st.1 h
def iZipM (K : PySem.W.Frag) (ta : TA) : TI := fun σ H R => ta σ H fun vs H1 => ∃ a b xs ys, vs = [.ref a, .ref b] ∧ SqL K H1 a xs ∧ SqT K H1 b ys ∧ R (ItzM K a b) H1
theorem pi_zipM {X : Cx} {e e2 : Expr} {ta : TA} {p pos tpos : Pos} {elts : List Expr} {kk : Nat} (hg : Gl X "zip") (hm : X.mg "zip" = none) (ha : PA X [e, e2] ta)
    (hs : starEach [e, e2] X.env = (false, eval e X.env) :: starEach [e2] X.env := by rfl) (hpl : (backTo pos (starEach [e2] X.env)).any (·.1) = false := by rfl) :
    PI X (.Tuple elts kk tpos) (.Call (.Name "zip" p) [e, e2] [] pos) (iZipM X.K ta) := by
  refine ⟨fun pins s σ H R I h => Call_ (ld_blt I hg hm PyProof.Rows.boot_zip (PyProof.Rows.callWith_type1 (thn (ha.run pos pins s σ H _ I h) fun us s1 ⟨vs, H1, I1, r1, q1⟩ => ?_) hs hpl))⟩
  obtain ⟨a, b, xs, ys, rfl, hqx, hqy, q⟩ := q1
  obtain ⟨u, u', rfl, r, r'⟩ := vals2 r1
  cases r
  cases r'
  obtain ⟨its, rv, p1, _⟩ := I1.list hqx
  obtain ⟨its2, rv2, p2, _⟩ := I1.tuple hqy
  have la : a < s1.heap.objs.size := p1.lt
  have lb : b < s1.heap.objs.size := p2.lt
  refine zip_begins2 (begins_list a its.toArray) (begins_tuple b its2.toArray) p1.isList p2 fun h' hz hTI hTO o1 o2 hsz hk => wpAny_pyIter_zip hz ?_
  have I2 : Inv X pins σ H1 { s1 with heap := h' } := I1.kept (t' := s1.toks) hk
  have S : ZipSep2 (s1.heap.objs.size + 4) (s1.heap.objs.size + 2) (s1.heap.objs.size + 3) s1.heap.objs.size (s1.heap.objs.size + 1) [s1.heap.objs.size, a] [s1.heap.objs.size + 1, b] :=
    zip_sep2 (N := s1.heap.objs.size) (fp1 := [a]) (fp2 := [b]) (fun c hc => (List.mem_singleton.mp hc) ▸ la) fun c hc => (List.mem_singleton.mp hc) ▸ lb
  refine ⟨s1.heap.objs.size + 4, [s1.heap.objs.size + 4, s1.heap.objs.size + 2, s1.heap.objs.size + 3, s1.heap.objs.size, s1.heap.objs.size + 1], _, _, H1, rfl, I2,
    turn_zipM S (Nat.ne_of_lt la) (Nat.ne_of_lt (Nat.lt_succ_of_lt lb)), ⟨hz, hTI, ⟨_, _, hTO⟩, ⟨_, o1, rfl, rfl⟩, ⟨_, o2, rfl, rfl⟩⟩, fun c hcm => ?_, q⟩
  have hle : s1.heap.objs.size ≤ c := by
    simp only [List.mem_cons, List.not_mem_nil, or_false] at hcm
    rcases hcm with q | q | q | q | q <;> subst q
    · exact Nat.le_add_right _ _
    · exact Nat.le_add_right _ _
    · exact Nat.le_add_right _ _
    · exact Nat.le_refl _
    · exact Nat.le_add_right _ _
  exact I1.fpOk hle (I1.hok.fresh hle)
end K8
/-! Small rules that the layer lacks: xs[i] as the read of an augmented store, a tuple times 1, min of a list of tuples whose first is the least. -/
namespace K8
open PySem PySem.Spec PyProof.Rows L2

/-! ### xs[i] op= e, xs a list, 0 ≤ i -/
theorem get_list {X : Cx} : PGet X (fun x y H Q => ∃ p xs i v, x = .ref p ∧ y = .int i ∧ 0 ≤ i ∧ SqL X.K H p xs ∧ xs[i.toNat]? = some v ∧ Q v H) := by
  intro pins s σ H o i ov iv Q I ro ri h
  obtain ⟨p, xs, k, v, rfl, rfl, h0, hq, hv, q⟩ := h
  cases ro
  obtain ⟨t, rfl⟩ := ri
  obtain ⟨its, rv, pl, hz⟩ := I.list hq
  obtain ⟨u, hu, ru⟩ := rv.get hv
  have lt : k.toNat < xs.length := (List.getElem?_eq_some_iff.mp hv).1
  have hn := line63
  exact wpAny_getItem_list pl.isList h0 (by omega) (by simpa using hu) ⟨v, H, I, ru, q⟩

/-! ### (x,) * 1 -/
open AutoSeq1 (wpAny_loadPart')
theorem tuple_mul_one (l : Addr) (items : Array Value) (n : Nat) (dd : Option Addr) (sl : Array (Option Value)) (u : Tok) :
    Meets (Builtin.«tuple.__mul__» ⟨[.ref l, .int 1 u], []⟩) (fun _ R s => s.heap.get? l = some { cls := .type "tuple", dict := dd, data := .seq items n, slots := sl } ∧ R (.ok (.ret (.ref l))) s) :=
  .of_wp fun prog w A R s h => by
    obtain ⟨hp, g, d, tk, os⟩ := s
    obtain ⟨hl, h⟩ := h
    have f1 := AutoSeq1.idx_int
    wp_walk using wpAny_loadPart' hl
    exact ⟨_, rfl, h⟩
theorem op_repT1 {X : Cx} : OpR X (binaryOp .Mult) (fun x y H Q => ∃ l xs, x = .ref l ∧ y = .int 1 ∧ SqT X.K H l xs ∧ Q (.ref l) H) := by
  intro pins s σ H x y v u Q I rx ry h
  obtain ⟨l, xs, rfl, rfl, hT, q⟩ := h
  cases rx
  obtain ⟨t, rfl⟩ := ry
  obtain ⟨its, r, ⟨⟨cls, dd, data, sl⟩, ho, hc, n, hd⟩, hs⟩ := I.tuple hT
  simp only at hc hd
  subst hc hd
  exact wpAny_binaryOp_repeat_ref (T := "tuple") (U := "int") (by decide) ⟨_, ho, rfl⟩ (fun s' => typeIs_int s' 1 t) noFill_tuple_mul F.fills_int_mul F.slot_int_rmul repeat_tuple F.slot_int_index.lookup
    (call_meets F.slot_int_rmul (typeIs_int s 1 t) F.entry_int_rmul (F.args_int_rmul_2 _ _) (int_rmul_tuple 1 t l its.toArray n dd sl)
      ⟨ho, rfl, ⟨_, ho, rfl⟩, call_meets F.slot_tuple_mul ⟨_, ho, rfl⟩ F.entry_tuple_mul (F.args_tuple_mul_2 _ _) (tuple_mul_one l its.toArray n dd sl t) ⟨ho, ⟨.ref l, H, I, rfl, q⟩⟩⟩)

/-! ### min of a list whose first item no other is below -/
section
variable {prog : Program} {w : World} {A : Around} {I : Addr} {fp wr : List Addr} {n : Nat} {P : Nat → Value → Prop} {St : Nat → Heap → Prop} {R : Result → Shared → Prop}
/-- the turns behind the first: v0 stays the least; Kp: what the comparisons read of the heap -/
theorem min_stays (W : Walks prog w A.in1 I fp wr n P St) {S : Addr} (hS0 : S ∉ fp) {Kp : Heap → Prop} (hK : ∀ h h', Kp h → (∀ b o, b ∉ wr → b ≠ S → h.get? b = some o → h'.get? b = some o) → Kp h') {v0 : Value}
    (cmp : ∀ j v (s : Shared) (Q : Value → Shared → Prop) (E : Value → Shared → Prop), P (j + 1) v → Kp s.heap → Q (.bool false) s → wpAny (model prog w) A.in1 (richCompare .Lt v v0) Q E s) :
    ∀ (k j : Nat) (s : Shared) (c : Nat), j + 1 + k = n → St (j + 1) s.heap → Kp s.heap → s.heap.get? S = some { cls := .type "list", dict := none, data := .seq #[v0, v0] c, slots := #[] } →
      (∀ h' tk, (∀ b o, b ∉ wr → b ≠ S → s.heap.get? b = some o → h'.get? b = some o) → R (.ok (.ret v0)) { s with heap := h', toks := tk }) → codeAny (model prog w) A (.builtin "min.loop" ⟨[.ref I, .none, .ref S], []⟩) R s := by
  have nw : S ∉ wr := fun z => hS0 (W.sub _ z)
  have hname : (toString "min" ++ toString ".loop" : String) = "min.loop" := by decide
  intro k
  induction k with
  | zero =>
    intro j s c hj st kp hS hR
    refine codeAny_builtin F.entry_min_loop ?_
    rw [Around.under_plainId F.plain_min_loop _]
    show wpAny _ A.in1 (seqItems? (.ref S) >>= _) _ _ s
    refine wpAny_bind (wpAny_seqItems hS rfl ?_)
    show wpAny _ A.in1 (tryCatch (pyNext (.ref I)) _ >>= _) _ _ s
    have st' : St n s.heap := hj ▸ st
    refine wpAny_bind (wpAny_tryCatch (W.done s _ _ st' fun h' tk hk => ?_))
    show wpAny _ A.in1 (updateSeq S (fun _ => #[]) >>= _) _ _ _
    refine wpAny_bind (wpAny_updateSeq (hk S _ nw hS) rfl (wpAny_bind (wpAny_letGo (wpAny_pure (hR _ tk fun b o hb hbS e => ?_)))))
    exact (Heap.get?_update_other _ _ (Ne.symm hbS)).trans (hk b o hb e)
  | succ k ih =>
    intro j s c hj st kp hS hR
    refine codeAny_builtin F.entry_min_loop ?_
    rw [Around.under_plainId F.plain_min_loop _]
    show wpAny _ A.in1 (seqItems? (.ref S) >>= _) _ _ s
    refine wpAny_bind (wpAny_seqItems hS rfl ?_)
    show wpAny _ A.in1 (tryCatch (pyNext (.ref I)) _ >>= _) _ _ s
    refine wpAny_bind (wpAny_tryCatch (W.item (j + 1) s _ _ (by omega) st fun v h' tk hv st' hk => ?_))
    have kp' : Kp h' := hK _ _ kp fun b o hb _ e => hk b o hb e
    show wpAny _ A.in1 (tryCatch (holding [v, v] (richCompare .Lt v v0 >>= _)) _ >>= _) _ _ _
    refine wpAny_bind (wpAny_tryCatch (wpAny_holding (wpAny_bind (cmp j v _ _ _ hv kp' (wpAny_bind (wpAny_holding (wpAny_truthy_bool (wpAny_bind (wpAny_letGo (wpAny_pure ?_))))))))))
    simp only [Bool.false_eq_true, if_false]
    refine wpAny_bind (wpAny_letGo ?_)
    rw [hname]
    exact wpAny_pure ⟨plainId_quiet F.plain_min_loop _, ih (j + 1) _ c (by omega) st' kp' (hk S _ nw hS) fun h'' tk'' hk'' => hR h'' tk'' fun b o hb hbS e => hk'' b o hb hbS (hk b o hb e)⟩
end
/-- min(xs), xs a list of tuples of ints, none below the first -/
theorem min_tuples {prog : Program} {w : World} {A : Around} {E : Value → Shared → Prop} {s : Shared} {l a0 : Addr} {as : List Addr} {ns0 : List Int} {Q : Value → Shared → Prop} (hh : A.handled = none) (hu : A.in1.units < cLine)
    (hl : s.heap.IsList l ((a0 :: as).map Value.ref).toArray) (h0 : ∃ its, IsTup s.heap a0 its ∧ IntsAre its.toList ns0) (hr : ∀ a ∈ as, ∃ its ns, IsTup s.heap a its ∧ IntsAre its.toList ns ∧ HT.lexLt ns ns0 = false)
    (hQ : ∀ h' tk, (∀ b o, s.heap.get? b = some o → h'.get? b = some o) → Q (.ref a0) { s with heap := h', toks := tk }) : wpAny (model prog w) A (call (.builtin "min") [.ref l]) Q E s := by
  have hname : (toString "min" ++ toString ".loop" : String) = "min.loop" := by decide
  obtain ⟨oL, eL, cL, nL, dL⟩ := id hl
  have ll : l < s.heap.objs.size := Heap.lt_size eL
  refine call_function_tree F.kind_min F.plain_min F.entry_min (F.args_min1 _) ?_
  show wpAny _ A.in1 (Builtin.Builtins.bindParams "min" ["key", "default"] 0 ⟨[], []⟩ >>= _) _ _ s
  refine wpAny_bind (wpAny_of_eq (show Builtin.Builtins.bindParams "min" ["key", "default"] 0 ⟨[], []⟩ = pure [none, none] from rfl) (wpAny_bind (wpAny_pure (wpAny_bind (wpAny_pyIter_list hl ?_)))))
  refine wpAny_bind (wpAny_newObj_type ?_)
  rw [hname]
  refine wpAny_pure ⟨plainId_quiet F.plain_min_loop _, ?_⟩
  have W := Walks.list (prog := prog) (w := w) (A := A.in1) hh s.heap.objs.size l (Nat.ne_of_lt ll) ((a0 :: as).map Value.ref).toArray
  have e1 : (s.heap.push { cls := .type "list_iterator", data := .fields #[.ref l, .int 0 0] }).objs.size = s.heap.objs.size + 1 := Heap.size_push ..
  show codeAny (model prog w) A (.builtin "min.loop" ⟨[.ref s.heap.objs.size, .none, .ref (s.heap.push { cls := .type "list_iterator", data := .fields #[.ref l, .int 0 0] }).objs.size], []⟩) _ _
  have kept0 : ∀ b o, s.heap.get? b = some o → ((s.heap.push { cls := .type "list_iterator", data := .fields #[.ref l, .int 0 0] }).push { cls := .type "list", data := .seq ([] : List Value).toArray }).get? b = some o := fun b o e => Heap.get?_push_of_some _ (Heap.get?_push_of_some _ e)
  have atI : ((s.heap.push { cls := .type "list_iterator", data := .fields #[.ref l, .int 0 0] }).push { cls := .type "list", data := .seq ([] : List Value).toArray }).IsListIter s.heap.objs.size l 0 := ⟨_, Heap.get?_push_of_some _ (Heap.get?_push_size _ rfl), rfl, rfl⟩
  have atS : ((s.heap.push { cls := .type "list_iterator", data := .fields #[.ref l, .int 0 0] }).push { cls := .type "list", data := .seq ([] : List Value).toArray }).get? (s.heap.push { cls := .type "list_iterator", data := .fields #[.ref l, .int 0 0] }).objs.size = some { cls := .type "list", data := .seq #[] } := Heap.get?_push_size _ rfl
  rw [e1] at atS ⊢
  have old : ∀ {b : Addr} {o : Obj}, s.heap.get? b = some o → b ∉ [s.heap.objs.size] ∧ b ≠ s.heap.objs.size + 1 := fun {b o} e => by
    have lt := Heap.lt_size e
    exact ⟨fun z => Nat.ne_of_lt lt (List.mem_singleton.mp z), Nat.ne_of_lt (Nat.lt_succ_of_lt lt)⟩
  -- the first item
  refine codeAny_builtin F.entry_min_loop ?_
  rw [Around.under_plainId F.plain_min_loop _]
  show wpAny _ A.in1 (seqItems? (.ref (s.heap.objs.size + 1)) >>= _) _ _ _
  refine wpAny_bind (wpAny_seqItems atS rfl ?_)
  show wpAny _ A.in1 (tryCatch (pyNext (.ref s.heap.objs.size)) _ >>= _) _ _ _
  refine wpAny_bind (wpAny_tryCatch (W.item 0 _ _ _ (by simp) ⟨atI, hl.at fun o e => kept0 l o e⟩ fun v h' tk hv st' hk => ?_))
  have ev : v = .ref a0 := by
    have z : ((a0 :: as).map Value.ref).toArray[0]? = some v := hv
    exact (Option.some.inj (by simpa using z)).symm
  subst ev
  have nS : s.heap.objs.size + 1 ∉ [s.heap.objs.size] := by simp
  show wpAny _ A.in1 (updateSeq (s.heap.objs.size + 1) (fun _ => #[Value.ref a0, Value.ref a0]) >>= _) _ _ _
  refine wpAny_bind (wpAny_updateSeq (hk _ _ nS atS) rfl ?_)
  rw [hname]
  have kp1 : ∀ b o, s.heap.get? b = some o → (h'.update (s.heap.objs.size + 1) (Obj.mapSeq fun _ => #[Value.ref a0, Value.ref a0])).get? b = some o := fun b o e =>
    (Heap.get?_update_other _ _ (Ne.symm (old e).2)).trans (hk b o (old e).1 (kept0 b o e))
  obtain ⟨its0, t0, i0⟩ := h0
  have nf : s.heap.objs.size + 1 ∉ [s.heap.objs.size, l] := fun hb => by
    rcases List.mem_cons.mp hb with z | z
    · exact Nat.succ_ne_self _ z
    · exact absurd ((List.mem_singleton.mp z) ▸ ll) (Nat.not_lt.mpr (Nat.le_succ _))
  refine wpAny_pure ⟨plainId_quiet F.plain_min_loop _, min_stays W (S := s.heap.objs.size + 1) nf (Kp := fun h => ∀ b o, s.heap.get? b = some o → h.get? b = some o) (fun h1 h2 k1 k2 b o e => k2 b o (old e).1 (old e).2 (k1 b o e)) (v0 := .ref a0) (fun j v s1 Q1 E1 hv k1 q => ?_) as.length 0 _ _ (by simp; omega) ?_ kp1 (Heap.get?_update_self _ (hk _ _ nS atS) rfl) fun h2 tk2 k2 => ?_⟩
  · have hv' : ((a0 :: as).map Value.ref)[j + 1]? = some v := by simpa using hv
    rw [List.map_cons, List.getElem?_cons_succ, List.getElem?_map] at hv'
    obtain ⟨a, ha, rfl⟩ := Option.map_eq_some_iff.mp hv'
    obtain ⟨its, ns, t1, i1, lx⟩ := hr a (List.mem_of_getElem? ha)
    have z := HT.lt_tupInts (prog := prog) (w := w) (A := A.in1) (E := E1) (Q := Q1) (t1.keeps k1) (t0.keeps k1) i1 i0 hu (by rw [lx]; exact q)
    exact z
  · exact W.frame _ _ _ st' fun b hb o e => (Heap.get?_update_other _ _ (show s.heap.objs.size + 1 ≠ b from fun z => nf (by rw [z]; exact hb))).trans e
  · exact hQ h2 tk2 fun b o e => k2 b o (old e).1 (old e).2 (kp1 b o e)
/-- by values: the first of the pairs is the least -/
theorem cr_minT {X : Cx} (hc : X.calm = true) (hu : X.A.units + 64 < cLine) : CallR X (.builtin "min") (fun vs H Q => ∃ (a a0 : Addr) (as : List Addr) (ns0 : List Int), vs = [.ref a] ∧ SqL X.K H a ((a0 :: as).map V.ref) ∧ SqT X.K H a0 (ns0.map V.int) ∧
    (∀ b ∈ as, ∃ ns : List Int, SqT X.K H b (ns.map V.int) ∧ HT.lexLt ns ns0 = false) ∧ Q (.ref a0) H) := by
  intro pins s σ H vs us Q I r h
  obtain ⟨a, a0, as, ns0, rfl, hl, h0, hr, q⟩ := h
  rw [Vals.ref1 r]
  obtain ⟨its, rv, pl, _⟩ := I.list hl
  have ei : its = (a0 :: as).map Value.ref := by
    have key : ∀ (bs : List Addr) (us : List Value), Vals (bs.map V.ref) us → us = bs.map Value.ref := fun bs => by
      induction bs with
      | nil => intro us r; cases r; rfl
      | cons b bs ih =>
        intro us r
        cases r with
        | cons r1 r2 =>
          rw [ih _ r2, List.map_cons]
          congr 1
    exact key _ _ rv
  subst ei
  obtain ⟨its0, r0, t0, _⟩ := I.tuple h0
  refine min_tuples (I.ok.hd hc) (show X.A.in1.units < cLine by have : X.A.in1.units ≤ X.A.units + 1 := Nat.le_refl _; omega) pl.isList ⟨its0.toArray, t0, intsAre_of r0⟩ (fun b hb => ?_) fun h' tk k => ⟨.ref a0, H, I.kept k, rfl, q⟩
  obtain ⟨ns, hs, lx⟩ := hr b hb
  obtain ⟨itsb, rb, tb, _⟩ := I.tuple hs
  exact ⟨itsb.toArray, ns, tb, intsAre_of rb, lx⟩
end K8
/-! What every def's walk leans on: a def that is proved (Pr), the names of the top (Tf), heaps, data. -/
namespace K8
open PySem PySem.Spec PyProof.Rows L2

def topS (i : Nat) : Stmt := PySem.Challenge.pw_manrods_k88_whole_gauges_that_part_most.main.body.getD i (.Pass ⟨0, 0, 0, 0⟩)

/-! ### a def as it stands behind the top; a def that is proved -/
structure Df (K : PySem.W.Frag) (mg : Str → Option Value) (x : Str) (st : Stmt) (ps : List Str) : Prop where
  ex : ∃ f fd, Fun K x x st f fd ∧ mg x = some (.ref f) ∧ Binds K fd ps []
structure Pr (P : Program) (w : World) (K : PySem.W.Frag) (mg : Str → Option Value) (base : Heap) (CX : CXT) (k : Nat) (x : Str) (ps : List Str) (sp : Sp) : Prop where
  ex : ∃ f fd, mg x = some (.ref f) ∧ PySem.W.keepIn K (.ref f) = true ∧ Binds K fd ps [] ∧ FnOk P w K mg base CX k f fd ps sp
section
variable {P : Program} {w : World} {K : PySem.W.Frag} {mg : Str → Option Value} {base : Heap} {CX : CXT} {k : Nat} {x : Str} {st : Stmt} {ps : List Str} {sp : Sp}
theorem Df.pr (D : Df K mg x st ps) (h : ∀ f fd, Fun K x x st f fd → mg x = some (.ref f) → PySem.W.keepIn K (.ref f) = true → Binds K fd ps [] → FnOk P w K mg base CX k f fd ps sp) : Pr P w K mg base CX k x ps sp := by
  obtain ⟨f, fd, F, m, b⟩ := D.ex
  exact ⟨f, fd, m, F.kp, b, h f fd F m F.kp b⟩
theorem Pr.imp (O : Pr P w K mg base CX k x ps sp) {sp' : Sp} (h : ∀ vs H Q E, sp' vs H Q E → sp vs H Q E) : Pr P w K mg base CX k x ps sp' := by
  obtain ⟨f, fd, m, kp, b, F⟩ := O.ex
  exact ⟨f, fd, m, kp, b, F.imp h⟩
theorem Pr.use {X : Cx} {E : XK} {p pos : Pos} {e : Expr} {es : List Expr} {t : TA} (O : Pr X.prog X.w X.K X.mg X.base CX k x ps sp) (hr : Room k X.A) (hg : Gl X x) (hx : Passes CX X E) (ha : PA X (e :: es) t)
    (hdb : (x == ("__debug__" : Str)) = false := by decide) (he : starEach (e :: es) X.env = (false, eval e X.env) :: starEach es X.env := by rfl) (hpl : (backTo pos (starEach es X.env)).any (·.1) = false := by rfl) :
    PE X (.Call (.Name x p) (e :: es) [] pos) (tCall sp [] E t) := by
  obtain ⟨f, fd, m, kp, b, F⟩ := O.ex
  exact pe_call F hr hg m kp b .nil hx ha hdb he hpl
theorem Pr.use0 {X : Cx} {E : XK} {p pos : Pos} (O : Pr X.prog X.w X.K X.mg X.base CX k x ps sp) (hr : Room k X.A) (hg : Gl X x) (hx : Passes CX X E) (hdb : (x == ("__debug__" : Str)) = false := by decide) :
    PE X (.Call (.Name x p) [] [] pos) (tCall sp [] E tNil) := by
  obtain ⟨f, fd, m, kp, b, F⟩ := O.ex
  exact pe_call0 F hr hg m kp b .nil hx hdb
end

/-! ### the names of the top that are built-ins or constants -/
structure Tf (mg : Str → Option Value) : Prop where
  len : mg "len" = none
  isinstance : mg "isinstance" = none
  list : mg "list" = none
  tuple : mg "tuple" = none
  bool : mg "bool" = none
  str : mg "str" = none
  int : mg "int" = none
  LookupError : mg "LookupError" = none
  enumerate : mg "enumerate" = none
  min : mg "min" = none
  max : mg "max" = none
  range : mg "range" = none
  zip : mg "zip" = none
  abs : mg "abs" = none
  all : mg "all" = none
  c_ROOM : ∃ t, mg "ROOM" = some (.int 1 t)
  c_SPRING : ∃ t, mg "SPRING" = some (.int 2 t)
  c_MEASURE : ∃ t, mg "MEASURE" = some (.int 3 t)
  c_ROD : ∃ t, mg "ROD" = some (.int 4 t)
theorem pe_cst {X : Cx} {x : Str} {i : Int} {pos : Pos} (hg : Gl X x) (h : ∃ t, X.mg x = some (.int i t)) (hd : (x == ("__debug__" : Str)) = false := by decide) : PE X (.Name x pos) (tC (.int i)) := by
  obtain ⟨t, e⟩ := h
  exact pe_glob hg e ⟨t, rfl⟩ hd

/-! ### heaps -/
section
variable {K : PySem.W.Frag} {H H' : Hp} {a p : Addr} {o : HO} {xs : List V}
theorem same_put (s : Same H H') (h : H p = none) : Same H (upd H' p o) := fun b u e => by
  rw [upd_ne (ne_of_none e h)]
  exact s b u e
theorem same_new (s : Same H H') (h : H' p = none) : Same H (upd H' p o) := same_put s (s.free h)
theorem same_seqT (e : Same H H') (h : SqT K H a xs) : SqT K H' a xs := by
  rcases h with (h | ⟨o, h⟩) | h
  · exact .inl (.inl (e _ _ h))
  · exact .inl (.inr ⟨o, e _ _ h⟩)
  · exact .inr h
theorem sql_of (h : H a = some (.lst xs)) : SqL K H a xs := .inl (.inl h)
theorem sqt_of (h : H a = some (.tup xs)) : SqT K H a xs := .inl (.inl h)

/-! ### what is new: the heap H without what A tracks -/
def New (A H : Hp) : Hp := fun b => match A b with
  | none => H b
  | some _ => none
/-- all that A tracks, H tracks -/
def Dom (A H : Hp) : Prop := ∀ b, H b = none → A b = none
theorem new_of {A H : Hp} {b : Addr} {o : HO} (h1 : A b = none) (h2 : H b = some o) : New A H b = some o := by
  show (match A b with | none => H b | some _ => none) = some o
  rw [h1]
  exact h2
theorem of_new {A H : Hp} {b : Addr} {o : HO} (h : New A H b = some o) : A b = none ∧ H b = some o := by
  have h' : (match A b with | none => H b | some _ => none) = some o := h
  cases e : A b with
  | none =>
    rw [e] at h'
    exact ⟨rfl, h'⟩
  | some u =>
    rw [e] at h'
    cases h'
theorem dom_of {A H : Hp} (s : Same A H) : Dom A H := fun _ h => s.free h
theorem dom_refl (A : Hp) : Dom A A := fun _ h => h
theorem dom_trans {A B C : Hp} (d : Dom A B) (e : Dom B C) : Dom A C := fun b h => d b (e b h)
theorem dom_upd {A H : Hp} {p : Addr} {o : HO} (d : Dom A H) : Dom A (upd H p o) := fun b h => by
  by_cases e : b = p
  · rw [e, upd_same] at h
    cases h
  · rw [upd_ne e] at h
    exact d b h
theorem dom_put {A H : Hp} {p : Addr} {o u : HO} (d : Dom A H) (h : H p = some u) : Dom (upd A p o) H := fun b hb => by
  have ne : b ≠ p := fun e => by
    rw [e, h] at hb
    cases hb
  rw [upd_ne ne]
  exact d b hb
theorem new_in {A H : Hp} : Same (New A H) H := fun _ _ h => (of_new h).2
theorem new_same {A H H' : Hp} (s : Same H H') : Same (New A H) (New A H') := fun b o h => new_of (of_new h).1 (s b o (of_new h).2)
/-- what a callee made is ours -/
theorem new_call {A H H' : Hp} (d : Dom A H) : Same (New H H') (New A H') := fun b o h => new_of (d b (of_new h).1) (of_new h).2
/-- an object that A tracks is written -/
theorem new_put {A H : Hp} {p : Addr} {o u : HO} (h : A p = some u) : Same (New A H) (New A (upd H p o)) := fun b v e => by
  obtain ⟨e1, e2⟩ := of_new e
  have ne : b ≠ p := fun z => by
    rw [z, h] at e1
    cases e1
  exact new_of e1 (by rw [upd_ne ne]; exact e2)
/-- a new object is laid -/
theorem new_lay {A H : Hp} {p : Addr} {o : HO} (h : H p = none) : Same (New A H) (New A (upd H p o)) := new_same (same_new (Same.refl H) h)
/-- less is asked to be old -/
theorem new_less {A B H : Hp} (d : Dom B A) : Same (New A H) (New B H) := fun b o e => new_of (d b (of_new e).1) (of_new e).2

/-! ### data -/
mutual
theorem dp_same (e : Same H H') : ∀ {d : PyData} {v : V}, Dp K H v d → Dp K H' v d
  | _, _, .non => .non
  | _, _, .bl b => .bl b
  | _, _, .int i => .int i
  | _, _, .str x => .str x
  | _, _, .lst h t => .lst (e.seq h) (dpAll_same e t)
  | _, _, .tup h t => .tup (same_seqT e h) (dpAll_same e t)
theorem dpAll_same (e : Same H H') : ∀ {ds : List PyData} {vs : List V}, DpAll K H vs ds → DpAll K H' vs ds
  | _, _, .nil => .nil
  | _, _, .cons h t => .cons (dp_same e h) (dpAll_same e t)
end
theorem dpAll_len : ∀ {vs : List V} {ds : List PyData}, DpAll K H vs ds → vs.length = ds.length
  | _, _, .nil => rfl
  | _, _, .cons _ t => congrArg (· + 1) (dpAll_len t)
theorem dpAll_get : ∀ {vs : List V} {ds : List PyData} {i : Nat} {d : PyData}, DpAll K H vs ds → ds[i]? = some d → ∃ v, vs[i]? = some v ∧ Dp K H v d
  | _, _, _, _, .nil, e => by simp at e
  | _, _, 0, _, .cons h _, e => by
    simp only [List.getElem?_cons_zero, Option.some.injEq] at e
    subst e
    exact ⟨_, rfl, h⟩
  | _, _, i + 1, _, .cons _ t, e => by
    obtain ⟨v, h1, h2⟩ := dpAll_get (i := i) t (by simpa using e)
    exact ⟨v, by simpa using h1, h2⟩
theorem dpAll_getV : ∀ {vs : List V} {ds : List PyData} {i : Nat} {v : V}, DpAll K H vs ds → vs[i]? = some v → ∃ d, ds[i]? = some d ∧ Dp K H v d
  | _, _, _, _, .nil, e => by simp at e
  | _, _, 0, _, .cons h _, e => by
    simp only [List.getElem?_cons_zero, Option.some.injEq] at e
    subst e
    exact ⟨_, rfl, h⟩
  | _, _, i + 1, _, .cons _ t, e => by
    obtain ⟨d, h1, h2⟩ := dpAll_getV (i := i) t (by simpa using e)
    exact ⟨d, by simpa using h1, h2⟩
theorem dpAll_app : ∀ {vs ws : List V} {ds es : List PyData}, DpAll K H vs ds → DpAll K H ws es → DpAll K H (vs ++ ws) (ds ++ es)
  | _, _, _, _, .nil, t => t
  | _, _, _, _, .cons h t, u => .cons h (dpAll_app t u)
theorem dpAll_one {v : V} {d : PyData} (h : Dp K H v d) : DpAll K H [v] [d] := .cons h .nil
theorem dp_list {v : V} {ds : List PyData} (h : Dp K H v (.list ds)) : ∃ a xs, v = .ref a ∧ SqL K H a xs ∧ DpAll K H xs ds := by
  cases h with
  | lst h t => exact ⟨_, _, rfl, h, t⟩
theorem dp_tuple {v : V} {ds : List PyData} (h : Dp K H v (.tuple ds)) : ∃ a xs, v = .ref a ∧ SqT K H a xs ∧ DpAll K H xs ds := by
  cases h with
  | tup h t => exact ⟨_, _, rfl, h, t⟩
theorem dp_int {v : V} {i : Int} (h : Dp K H v (.int i)) : v = .int i := by
  cases h
  rfl
theorem dpAll_ints : ∀ {ns : List Int} {vs : List V}, DpAll K H vs (ns.map .int) → vs = ns.map .int
  | [], _, .nil => rfl
  | n :: ns, _, .cons h t => by rw [List.map_cons, dpAll_ints t, dp_int h]
theorem ints_dpAll : ∀ (ns : List Int), DpAll K H (ns.map V.int) (ns.map .int)
  | [] => .nil
  | n :: ns => .cons (.int n) (ints_dpAll ns)
end
end K8
/-! tuple_of, _law_lists, _law_same: over data of at most n levels. -/
namespace K8
open PySem PySem.Spec PyProof.Rows L2

/-! ### more rules for lists and tuples alike -/
section
variable {X : Cx} {tg l : Expr} {tl : TE}
/-- a list or a tuple, walked -/
def iSeq (K : PySem.W.Frag) (tl : TE) : TI := fun σ H R => tl σ H fun x H1 => ∃ a xs, x = .ref a ∧ (SqL K H1 a xs ∨ SqT K H1 a xs) ∧ ∀ (J : It) (G : Hp → Prop), Walk J xs.length G (YAt xs) → (∀ H', Same H1 H' → G H') → R J H1
theorem pi_seq (hl : PE X l tl) : PI X tg l (iSeq X.K tl) := by
  refine ⟨fun pins s σ H R I h => thn (hl.run pins s σ H _ I h) fun v s1 ⟨x, H1, I1, r1, q1⟩ => ?_⟩
  obtain ⟨a, xs, rfl, hq, q⟩ := q1
  cases r1
  have new : ∀ (o : Obj) (b : Addr), b ∈ [s1.heap.objs.size] → FpOk X pins H1 b := fun o b hb => by
    rw [List.mem_singleton.mp hb]
    exact I1.fpOk (Nat.le_refl _) (I1.hok.fresh (Nat.le_refl _))
  rcases hq with hq | hq
  · obtain ⟨its, rv, p, hz⟩ := I1.list hq
    exact wpAny_pyIter_list p.isList ⟨s1.heap.objs.size, [s1.heap.objs.size], _, _, H1, rfl, I1.kept (t' := s1.toks) fun b o e => Heap.get?_push_of_some _ e, turn_list a _, ⟨_, Heap.get?_push_size _ rfl, rfl, rfl⟩, new { cls := .none, data := .fields #[] }, q _ _ walk_list fun H' e => e.seq hq⟩
  · obtain ⟨its, rv, p, hz⟩ := I1.tuple hq
    exact wpAny_pyIter_tuple (show s1.heap.IsTuple a its.toArray from p) ⟨s1.heap.objs.size, [s1.heap.objs.size], _, _, H1, rfl, I1.kept (t' := s1.toks) fun b o e => Heap.get?_push_of_some _ e, turn_tuple a _, ⟨_, Heap.get?_push_size _ rfl, rfl, rfl⟩, new { cls := .none, data := .fields #[] }, q _ _ walk_tup fun H' e => same_seqT e hq⟩
/-- (a, b, ..) = a list or a tuple of that length -/
theorem pg_seq {es : List Expr} {k : Nat} {t : TGs} {n : Nat} {pos : Pos} (hc : X.calm = true) (h : PGs X es t)
    (hn : (assignEach es X.env).length = n := by rfl) (hst : (assignEach es X.env).findIdx? (·.1) = none := by rfl) : PG X (.Tuple es k pos) (fun v σ H Q => ∃ a xs, v = .ref a ∧ (SqL X.K H a xs ∨ SqT X.K H a xs) ∧ xs.length = n ∧ t xs σ H Q) := by
  refine ⟨fun pins s σ H v u Q I r hw => ?_⟩
  obtain ⟨a, xs, rfl, hq, hl, q⟩ := hw
  rcases hq with hq | hq
  · exact (pg_unl hc h hn hst).run pins s σ H _ u Q I r ⟨a, xs, rfl, hq, hl, q⟩
  · exact (pg_tup hc h hn hst).run pins s σ H _ u Q I r ⟨a, xs, rfl, hq, hl, q⟩
end

/-! ### data of at most n levels -/
def Scal : PyData → Prop
  | .none | .bool _ | .int _ | .str _ => True
  | _ => False
def Lev : Nat → PyData → Prop
  | 0, d => Scal d
  | n + 1, .list ds => ds.length ≤ 1000 ∧ ∀ d ∈ ds, Lev n d
  | n + 1, .tuple ds => ds.length ≤ 1000 ∧ ∀ d ∈ ds, Lev n d
  | _ + 1, d => Scal d
/-- tuples in the place of lists -/
def tupN : Nat → PyData → PyData
  | n + 1, .list ds => .tuple (ds.map (tupN n))
  | n + 1, .tuple ds => .tuple (ds.map (tupN n))
  | _, d => d
def tyN : PyData → String
  | .none => "NoneType" | .bool _ => "bool" | .int _ => "int" | .str _ => "str" | .list _ => "list" | .tuple _ => "tuple" | .dict _ => "dict"
def isSq : PyData → Bool
  | .list _ | .tuple _ => true
  | _ => false
section
variable {K : PySem.W.Frag} {H : Hp} {a : Addr} {xs : List V}
theorem sql_ty (h : SqL K H a xs) : TyX K H (.ref a) (.type "list") := by
  rcases h with (h | ⟨o, h⟩) | ⟨o, its, n, h, c, _⟩
  · exact .base (.lst h)
  · exact .base (.frz h)
  · exact .kList h c
theorem sqt_ty (h : SqT K H a xs) : TyX K H (.ref a) (.type "tuple") := by
  rcases h with (h | ⟨o, h⟩) | ⟨o, its, n, h, c, _⟩
  · exact .base (.tup h)
  · exact .fTuple h
  · exact .kTuple h c
theorem dp_ty {v : V} {d : PyData} (h : Dp K H v d) : TyX K H v (.type (tyN d)) := by
  cases h with
  | non => exact .base .non
  | bl b => exact .base (.bl b)
  | int i => exact .base (.int i)
  | str x => exact .base (.str x)
  | lst h _ => exact sql_ty h
  | tup h _ => exact sqt_ty h
theorem kit_two {s : String} {b1 b2 : Bool} (h1 : kitB s "list" = some b1) (h2 : kitB s "tuple" = some b2) : PySem.W.kitAny K (.type s) [.type "list", .type "tuple"] = some (b1 || b2) := by
  refine kitAny_cons (kit_ty h1) (fun e => ?_) (fun e => by rw [e, Bool.true_or])
  rw [e, Bool.false_or]
  exact kitAny_cons (kit_ty h2) (fun e => by rw [e]; exact kitAny_nil) fun e => e
theorem kit_seq {v : V} {d : PyData} (h : Dp K H v d) : PySem.W.kitAny K (.type (tyN d)) [.type "list", .type "tuple"] = some (isSq d) := by
  cases h with
  | non => exact kit_two (s := "NoneType") (b1 := false) (b2 := false) (by decide +kernel) (by decide +kernel)
  | bl b => exact kit_two (s := "bool") (b1 := false) (b2 := false) (by decide +kernel) (by decide +kernel)
  | int i => exact kit_two (s := "int") (b1 := false) (b2 := false) (by decide +kernel) (by decide +kernel)
  | str x => exact kit_two (s := "str") (b1 := false) (b2 := false) (by decide +kernel) (by decide +kernel)
  | lst h _ => exact kit_two (s := "list") (b1 := true) (b2 := false) (by decide +kernel) (by decide +kernel)
  | tup h _ => exact kit_two (s := "tuple") (b1 := false) (b2 := true) (by decide +kernel) (by decide +kernel)
end

/-! ### tuple_of -/
abbrev s_tuple_of : Stmt := topS 3
abbrev N_tuple_of : List Str := ["thing", "part"]
theorem sc_tuple_of : FnScope N_tuple_of ["thing"] (defScope s_tuple_of) := ⟨rfl, rfl, rfl, by decide +kernel, rfl, by decide +kernel, by decide +kernel⟩
def spTup (K : PySem.W.Frag) (n : Nat) : Sp := fun vs H Q _ => ∃ v d, vs = [v] ∧ Dp K H v d ∧ Lev n d ∧ ∀ H' v', Same H H' → Dp K (New H H') v' (tupN n d) → Q v' H'
/-- the promise of a level less -/
def lessSp (sp : Nat → Sp) : Nat → Sp
  | 0 => fun _ _ _ _ => False
  | n + 1 => sp n
theorem lev_scal : ∀ {n : Nat} {d : PyData}, Lev n d → isSq d = false → Scal d
  | 0, _, h, _ => h
  | n + 1, d, h, e => by cases d <;> first | exact h | cases e
theorem tup_scal : ∀ {n : Nat} {d : PyData}, isSq d = false → tupN n d = d
  | 0, _, _ => rfl
  | n + 1, d, e => by cases d <;> first | rfl | cases e
/-- the items of a list or a tuple -/
def kids : PyData → List PyData
  | .list ds => ds
  | .tuple ds => ds
  | _ => []
theorem dp_kids {K : PySem.W.Frag} {H : Hp} {v : V} {d : PyData} (h : Dp K H v d) (e : isSq d = true) : ∃ a xs, v = .ref a ∧ (SqL K H a xs ∨ SqT K H a xs) ∧ DpAll K H xs (kids d) := by
  cases h with
  | lst h t => exact ⟨_, _, rfl, .inl h, t⟩
  | tup h t => exact ⟨_, _, rfl, .inr h, t⟩
  | _ => cases e
theorem dp_scal {K : PySem.W.Frag} {H H' : Hp} {v : V} {d : PyData} (h : Dp K H v d) (e : isSq d = false) : Dp K H' v d := by
  cases h with
  | non => exact .non
  | bl b => exact .bl b
  | int i => exact .int i
  | str x => exact .str x
  | lst h t => cases e
  | tup h t => cases e
theorem lev_kids {n : Nat} {d : PyData} (h : Lev n d) (e : isSq d = true) : ∃ m, n = m + 1 ∧ (kids d).length ≤ 1000 ∧ ∀ c ∈ kids d, Lev m c := by
  cases n with
  | zero => cases d <;> first | exact h.elim | cases e
  | succ n => cases d <;> first | exact ⟨n, rfl, h.1, h.2⟩ | cases e
theorem tup_kids {n : Nat} {d : PyData} (e : isSq d = true) : tupN (n + 1) d = .tuple ((kids d).map (tupN n)) := by
  cases d <;> first | rfl | cases e
section
variable {P : Program} {w : World} {K : PySem.W.Frag} {mg : Str → Option Value} {base : Heap}
theorem Df.less {x : Str} {st : Stmt} {ps : List Str} {sp : Nat → Sp} (D : Df K mg x st ps) : Pr P w K mg base CX0 0 x ps (lessSp sp 0) :=
  D.pr fun f fd F _ _ _ => ⟨fun _ _ _ _ h => h.elim, fun _ _ _ _ _ _ _ _ _ _ _ _ _ h => h.elim⟩
theorem tuple_of_step (T : Tf mg) (D : Df K mg "tuple_of" s_tuple_of ["thing"]) (n : Nat) (O_tuple_of : Pr P w K mg base CX0 n "tuple_of" ["thing"] (lessSp (spTup K) n)) : Pr P w K mg base CX0 (n + 1) "tuple_of" ["thing"] (spTup K n) := by
  refine D.pr fun f fd F _ _ _ => F.ok sc_tuple_of (fun vs H Q E h => by obtain ⟨v, d, rfl, _⟩ := h; rfl) fun cdv A outer s H vs Q E hr h => ?_
  obtain ⟨v, d, rfl, hd, hl, q⟩ := h
  refine ⟨_, (pss_cons (ps_if (pt_val (pe_callB call_isiT (by rfl) T.isinstance (by decide +kernel) (pa_cons (pv 0) (pa_cons (pe_tup (pa_cons (pe_bltn (v := .ty "list") rfl T.list (by decide +kernel) rfl) (pa_cons (pe_bltn (v := .ty "tuple") rfl T.tuple (by decide +kernel) rfl) pa_nil))) pa_nil))))
      (pss_one (ps_ret (pe_callTy call_tuple_of (by rfl) T.tuple (by decide +kernel) (pa_cons (pe_lc (own := [("part", 1)]) (g := gName 1) (tt := tYes) rfl sc_tuple_of.nd (pi_seq (pv 0)) (blkOk_by (own := [("part", 1)]) (N := N_tuple_of) (sc := defScope s_tuple_of) (by decide +kernel)) (fun _ _ _ _ _ => (pg_name (i := 1) sc_tuple_of.nd rfl (.inl rfl))) (fun _ _ _ _ _ => pts_nil) (fun _ _ _ _ _ => (O_tuple_of.use hr (by rfl) pass0 (pa_cons (pv 1) pa_nil)))) pa_nil))))
      pss_nil)
    (pss_one (ps_ret (pv 0)))), ?_⟩
  -- isinstance(thing, (list, tuple))
  refine ⟨v, rfl, by show 2 ≤ sizeLine; decide, fun tp ntp => ?_⟩
  have s1 : Same H (upd H tp (.tup [.ty "list", .ty "tuple"])) := same_new (Same.refl H) ntp
  have hd1 := dp_same s1 hd
  refine ⟨v, tp, [.ty "list", .ty "tuple"], .type (tyN d), [.type "list", .type "tuple"], isSq d, rfl, upd_same, .cons (.ty _) (.cons (.ty _) .nil), dp_ty hd1, kit_seq hd, isSq d, rfl, ?_⟩
  cases e : isSq d with
  | false =>
    refine iteF ?_
    exact ⟨v, rfl, q _ _ s1 (by rw [tup_scal e]; exact dp_scal hd e)⟩
  | true =>
    refine iteT ?_
    obtain ⟨m, rfl, kl, lk⟩ := lev_kids hl e
    obtain ⟨a, xs, rfl, hq, hx⟩ := dp_kids hd1 e
    have hxl := dpAll_len hx
    refine ⟨.ref a, rfl, a, xs, rfl, hq, fun J G wk hG D nD => ?_⟩
    generalize hH1 : upd H tp (.tup [.ty "list", .ty "tuple"]) = H1 at *
    refine lc_it wk (Pv := fun i Hc => Same H1 Hc ∧ ∃ ys, Hc D = some (.lst ys) ∧ DpAll K (New (upd H1 D (.lst [])) Hc) ys (((kids d).take i).map (tupN m))) ⟨same_new (Same.refl _) nD, [], upd_same, .nil⟩ (fun i Hc _ p => hG _ p.1) (fun i x Hc H' hi p y => ?_) fun Hc p => ?_
    · obtain ⟨sc, ys, eD, hy⟩ := p
      obtain ⟨rfl, hxi⟩ := y
      obtain ⟨c, hc, hdc⟩ := dpAll_getV hx hxi
      refine ⟨rfl, x, rfl, x, c, rfl, dp_same sc hdc, lk c (List.mem_of_getElem? hc), fun H2 v' s2 hv => ⟨ys, s2 _ _ eD, ?_, same_put (sc.trans s2) nD, _, upd_same, ?_⟩⟩
      · rw [dpAll_len hy, List.length_map, List.length_take]
        exact small1000 (by omega)
      · have dm : Dom (upd H1 D (.lst [])) H' := dom_put (dom_of sc) eD
        have up : Same (New (upd H1 D (.lst [])) H2) (New (upd H1 D (.lst [])) (upd H2 D (.lst (ys ++ [v'])))) := new_put upd_same
        rw [List.take_add_one, hc, List.map_append]
        exact dpAll_app (dpAll_same ((new_same s2).trans up) hy) (dpAll_one (dp_same ((new_call dm).trans up) hv))
    · obtain ⟨sc, ys, eD, hy⟩ := p
      rw [hxl, List.take_length] at hy
      refine ⟨D, ys, rfl, .inl ⟨sql_of eD, fun l nl => ?_⟩⟩
      have sl := same_new (o := .tup ys) sc nl
      refine q _ _ (s1.trans sl) ?_
      rw [tup_kids e]
      refine .tup (sqt_of (new_of ((s1.trans sc).free nl) upd_same)) (dpAll_same (fun b o z => ?_) hy)
      obtain ⟨z1, z2⟩ := of_new z
      exact new_of (s1.free ((dom_upd (dom_refl H1)) b z1)) (same_new (Same.refl Hc) nl _ _ z2)
theorem ok_tuple_of (T : Tf mg) (D : Df K mg "tuple_of" s_tuple_of ["thing"]) : ∀ n, Pr P w K mg base CX0 (n + 1) "tuple_of" ["thing"] (spTup K n)
  | 0 => tuple_of_step T D 0 D.less
  | n + 1 => tuple_of_step T D (n + 1) (ok_tuple_of T D n)
end
end K8
/-! What the program computes, in plain Lean: a rest of the waters, a leaky run, who shows alike, the best gauge, the first parting. -/
namespace K8
open PySem
/-- a CISTERN -/
structure Well where
  lev : Int
  room : Int
  spr : Int
  mea : Int
  rod : Int
instance : Inhabited Well := ⟨⟨0, 0, 0, 0, 0⟩⟩
def Well.l (w : Well) : List Int := [w.lev, w.room, w.spr, w.mea, w.rod]
def wd (w : Well) : PyData := .tuple (w.l.map .int)
def wsd (ws : List Well) : PyData := .tuple (ws.map wd)
/-- a leak: the CISTERN's number, how much, from which rest on -/
abbrev Leak := Option (Int × Int × Int)
def lkd : Leak → PyData
  | none => .none
  | some (k, m, t) => .tuple [.str "valve", .int k, .int m, .int t]
def ind (ns : List Int) : List PyData := ns.map .int
/-- min(a, b), max(a, b) of the language -/
def mn (a b : Int) : Int := if b < a then b else a
def mx (a b : Int) : Int := if b > a then b else a

/-! ### one rest -/
def upM (r : Int) : Int := if r % 2 = 0 then 1 else 0
def brf (ws : List Well) (held lks : List Int) (up : Int) (k : Nat) : Int := mx 0 ((if (ws.getD k default).rod = up then mn (ws.getD k default).mea (held.getD k 0) else 0) - lks.getD k 0)
def brM (ws : List Well) (held lks : List Int) (up : Int) : List Int := (List.range ws.length).map (brf ws held lks up)
/-- one lift's bringing carried over -/
def strokeStep (f : List Int) (i : Nat) (m : Int) : List Int :=
  if i + 1 < f.length then (f.set i (f.getD i 0 - m)).set (i + 1) ((f.set i (f.getD i 0 - m)).getD (i + 1) 0 + m) else f.set i (f.getD i 0 - m)
def strokeM (f : List Int) (br : List Int) : Nat → List Int
  | 0 => f
  | i + 1 => strokeStep (strokeM f br i) i (br.getD i 0)
def springM (ws : List Well) (f : List Int) : List Int := (List.range ws.length).map fun k => f.getD k 0 + (ws.getD k default).spr
/-- what one CISTERN spills, carried down -/
def spillStep (ws : List Well) (f : List Int) (k : Nat) : List Int :=
  (f.set k (f.getD k 0 - mx 0 (f.getD k 0 - (ws.getD k default).room))).set (k - 1) ((f.set k (f.getD k 0 - mx 0 (f.getD k 0 - (ws.getD k default).room))).getD (k - 1) 0 + mx 0 (f.getD k 0 - (ws.getD k default).room))
/-- the first i spills, from the last CISTERN on -/
def spillM (ws : List Well) (f : List Int) : Nat → List Int
  | 0 => f
  | i + 1 => spillStep ws (spillM ws f i) (f.length - 1 - i)
def lastM (l : List Int) : Int := l.getD (l.length - 1) 0
def restM (ws : List Well) (held lks : List Int) (r : Int) : List Int × Int :=
  let st := strokeM held (brM ws held lks (upM r)) ws.length
  let st2 := if r % 2 = 1 then springM ws st else st
  (spillM ws st2 (st2.length - 1), lastM (brM ws held lks (upM r)))
def lksM (n : Nat) (lk : Leak) (r : Int) : List Int :=
  match lk with
  | none => List.replicate n 0
  | some (k, m, t) => if t ≤ r then (List.replicate n 0).set k.toNat m else List.replicate n 0
/-! ### a leaky run -/
def heldM (ws : List Well) (lk : Leak) : Nat → List Int
  | 0 => List.replicate ws.length 0
  | r + 1 => (restM ws (heldM ws lk r) (lksM ws.length lk r) r).1
def outM (ws : List Well) (lk : Leak) (r : Nat) : Int := (restM ws (heldM ws lk r) (lksM ws.length lk r) r).2
def rowsD (ws : List Well) (lk : Leak) (m : Nat) : List PyData := (List.range (m + 1)).map fun r => .tuple (ind (heldM ws lk r))
def outsD (ws : List Well) (lk : Leak) (m : Nat) : List PyData := (List.range m).map fun r => .int (outM ws lk r)
/-! ### the lengths -/
theorem strokeStep_len (f : List Int) (i : Nat) (m : Int) : (strokeStep f i m).length = f.length := by
  unfold strokeStep
  split <;> simp
theorem strokeM_len (f br : List Int) : ∀ i, (strokeM f br i).length = f.length
  | 0 => rfl
  | i + 1 => by
    show (strokeStep _ _ _).length = _
    rw [strokeStep_len, strokeM_len f br i]
theorem spillStep_len (ws : List Well) (f : List Int) (k : Nat) : (spillStep ws f k).length = f.length := by
  unfold spillStep
  simp
theorem spillM_len (ws : List Well) (f : List Int) : ∀ i, (spillM ws f i).length = f.length
  | 0 => rfl
  | i + 1 => by
    show (spillStep _ _ _).length = _
    rw [spillStep_len, spillM_len ws f i]
theorem springM_len (ws : List Well) (f : List Int) : (springM ws f).length = ws.length := by
  unfold springM
  simp
theorem brM_len (ws : List Well) (held lks : List Int) (up : Int) : (brM ws held lks up).length = ws.length := by
  unfold brM
  simp
theorem lksM_len (n : Nat) (lk : Leak) (r : Int) : (lksM n lk r).length = n := by
  unfold lksM
  split
  · simp
  · split <;> simp
theorem restM_len (ws : List Well) (held lks : List Int) (r : Int) (h : held.length = ws.length) : (restM ws held lks r).1.length = ws.length := by
  show (spillM ws (if r % 2 = 1 then springM ws (strokeM held (brM ws held lks (upM r)) ws.length) else strokeM held (brM ws held lks (upM r)) ws.length) _).length = ws.length
  rw [spillM_len]
  split
  · exact springM_len _ _
  · rw [strokeM_len, h]
theorem heldM_len (ws : List Well) (lk : Leak) : ∀ r, (heldM ws lk r).length = ws.length
  | 0 => by simp [heldM]
  | r + 1 => restM_len ws _ _ _ (heldM_len ws lk r)
/-! ### greatest, least, first -/
def maxL : List Int → Int
  | [] => 0
  | [x] => x
  | x :: y :: r => if maxL (y :: r) ≤ x then x else maxL (y :: r)
def minL : List Int → Int
  | [] => 0
  | [x] => x
  | x :: y :: r => if x ≤ minL (y :: r) then x else minL (y :: r)
theorem maxL_spec : ∀ (l : List Int), l ≠ [] → maxL l ∈ l ∧ ∀ y ∈ l, y ≤ maxL l
  | [], h => absurd rfl h
  | [x], _ => ⟨by simp [maxL], by simp [maxL]⟩
  | x :: y :: r, _ => by
    obtain ⟨h1, h2⟩ := maxL_spec (y :: r) (by simp)
    unfold maxL
    split
    · rename_i h
      refine ⟨by simp, fun z hz => ?_⟩
      rcases List.mem_cons.mp hz with e | hz
      · omega
      · have := h2 z hz
        omega
    · rename_i h
      refine ⟨List.mem_cons_of_mem _ h1, fun z hz => ?_⟩
      rcases List.mem_cons.mp hz with e | hz
      · omega
      · exact h2 z hz
theorem minL_spec : ∀ (l : List Int), l ≠ [] → minL l ∈ l ∧ ∀ y ∈ l, minL l ≤ y
  | [], h => absurd rfl h
  | [x], _ => ⟨by simp [minL], by simp [minL]⟩
  | x :: y :: r, _ => by
    obtain ⟨h1, h2⟩ := minL_spec (y :: r) (by simp)
    unfold minL
    split
    · rename_i h
      refine ⟨by simp, fun z hz => ?_⟩
      rcases List.mem_cons.mp hz with e | hz
      · omega
      · have := h2 z hz
        omega
    · rename_i h
      refine ⟨List.mem_cons_of_mem _ h1, fun z hz => ?_⟩
      rcases List.mem_cons.mp hz with e | hz
      · omega
      · exact h2 z hz
theorem maxL_eq {l : List Int} {m : Int} (h1 : m ∈ l) (h2 : ∀ y ∈ l, y ≤ m) : m = maxL l := by
  obtain ⟨h3, h4⟩ := maxL_spec l (fun e => by rw [e] at h1; cases h1)
  have := h2 _ h3
  have := h4 _ h1
  omega
theorem minL_eq {l : List Int} {m : Int} (h1 : m ∈ l) (h2 : ∀ y ∈ l, m ≤ y) : m = minL l := by
  obtain ⟨h3, h4⟩ := minL_spec l (fun e => by rw [e] at h1; cases h1)
  have := h2 _ h3
  have := h4 _ h1
  omega
def shownM (ws : List Well) (lks : List Leak) (g : Nat) (m : Nat) : List Int := lks.map fun lk => (heldM ws lk m).getD g 0
def countsOf (sh : List Int) : List Int := sh.map fun x => ((sh.count x : Nat) : Int)
/-- how many show alike at most, at the gauge (g, m) -/
def alikeM (ws : List Well) (lks : List Leak) (g : Int × Int) : Int := maxL (countsOf (shownM ws lks g.1.toNat g.2.toNat))
def firstMin (cs : List Int) : Nat := cs.findIdx fun c => c == minL cs
def bestM (ws : List Well) (lks : List Leak) (gs : List (Int × Int)) : Int × Int := gs.getD (firstMin (gs.map (alikeM ws lks))) (0, 0)
def gd (g : Int × Int) : PyData := .tuple [.int g.1, .int g.2]
def gsd (gs : List (Int × Int)) : PyData := .tuple (gs.map gd)
/-- the places where two tables of rows differ, in their order -/
def unlikeM (a b : Nat → List Int) (n m : Nat) : List (Nat × Nat) := (List.range (m + 1)).flatMap fun r => ((List.range n).filter fun k => (a r).getD k 0 != (b r).getD k 0).map fun k => (r, k)
def partM (ws : List Well) (l1 l2 : Leak) (m : Nat) : Option (Nat × Nat) := (unlikeM (heldM ws l1) (heldM ws l2) ws.length m).head?
def optD : Option (Nat × Nat) → PyData
  | none => .none
  | some (r, k) => .tuple [.int (r : Nat), .int (k : Nat)]
end K8
/-! One rest of the waters, as the program plays it. -/
namespace K8
open PySem PySem.Spec PyProof.Rows L2

theorem ift {c : Bool} {A B : Prop} (h : c = true) (a : A) : if c = true then A else B := by
  rw [if_pos h]
  exact a
theorem iff' {c : Bool} {A B : Prop} (h : c = false) (b : B) : if c = true then A else B := by
  rw [h, if_neg Bool.false_ne_true]
  exact b
theorem ifb {c : Bool} {A B : Prop} (h1 : c = true → A) (h2 : c = false → B) : if c = true then A else B := by
  cases c with
  | true => exact ift rfl (h1 rfl)
  | false => exact iff' rfl (h2 rfl)
theorem dec_vi (a b : Int) : decide (V.int a = V.int b) = decide (a = b) := by
  by_cases e : a = b
  · rw [e, decide_eq_true rfl, decide_eq_true rfl]
  · rw [decide_eq_false e, decide_eq_false fun z => e (V.int.inj z)]
theorem vi_t {a b : Int} (h : a = b) : decide (V.int a = V.int b) = true := decide_eq_true (congrArg _ h)
theorem vi_f {a b : Int} (h : ¬ a = b) : decide (V.int a = V.int b) = false := decide_eq_false fun z => h (V.int.inj z)
theorem vi_of {a b : Int} (h : decide (V.int a = V.int b) = true) : a = b := V.int.inj (of_decide_eq_true h)
theorem vi_nof {a b : Int} (h : decide (V.int a = V.int b) = false) : ¬ a = b := fun e => of_decide_eq_false h (congrArg _ e)
theorem joinI {c : Bool} {σ : L2.St} {H : Hp} {Q : VK} {a b : Int} (h : Q (.int (if c = true then a else b)) H) : if c = true then tC (.int a) σ H Q else tC (.int b) σ H Q := by
  cases c <;> exact h
theorem upM_dec (r : Int) : (if decide (V.int (r % 2) = V.int 0) = true then (1 : Int) else 0) = upM r := by
  rw [dec_vi]
  unfold upM
  by_cases e : r % 2 = 0
  · rw [if_pos e, decide_eq_true e, if_pos rfl]
  · rw [if_neg e, decide_eq_false e, if_neg Bool.false_ne_true]
/-- the first i values of a function -/
def firstV (f : Nat → Int) (i : Nat) : List V := (List.range i).map fun k => .int (f k)
theorem firstV_succ (f : Nat → Int) (i : Nat) : firstV f (i + 1) = firstV f i ++ [.int (f i)] := by
  unfold firstV
  rw [List.range_succ, List.map_append]
  rfl
theorem firstV_len (f : Nat → Int) (i : Nat) : (firstV f i).length = i := by simp [firstV]
theorem firstV_map (f : Nat → Int) (i : Nat) : firstV f i = ((List.range i).map f).map V.int := by
  unfold firstV
  rw [List.map_map]
  rfl
section
variable {K : PySem.W.Frag} {H : Hp}
theorem well_at {ws : List Well} {xs : List V} {k : Nat} {x : V} (h : DpAll K H xs (ws.map wd)) (hx : xs[k]? = some x) : ∃ b, x = .ref b ∧ SqT K H b ((ws.getD k default).l.map V.int) := by
  obtain ⟨d, e, hd⟩ := dpAll_getV h hx
  rw [List.getElem?_map] at e
  obtain ⟨w, ew, rfl⟩ := Option.map_eq_some_iff.mp e
  obtain ⟨b, ys, rfl, hs, hy⟩ := dp_tuple hd
  have e2 : ws.getD k default = w := by rw [List.getD_eq_getElem?_getD, ew]; rfl
  rw [e2]
  have e3 := dpAll_ints hy
  subst e3
  exact ⟨b, rfl, hs⟩
theorem int_at {ns : List Int} {k : Nat} (h : k < ns.length) : (ns.map V.int)[k]? = some (.int (ns.getD k 0)) := by
  rw [List.getElem?_map, List.getD_eq_getElem?_getD, List.getElem?_eq_getElem h]
  rfl
end

/-! ### dry_held -/
abbrev s_dry_held : Stmt := topS 9
abbrev N_dry_held : List Str := ["waters"]
theorem sc_dry_held : FnScope N_dry_held ["waters"] (defScope s_dry_held) := ⟨rfl, rfl, rfl, by decide +kernel, rfl, by decide +kernel, by decide +kernel⟩
def spDry (K : PySem.W.Frag) : Sp := fun vs H Q _ => ∃ a xs, vs = [.ref a] ∧ (SqL K H a xs ∨ SqT K H a xs) ∧ 1 ≤ xs.length ∧ xs.length ≤ 1000 ∧ ∀ H' p, Same H H' → SqT K (New H H') p ((List.replicate xs.length (0 : Int)).map V.int) → Q (.ref p) H'
section
variable {P : Program} {w : World} {K : PySem.W.Frag} {mg : Str → Option Value} {base : Heap}
theorem flat_one (n : Nat) : (List.replicate n [V.int 0]).flatten = (List.replicate n (0 : Int)).map V.int := by
  induction n with
  | zero => rfl
  | succ n ih => rw [List.replicate_succ, List.flatten_cons, ih, List.replicate_succ, List.map_cons]; rfl
theorem ok_dry_held (T : Tf mg) (D : Df K mg "dry_held" s_dry_held ["waters"]) : Pr P w K mg base CX0 1 "dry_held" ["waters"] (spDry K) := by
  refine D.pr fun f fd F _ _ _ => F.ok sc_dry_held (fun vs H Q E h => by obtain ⟨a, xs, rfl, _⟩ := h; rfl) fun cdv A outer s H vs Q E hr h => ?_
  obtain ⟨a, xs, rfl, hq, l1, l2, q⟩ := h
  refine ⟨_, (pss_one (ps_ret (pe_op (OpR.or op_repT op_repT1) (pe_tup (pa_cons pe_int pa_nil)) (pe_callB call_len_seq (by rfl) T.len PySem.boot_len (pa_cons (pv 0) pa_nil))))), ?_⟩
  refine ⟨by show 1 ≤ sizeLine; decide, fun z nz => ?_⟩
  have s1 : Same H (upd H z (.tup [.int 0])) := same_new (Same.refl H) nz
  have hq1 : SqL K (upd H z (.tup [.int 0])) a xs ∨ SqT K (upd H z (.tup [.int 0])) a xs := hq.imp s1.seq (same_seqT s1)
  refine ⟨.ref a, rfl, a, xs, rfl, hq1, ?_⟩
  by_cases e : xs.length = 1
  · refine .inr ⟨z, [.int 0], rfl, by rw [e]; rfl, sqt_of upd_same, q _ _ s1 ?_⟩
    rw [e]
    exact sqt_of (new_of nz upd_same)
  · refine .inl ⟨z, _, [.int 0], rfl, rfl, sqt_of upd_same, by simp, by omega, by omega, by simp, fun p np => q _ _ (s1.trans (same_new (Same.refl _) np)) ?_⟩
    rw [Int.toNat_natCast, flat_one]
    exact sqt_of (new_of (s1.free np) upd_same)

/-! ### brings -/
abbrev s_brings : Stmt := topS 10
abbrev N_brings : List Str := ["waters", "held", "made", "loose", "leaks", "rises", "found", "number", "own", "takes"]
theorem sc_brings : FnScope N_brings ["waters", "held", "made", "loose", "leaks"] (defScope s_brings) := ⟨rfl, rfl, rfl, by decide +kernel, rfl, by decide +kernel, by decide +kernel⟩
def spBrings (K : PySem.W.Frag) : Sp := fun vs H Q _ => ∃ (v : V) (ws : List Well) (h l lk : Addr) (held lks : List Int) (made : Int), vs = [v, .ref h, .int made, .ref l, .ref lk] ∧ Dp K H v (wsd ws) ∧ SqT K H h (held.map V.int) ∧ SqT K H l [] ∧ SqT K H lk (lks.map V.int) ∧
  held.length = ws.length ∧ lks.length = ws.length ∧ ws.length ≤ 1000 ∧ ∀ H' p, Same H H' → SqT K (New H H') p ((brM ws held lks (upM made)).map V.int) → Q (.ref p) H'
theorem ok_brings (T : Tf mg) (D : Df K mg "brings" s_brings ["waters", "held", "made", "loose", "leaks"]) : Pr P w K mg base CX0 1 "brings" ["waters", "held", "made", "loose", "leaks"] (spBrings K) := by
  refine D.pr fun f fd F _ _ _ => F.ok sc_brings (fun vs H Q E h => by obtain ⟨_, _, _, _, _, _, _, _, rfl, _⟩ := h; rfl) fun cdv A outer s H vs Q E hr h => ?_
  obtain ⟨v, ws, h, l, lk, held, lks, made, rfl, hw, hh, hl, hk, e1, e2, hz, q⟩ := h
  obtain ⟨a, xs, rfl, ha, hx⟩ := dp_tuple hw
  have hxl : xs.length = ws.length := by rw [dpAll_len hx, List.length_map]
  refine ⟨_, (pss_cons (ps_par (i := 5) (j := 6) (by rfl) sc_brings.nd rfl rfl (by decide) rfl rfl (pa_cons (pe_ifExp (pt_cmpR op_eq (pe_op op_mod (pv 2) pe_int) pe_int (nomark _)) pe_int pe_int) (pa_cons (pe_lst pa_nil) pa_nil)) (by rfl))
    (pss_cons (ps_for PassesOwn.never rfl (pi_enumT (by rfl) T.enumerate (pa_cons (pv 0) pa_nil)) (pg_tup rfl (pgs_cons (pg_name (i := 7) sc_brings.nd rfl (.inl rfl)) (pgs_cons (pg_name (i := 8) sc_brings.nd rfl (.inl rfl)) pgs_nil)))
      (pss_cons (ps_set (i := 9) sc_brings.nd rfl (.inl rfl) (pe_ifExp (PW.pt (pw_and (pt_cmpR op_eq (pe_ix ix_tup (pv 8) (pe_cst rfl T.c_ROD) (fun _ _ => rfl)) (pv 5) (nomark _)) (pw_and1 (pt_cmpR op_notIn_seq (pv 7) (pv 3) (by rfl))))) (pe_callB (call_min2 rfl) (by rfl) T.min (by decide +kernel) (pa_cons (pe_ix ix_tup (pv 8) (pe_cst rfl T.c_MEASURE) (fun _ _ => rfl)) (pa_cons (pe_ix ix_tup (pv 1) (pv 7) (fun _ _ => rfl)) pa_nil))) pe_int))
    (pss_one (ps_expr (pe_bm PySem.F.plainAttrs_list PySem.F.slot_list_append PySem.F.type_list_append mt_append (pv 6) (pa_cons (pe_callB (call_max2 rfl) (by rfl) T.max (by decide +kernel) (pa_cons pe_int (pa_cons (pe_op op_sub (pv 9) (pe_ix ix_tup (pv 4) (pv 7) (fun _ _ => rfl))) pa_nil))) pa_nil))))))
    (pss_one (ps_ret (pe_callTy call_tuple_of (by rfl) T.tuple (by decide +kernel) (pa_cons (pv 6) pa_nil)))))), ?_⟩
  -- rises, found
  refine ⟨.int made, rfl, made, 2, rfl, rfl, by show (0 : Int) < 2; decide, rfl, _, rfl, joinI ?_⟩
  rw [upM_dec]
  refine ⟨Nat.zero_le _, fun fo nf => ⟨_, _, rfl, ?_⟩⟩
  have s0 : Same H (upd H fo (.lst [])) := same_new (Same.refl H) nf
  refine ⟨.ref a, rfl, a, xs, rfl, same_seqT s0 ha, for_it (walk_enumT (xs := xs)) (Pv := fun i σ Hc => ∃ y7 y8 y9, σ = [some (.ref a), some (.ref h), some (.int made), some (.ref l), some (.ref lk), some (.int (upM made)), some (.ref fo), y7, y8, y9] ∧ Same H Hc ∧ Hc fo = some (.lst (firstV (brf ws held lks (upM made)) i)))
    ⟨none, none, none, rfl, s0, upd_same⟩ (fun i σ Hc _ p => ?_) (fun i x σ Hc H' hi p y => ?_) fun σ Hc p => ?_⟩
  · obtain ⟨_, _, _, _, sc, _⟩ := p
    exact same_seqT sc ha
  · obtain ⟨y7, y8, y9, rfl, sc, ef⟩ := p
    obtain ⟨T0, x0, x1, rfl, nT, rfl, g0, g1⟩ := y
    cases g0
    have sT : Same Hc (upd Hc T0 (.tup [.int (i : Nat), x1])) := same_new (Same.refl _) nT
    have sH := sc.trans sT
    obtain ⟨b, rfl, hb⟩ := well_at hx g1
    have hb' := same_seqT sH hb
    have fin : ∀ (t : Int) (y : Option V), mx 0 (t - lks.getD i 0) = brf ws held lks (upM made) i → ∃ y7 y8 y9, [some (.ref a), some (.ref h), some (.int made), some (.ref l), some (.ref lk), some (.int (upM made)), some (.ref fo), some (.int (i : Nat)), some (.ref b), y] = [some (.ref a), some (.ref h), some (.int made), some (.ref l), some (.ref lk), some (.int (upM made)), some (.ref fo), y7, y8, y9] ∧
        Same H (upd (upd Hc T0 (.tup [.int (i : Nat), .ref b])) fo (.lst (firstV (brf ws held lks (upM made)) i ++ [.int (mx 0 (t - lks.getD i 0))]))) ∧ upd (upd Hc T0 (.tup [.int (i : Nat), .ref b])) fo (.lst (firstV (brf ws held lks (upM made)) i ++ [.int (mx 0 (t - lks.getD i 0))])) fo = some (.lst (firstV (brf ws held lks (upM made)) (i + 1))) := fun t y et =>
      ⟨_, _, _, rfl, same_put sH nf, by rw [upd_same, firstV_succ, et]⟩
    have hi' : i < ws.length := by omega
    have lenf : (firstV (brf ws held lks (upM made)) i).length < sizeLine := by
      rw [firstV_len]
      exact small1000 (by omega)
    refine ⟨T0, _, rfl, sqt_of upd_same, rfl, _, _, rfl, _, _, rfl, rfl, ?_⟩
    refine ⟨.ref b, rfl, b, _, 4, .int (ws.getD i default).rod, rfl, rfl, hb', atI_nat (j := 4) rfl, .int (upM made), rfl, rfl, _, rfl, ifb (fun c => ?_) fun c => ?_⟩
    · refine ⟨.int (i : Nat), rfl, .ref l, rfl, l, [], rfl, .inr (same_seqT sH hl), rfl, rfl, _, rfl, ift rfl ?_⟩
      refine ⟨.ref b, rfl, b, _, 3, .int (ws.getD i default).mea, rfl, rfl, hb', atI_nat (j := 3) rfl, .ref h, rfl, .int (i : Nat), rfl, h, _, _, .int (held.getD i 0), rfl, rfl, same_seqT sH hh, atI_nat (int_at (by omega)), _, _, rfl, ?_⟩
      refine ⟨.ref fo, rfl, .inl ⟨rfl, _, sql_of (sT _ _ ef)⟩, .int (mn (ws.getD i default).mea (held.getD i 0)), rfl, .ref lk, rfl, .int (i : Nat), rfl, lk, _, _, .int (lks.getD i 0), rfl, rfl, same_seqT sH hk, atI_nat (int_at (by omega)), _, _, rfl, rfl, _, _, rfl, fo, _, _, rfl, rfl, sT _ _ ef, lenf, fin _ _ ?_⟩
      unfold brf
      rw [if_pos (vi_of c)]
    · refine ⟨.ref fo, rfl, .inl ⟨rfl, _, sql_of (sT _ _ ef)⟩, .int 0, rfl, .ref lk, rfl, .int (i : Nat), rfl, lk, _, _, .int (lks.getD i 0), rfl, rfl, same_seqT sH hk, atI_nat (int_at (by omega)), _, _, rfl, rfl, _, _, rfl, fo, _, _, rfl, rfl, sT _ _ ef, lenf, fin _ _ ?_⟩
      unfold brf
      rw [if_neg (vi_nof c)]
  · obtain ⟨y7, y8, y9, rfl, sc, ef⟩ := p
    refine ⟨.ref fo, rfl, fo, _, rfl, .inl ⟨sql_of ef, fun p np => q _ _ (sc.trans (same_new (Same.refl _) np)) ?_⟩⟩
    rw [show (brM ws held lks (upM made)).map V.int = firstV (brf ws held lks (upM made)) xs.length by rw [firstV_map, hxl]; rfl]
    exact sqt_of (new_of (sc.free np) upd_same)
end
end K8
/-! _law_lists, _law_same: over data of at most n levels. -/
namespace K8
open PySem PySem.Spec PyProof.Rows L2
abbrev s__law_lists : Stmt := topS 27
abbrev N__law_lists : List Str := ["_law_matter", "_law_own"]
theorem sc__law_lists : FnScope N__law_lists ["_law_matter"] (defScope s__law_lists) := ⟨rfl, rfl, rfl, by decide +kernel, rfl, by decide +kernel, by decide +kernel⟩
abbrev s__law_same : Stmt := topS 26
abbrev N__law_same : List Str := ["_law_got", "_law_goal", "_law_mine_so", "_law_own"]
theorem sc__law_same : FnScope N__law_same ["_law_got", "_law_goal"] (defScope s__law_same) := ⟨rfl, rfl, rfl, by decide +kernel, rfl, by decide +kernel, by decide +kernel⟩
/-- lists in the place of tuples -/
def lstN : Nat → PyData → PyData
  | n + 1, .list ds => .list (ds.map (lstN n))
  | n + 1, .tuple ds => .list (ds.map (lstN n))
  | _, d => d
theorem lst_scal : ∀ {n : Nat} {d : PyData}, isSq d = false → lstN n d = d
  | 0, _, _ => rfl
  | n + 1, d, e => by cases d <;> first | rfl | cases e
theorem lst_kids {n : Nat} {d : PyData} (e : isSq d = true) : lstN (n + 1) d = .list ((kids d).map (lstN n)) := by
  cases d <;> first | rfl | cases e
def spLst (K : PySem.W.Frag) (n : Nat) : Sp := fun vs H Q _ => ∃ v d, vs = [v] ∧ Dp K H v d ∧ Lev n d ∧ ∀ H' v', Same H H' → Dp K (New H H') v' (lstN n d) → Q v' H'
def spSame (K : PySem.W.Frag) (n : Nat) : Sp := fun vs H Q _ => ∃ v u d, vs = [v, u] ∧ Dp K H v d ∧ Dp K H u d ∧ Lev n d ∧ ∀ H', Same H H' → Q (.bl true) H'
/-- zip of two lists, or of two tuples, of one length -/
theorem walk_zipTT {K : PySem.W.Frag} {a b : Addr} {xs ys : List V} (hl : ys.length = xs.length) : Walk (RZ.ItzT K a b) xs.length (fun H => SqT K H a xs ∧ SqT K H b ys) (YPair (fun i => xs[i]?) (fun i => ys[i]?)) := by
  refine ⟨fun i _ hi q => ⟨xs, ys, xs[i], ys[i]'(hl ▸ hi), q.1, q.2, List.getElem?_eq_getElem hi, List.getElem?_eq_getElem _⟩, fun _ q => ⟨xs, ys, q.1, q.2, .inl (Nat.le_refl _)⟩, fun i H v H' _ q y => ?_⟩
  obtain ⟨T, x, z, h1, h2, h3, h4, h5⟩ := y
  exact ⟨T, x, z, h1, h2, h3, h4 xs q.1, h5 ys q.2⟩
theorem ty_mem : ∀ {K : PySem.W.Frag} {H : Hp} {v : V} {d : PyData}, Dp K H v d → tyN d ∈ ["NoneType", "bool", "int", "str", "list", "tuple"]
  | _, _, _, _, .non => by simp [tyN]
  | _, _, _, _, .bl _ => by simp [tyN]
  | _, _, _, _, .int _ => by simp [tyN]
  | _, _, _, _, .str _ => by simp [tyN]
  | _, _, _, _, .lst _ _ => by simp [tyN]
  | _, _, _, _, .tup _ _ => by simp [tyN]
theorem kit_some {K : PySem.W.Frag} {H : Hp} {v : V} {d : PyData} (h : Dp K H v d) (c : String) (hc : (["NoneType", "bool", "int", "str", "list", "tuple"].all fun s => (kitB s c).isSome) = true) : ∃ b, PySem.W.kitOne K (.type (tyN d)) (.type c) = some b := by
  obtain ⟨b, e⟩ := Option.isSome_iff_exists.mp (List.all_eq_true.mp hc _ (ty_mem h))
  exact ⟨b, kit_ty e⟩
theorem kit_one {K : PySem.W.Frag} {s c : String} {b : Bool} (h : kitB s c = some b) : PySem.W.kitOne K (.type s) (.type c) = some b := kit_ty h
section
variable {P : Program} {w : World} {K : PySem.W.Frag} {mg : Str → Option Value} {base : Heap}
theorem law_lists_step (T : Tf mg) (D : Df K mg "_law_lists" s__law_lists ["_law_matter"]) (n : Nat) (O__law_lists : Pr P w K mg base CX0 n "_law_lists" ["_law_matter"] (lessSp (spLst K) n)) : Pr P w K mg base CX0 (n + 1) "_law_lists" ["_law_matter"] (spLst K n) := by
  refine D.pr fun f fd F _ _ _ => F.ok sc__law_lists (fun vs H Q E h => by obtain ⟨v, d, rfl, _⟩ := h; rfl) fun cdv A outer s H vs Q E hr h => ?_
  obtain ⟨v, d, rfl, hd, hl, q⟩ := h
  refine ⟨_, (pss_one (ps_ret (pe_ifExp (pt_val (pe_callB call_isiT (by rfl) T.isinstance (by decide +kernel) (pa_cons (pv 0) (pa_cons (pe_tup (pa_cons (pe_bltn (v := .ty "list") rfl T.list (by decide +kernel) rfl) (pa_cons (pe_bltn (v := .ty "tuple") rfl T.tuple (by decide +kernel) rfl) pa_nil))) pa_nil)))) (pe_lc (own := [("_law_own", 1)]) (g := gName 1) (tt := tYes) rfl sc__law_lists.nd (pi_seq (pv 0)) (blkOk_by (own := [("_law_own", 1)]) (N := N__law_lists) (sc := defScope s__law_lists) (by decide +kernel)) (fun _ _ _ _ _ => (pg_name (i := 1) sc__law_lists.nd rfl (.inl rfl))) (fun _ _ _ _ _ => pts_nil) (fun _ _ _ _ _ => (O__law_lists.use hr (by rfl) pass0 (pa_cons (pv 1) pa_nil)))) (pv 0)))), ?_⟩
  refine ⟨v, rfl, by show 2 ≤ sizeLine; decide, fun tp ntp => ?_⟩
  have s1 : Same H (upd H tp (.tup [.ty "list", .ty "tuple"])) := same_new (Same.refl H) ntp
  have hd1 := dp_same s1 hd
  refine ⟨v, tp, [.ty "list", .ty "tuple"], .type (tyN d), [.type "list", .type "tuple"], isSq d, rfl, upd_same, .cons (.ty _) (.cons (.ty _) .nil), dp_ty hd1, kit_seq hd, isSq d, rfl, ?_⟩
  cases e : isSq d with
  | false =>
    refine iteF ?_
    exact ⟨v, rfl, q _ _ s1 (by rw [lst_scal e]; exact dp_scal hd e)⟩
  | true =>
    refine iteT ?_
    obtain ⟨m, rfl, kl, lk⟩ := lev_kids hl e
    obtain ⟨a, xs, rfl, hq, hx⟩ := dp_kids hd1 e
    have hxl := dpAll_len hx
    refine ⟨.ref a, rfl, a, xs, rfl, hq, fun J G wk hG D nD => ?_⟩
    generalize hH1 : upd H tp (.tup [.ty "list", .ty "tuple"]) = H1 at *
    refine lc_it wk (Pv := fun i Hc => Same H1 Hc ∧ ∃ ys, Hc D = some (.lst ys) ∧ DpAll K (New (upd H1 D (.lst [])) Hc) ys (((kids d).take i).map (lstN m))) ⟨same_new (Same.refl _) nD, [], upd_same, .nil⟩ (fun i Hc _ p => hG _ p.1) (fun i x Hc H' hi p y => ?_) fun Hc p => ?_
    · obtain ⟨sc, ys, eD, hy⟩ := p
      obtain ⟨rfl, hxi⟩ := y
      obtain ⟨c, hc, hdc⟩ := dpAll_getV hx hxi
      refine ⟨rfl, x, rfl, x, c, rfl, dp_same sc hdc, lk c (List.mem_of_getElem? hc), fun H2 v' s2 hv => ⟨ys, s2 _ _ eD, ?_, same_put (sc.trans s2) nD, _, upd_same, ?_⟩⟩
      · rw [dpAll_len hy, List.length_map, List.length_take]
        exact small1000 (by omega)
      · have dm : Dom (upd H1 D (.lst [])) H' := dom_put (dom_of sc) eD
        have up : Same (New (upd H1 D (.lst [])) H2) (New (upd H1 D (.lst [])) (upd H2 D (.lst (ys ++ [v'])))) := new_put upd_same
        rw [List.take_add_one, hc, List.map_append]
        exact dpAll_app (dpAll_same ((new_same s2).trans up) hy) (dpAll_one (dp_same ((new_call dm).trans up) hv))
    · obtain ⟨sc, ys, eD, hy⟩ := p
      rw [hxl, List.take_length] at hy
      refine q _ _ (s1.trans sc) ?_
      rw [lst_kids e]
      exact .lst (sql_of (new_of (s1.free nD) eD)) (dpAll_same (new_less (dom_trans (dom_of s1) (dom_upd (dom_refl H1)))) hy)
theorem ok__law_lists (T : Tf mg) (D : Df K mg "_law_lists" s__law_lists ["_law_matter"]) : ∀ n, Pr P w K mg base CX0 (n + 1) "_law_lists" ["_law_matter"] (spLst K n)
  | 0 => law_lists_step T D 0 D.less
  | n + 1 => law_lists_step T D (n + 1) (ok__law_lists T D n)

theorem law_same_step (T : Tf mg) (D : Df K mg "_law_same" s__law_same ["_law_got", "_law_goal"]) (n : Nat) (O__law_same : Pr P w K mg base CX0 n "_law_same" ["_law_got", "_law_goal"] (lessSp (spSame K) n)) : Pr P w K mg base CX0 (n + 1) "_law_same" ["_law_got", "_law_goal"] (spSame K n) := by
  refine D.pr fun f fd F _ _ _ => F.ok sc__law_same (fun vs H Q E h => by obtain ⟨v, u, d, rfl, _⟩ := h; rfl) fun cdv A outer s H vs Q E hr h => ?_
  obtain ⟨v, u, d, rfl, hv, hu, hl, q⟩ := h
  refine ⟨_, (pss_cons (ps_if (pt_val (pe_callB call_isiT (by rfl) T.isinstance (by decide +kernel) (pa_cons (pv 1) (pa_cons (pe_tup (pa_cons (pe_bltn (v := .ty "list") rfl T.list (by decide +kernel) rfl) (pa_cons (pe_bltn (v := .ty "tuple") rfl T.tuple (by decide +kernel) rfl) pa_nil))) pa_nil))))
      (pss_cons (ps_if (PW.pt (pw_or (pt_cmpR op_ne (pe_callB call_isi (by rfl) T.isinstance (by decide +kernel) (pa_cons (pv 0) (pa_cons (pe_bltn (v := .ty "list") rfl T.list (by decide +kernel) rfl) pa_nil))) (pe_callB call_isi (by rfl) T.isinstance (by decide +kernel) (pa_cons (pv 1) (pa_cons (pe_bltn (v := .ty "list") rfl T.list (by decide +kernel) rfl) pa_nil))) (nomark _)) (pw_or1 (pt_cmpR op_ne (pe_callB call_isi (by rfl) T.isinstance (by decide +kernel) (pa_cons (pv 0) (pa_cons (pe_bltn (v := .ty "tuple") rfl T.tuple (by decide +kernel) rfl) pa_nil))) (pe_callB call_isi (by rfl) T.isinstance (by decide +kernel) (pa_cons (pv 1) (pa_cons (pe_bltn (v := .ty "tuple") rfl T.tuple (by decide +kernel) rfl) pa_nil))) (nomark _)))))
      (pss_one (ps_ret pe_bl))
      pss_nil)
    (pss_one (ps_ret (pe_and (pe_cmpR op_eq (pe_callB call_len_seq (by rfl) T.len PySem.boot_len (pa_cons (pv 0) pa_nil)) (pe_callB call_len_seq (by rfl) T.len PySem.boot_len (pa_cons (pv 1) pa_nil)) (nomark _)) (pe_one (pe_callB (cr_all rfl) (by rfl) T.all (by decide +kernel) (pa_cons (pe_lc (own := [("_law_mine_so", 2), ("_law_own", 3)]) (g := gTup K 2 (gCons (gName 2) (gCons (gName 3) gNil))) (tt := tYes) rfl sc__law_same.nd (RZ.pi_zipA (by rfl) T.zip (pa_cons (pv 0) (pa_cons (pv 1) pa_nil))) (blkOk_by (own := [("_law_mine_so", 2), ("_law_own", 3)]) (N := N__law_same) (sc := defScope s__law_same) (by decide +kernel)) (fun _ _ _ _ _ => (pg_tup rfl (pgs_cons (pg_name (i := 2) sc__law_same.nd rfl (.inl rfl)) (pgs_cons (pg_name (i := 3) sc__law_same.nd rfl (.inl rfl)) pgs_nil)))) (fun _ _ _ _ _ => pts_nil) (fun _ _ _ _ _ => (O__law_same.use hr (by rfl) pass0 (pa_cons (pv 2) (pa_cons (pv 3) pa_nil))))) pa_nil)))))))
      pss_nil)
    (pss_cons (ps_if (PW.pt (pw_or (pt_cmpR op_isN (pv 1) pe_non (nomark _)) (pw_or1 (pt_val (pe_callB call_isiT (by rfl) T.isinstance (by decide +kernel) (pa_cons (pv 1) (pa_cons (pe_tup (pa_cons (pe_bltn (v := .ty "bool") rfl T.bool (by decide +kernel) rfl) (pa_cons (pe_bltn (v := .ty "str") rfl T.str (by decide +kernel) rfl) pa_nil))) pa_nil)))))))
      (pss_one (ps_ret (pe_and (pe_cmpR op_eq (pv 0) (pv 1) (nomark _)) (pe_and (pe_cmpR op_eq (pe_callB call_isi (by rfl) T.isinstance (by decide +kernel) (pa_cons (pv 0) (pa_cons (pe_bltn (v := .ty "bool") rfl T.bool (by decide +kernel) rfl) pa_nil))) (pe_callB call_isi (by rfl) T.isinstance (by decide +kernel) (pa_cons (pv 1) (pa_cons (pe_bltn (v := .ty "bool") rfl T.bool (by decide +kernel) rfl) pa_nil))) (nomark _)) (pe_one (pe_cmpR op_eq (pe_cmpR op_isN (pv 0) pe_non (nomark _)) (pe_cmpR op_isN (pv 1) pe_non (nomark _)) (nomark _)))))))
      pss_nil)
    (pss_one (ps_ret (pe_and (pe_callB call_isi (by rfl) T.isinstance (by decide +kernel) (pa_cons (pv 0) (pa_cons (pe_bltn (v := .ty "int") rfl T.int (by decide +kernel) rfl) pa_nil))) (pe_and (pe_not (pe_callB call_isi (by rfl) T.isinstance (by decide +kernel) (pa_cons (pv 0) (pa_cons (pe_bltn (v := .ty "bool") rfl T.bool (by decide +kernel) rfl) pa_nil)))) (pe_one (pe_cmpR op_eq (pv 0) (pv 1) (nomark _))))))))), ?_⟩
  refine ⟨u, rfl, by show 2 ≤ sizeLine; decide, fun tp ntp => ?_⟩
  have s1 : Same H (upd H tp (.tup [.ty "list", .ty "tuple"])) := same_new (Same.refl H) ntp
  have hu1 := dp_same s1 hu
  have hv1 := dp_same s1 hv
  refine ⟨u, tp, [.ty "list", .ty "tuple"], .type (tyN d), [.type "list", .type "tuple"], isSq d, rfl, upd_same, .cons (.ty _) (.cons (.ty _) .nil), dp_ty hu1, kit_seq hu, isSq d, rfl, ?_⟩
  generalize hH1 : upd H tp (.tup [.ty "list", .ty "tuple"]) = H1 at *
  obtain ⟨bL, eL⟩ := kit_some hv "list" (by decide +kernel)
  obtain ⟨bT, eT⟩ := kit_some hv "tuple" (by decide +kernel)
  obtain ⟨bB, eB⟩ := kit_some hv "bool" (by decide +kernel)
  cases e : isSq d with
  | true =>
    refine iteT ?_
    obtain ⟨m, rfl, kl, lk⟩ := lev_kids hl e
    refine ⟨v, rfl, v, .ty "list", _, .type "list", bL, rfl, .ty _, dp_ty hv1, eL, u, rfl, u, .ty "list", _, .type "list", bL, rfl, .ty _, dp_ty hu1, eL, rfl, _, rfl, iteNS rfl ?_⟩
    refine ⟨v, rfl, v, .ty "tuple", _, .type "tuple", bT, rfl, .ty _, dp_ty hv1, eT, u, rfl, u, .ty "tuple", _, .type "tuple", bT, rfl, .ty _, dp_ty hu1, eT, rfl, _, rfl, iteNS rfl ?_⟩
    cases hv1 with
    | lst hqx hx =>
      rename_i a xs ds
      obtain ⟨b, ys, rfl, hqy, hy⟩ := dp_list hu1
      have hxl := dpAll_len hx
      have hyl := dpAll_len hy
      have kl : ds.length ≤ 1000 := kl
      have lk : ∀ c ∈ ds, Lev m c := lk
      refine ⟨.ref a, rfl, a, xs, rfl, .inl hqx, .ref b, rfl, b, ys, rfl, .inl hqy, rfl, _, rfl, ift (decide_eq_true (by rw [hxl, hyl])) ?_⟩
      refine ⟨.ref a, rfl, .ref b, rfl, a, b, xs, ys, rfl, .inl ⟨hqx, hqy, fun D nD => ?_⟩⟩
      refine lc_it (walk_zip (n := xs.length) (by rw [hxl, hyl, Nat.min_self])) (Pv := fun i Hc => Same H1 Hc ∧ Hc D = some (.lst (List.replicate i (.bl true)))) ⟨same_new (Same.refl _) nD, upd_same⟩ (fun i Hc _ p => ⟨Same.seq p.1 hqx, Same.seq p.1 hqy⟩) (fun i z Hc H' hi p y => ?_) fun Hc p => ?_
      · obtain ⟨sc, eD⟩ := p
        obtain ⟨T0, x, y, rfl, nT, rfl, gx, gy⟩ := y
        obtain ⟨c, hc, hdc⟩ := dpAll_getV hx gx
        obtain ⟨c', hc', hdc'⟩ := dpAll_getV hy gy
        have ec : c' = c := Option.some.inj (hc'.symm.trans hc)
        subst ec
        have sT : Same Hc (upd Hc T0 (.tup [x, y])) := same_new (Same.refl _) nT
        refine ⟨T0, [x, y], rfl, sqt_of upd_same, rfl, x, [y], rfl, y, [], rfl, rfl, rfl, x, rfl, y, rfl, x, y, c', rfl, dp_same (sc.trans sT) hdc, dp_same (sc.trans sT) hdc', lk c' (List.mem_of_getElem? hc), fun H2 s2 => ⟨_, s2 _ _ (sT _ _ eD), ?_, same_put ((sc.trans sT).trans s2) nD, ?_⟩⟩
        · rw [List.length_replicate]
          exact small1000 (by omega)
        · rw [upd_same, List.replicate_succ']
      · obtain ⟨sc, eD⟩ := p
        refine ⟨D, List.replicate xs.length true, rfl, sql_of (by rw [List.map_replicate]; exact eD), ?_⟩
        rw [show (List.replicate xs.length true).all id = true by simp]
        exact q _ (s1.trans sc)
    | tup hqx hx =>
      rename_i a xs ds
      obtain ⟨b, ys, rfl, hqy, hy⟩ := dp_tuple hu1
      have hxl := dpAll_len hx
      have hyl := dpAll_len hy
      have kl : ds.length ≤ 1000 := kl
      have lk : ∀ c ∈ ds, Lev m c := lk
      refine ⟨.ref a, rfl, a, xs, rfl, .inr hqx, .ref b, rfl, b, ys, rfl, .inr hqy, rfl, _, rfl, ift (decide_eq_true (by rw [hxl, hyl])) ?_⟩
      refine ⟨.ref a, rfl, .ref b, rfl, a, b, xs, ys, rfl, .inr ⟨hqx, hqy, fun D nD => ?_⟩⟩
      refine lc_it (walk_zipTT (by rw [hxl, hyl])) (Pv := fun i Hc => Same H1 Hc ∧ Hc D = some (.lst (List.replicate i (.bl true)))) ⟨same_new (Same.refl _) nD, upd_same⟩ (fun i Hc _ p => ⟨same_seqT p.1 hqx, same_seqT p.1 hqy⟩) (fun i z Hc H' hi p y => ?_) fun Hc p => ?_
      · obtain ⟨sc, eD⟩ := p
        obtain ⟨T0, x, y, rfl, nT, rfl, gx, gy⟩ := y
        obtain ⟨c, hc, hdc⟩ := dpAll_getV hx gx
        obtain ⟨c', hc', hdc'⟩ := dpAll_getV hy gy
        have ec : c' = c := Option.some.inj (hc'.symm.trans hc)
        subst ec
        have sT : Same Hc (upd Hc T0 (.tup [x, y])) := same_new (Same.refl _) nT
        refine ⟨T0, [x, y], rfl, sqt_of upd_same, rfl, x, [y], rfl, y, [], rfl, rfl, rfl, x, rfl, y, rfl, x, y, c', rfl, dp_same (sc.trans sT) hdc, dp_same (sc.trans sT) hdc', lk c' (List.mem_of_getElem? hc), fun H2 s2 => ⟨_, s2 _ _ (sT _ _ eD), ?_, same_put ((sc.trans sT).trans s2) nD, ?_⟩⟩
        · rw [List.length_replicate]
          exact small1000 (by omega)
        · rw [upd_same, List.replicate_succ']
      · obtain ⟨sc, eD⟩ := p
        refine ⟨D, List.replicate xs.length true, rfl, sql_of (by rw [List.map_replicate]; exact eD), ?_⟩
        rw [show (List.replicate xs.length true).all id = true by simp]
        exact q _ (s1.trans sc)
    | _ => cases e
  | false =>
    refine iteF ?_
    cases hv with
    | non =>
      cases hu
      refine ⟨.non, rfl, rfl, _, rfl, ift (by decide) ?_⟩
      exact ⟨.non, rfl, .non, rfl, rfl, _, rfl, ift (by decide) ⟨.non, rfl, .non, .ty "bool", _, .type "bool", bB, rfl, .ty _, dp_ty hv1, eB, .non, rfl, .non, .ty "bool", _, .type "bool", bB, rfl, .ty _, dp_ty hu1, eB, rfl, _, rfl,
        ift (decide_eq_true rfl) ⟨.non, rfl, rfl, .non, rfl, rfl, rfl, by rw [decide_eq_true rfl]; exact q _ s1⟩⟩⟩
    | bl x =>
      cases hu
      refine ⟨.bl x, rfl, rfl, _, rfl, iff' (decide_eq_false (fun z => nomatch z)) ?_⟩
      refine ⟨.bl x, rfl, by show 2 ≤ sizeLine; decide, fun tp2 n2 => ?_⟩
      have s2 := same_new (o := .tup [.ty "bool", .ty "str"]) (Same.refl H1) n2
      refine ⟨.bl x, tp2, [.ty "bool", .ty "str"], _, [.type "bool", .type "str"], true, rfl, upd_same, .cons (.ty _) (.cons (.ty _) .nil), dp_ty (dp_same s2 hv1), kitAny_cons (b := true) (kit_ty (a := "bool") (by decide +kernel)) (fun z => nomatch z) (fun _ => rfl), _, rfl, ift rfl ?_⟩
      exact ⟨.bl x, rfl, .bl x, rfl, rfl, _, rfl, ift (decide_eq_true rfl) ⟨.bl x, rfl, .bl x, .ty "bool", _, .type "bool", bB, rfl, .ty _, dp_ty (dp_same s2 hv1), eB, .bl x, rfl, .bl x, .ty "bool", _, .type "bool", bB, rfl, .ty _, dp_ty (dp_same s2 hu1), eB, rfl, _, rfl,
        ift (decide_eq_true rfl) ⟨.bl x, rfl, rfl, .bl x, rfl, rfl, rfl, by rw [decide_eq_true rfl]; exact q _ (s1.trans s2)⟩⟩⟩
    | str x =>
      cases hu
      refine ⟨.str x, rfl, rfl, _, rfl, iff' (decide_eq_false (fun z => nomatch z)) ?_⟩
      refine ⟨.str x, rfl, by show 2 ≤ sizeLine; decide, fun tp2 n2 => ?_⟩
      have s2 := same_new (o := .tup [.ty "bool", .ty "str"]) (Same.refl H1) n2
      refine ⟨.str x, tp2, [.ty "bool", .ty "str"], _, [.type "bool", .type "str"], true, rfl, upd_same, .cons (.ty _) (.cons (.ty _) .nil), dp_ty (dp_same s2 hv1), kitAny_cons (b := false) (kit_ty (a := "str") (by decide +kernel)) (fun _ => kitAny_cons (b := true) (kit_ty (a := "str") (by decide +kernel)) (fun z => nomatch z) (fun _ => rfl)) (fun z => nomatch z), _, rfl, ift rfl ?_⟩
      exact ⟨.str x, rfl, .str x, rfl, rfl, _, rfl, ift (decide_eq_true rfl) ⟨.str x, rfl, .str x, .ty "bool", _, .type "bool", bB, rfl, .ty _, dp_ty (dp_same s2 hv1), eB, .str x, rfl, .str x, .ty "bool", _, .type "bool", bB, rfl, .ty _, dp_ty (dp_same s2 hu1), eB, rfl, _, rfl,
        ift (decide_eq_true rfl) ⟨.str x, rfl, rfl, .str x, rfl, rfl, rfl, by rw [decide_eq_true rfl]; exact q _ (s1.trans s2)⟩⟩⟩
    | int i =>
      cases hu
      refine ⟨.int i, rfl, rfl, _, rfl, iff' (decide_eq_false (fun z => nomatch z)) ?_⟩
      refine ⟨.int i, rfl, by show 2 ≤ sizeLine; decide, fun tp2 n2 => ?_⟩
      have s2 := same_new (o := .tup [.ty "bool", .ty "str"]) (Same.refl H1) n2
      have ty2 := dp_ty (dp_same s2 hv1)
      refine ⟨.int i, tp2, [.ty "bool", .ty "str"], _, [.type "bool", .type "str"], false, rfl, upd_same, .cons (.ty _) (.cons (.ty _) .nil), ty2, kitAny_cons (b := false) (kit_ty (a := "int") (by decide +kernel)) (fun _ => kitAny_cons (b := false) (kit_ty (a := "int") (by decide +kernel)) (fun _ => kitAny_nil) (fun z => nomatch z)) (fun z => nomatch z), _, rfl, iff' rfl ?_⟩
      exact ⟨.int i, rfl, .int i, .ty "int", _, .type "int", true, rfl, .ty _, ty2, kit_ty (a := "int") (by decide +kernel), _, rfl, ift rfl ⟨.int i, rfl, .int i, .ty "bool", _, .type "bool", false, rfl, .ty _, ty2, kit_ty (a := "int") (by decide +kernel), _, rfl, _, rfl,
        ift rfl ⟨.int i, rfl, .int i, rfl, rfl, by rw [decide_eq_true rfl]; exact q _ (s1.trans s2)⟩⟩⟩
    | lst h _ => cases e
    | tup h _ => cases e
theorem ok__law_same (T : Tf mg) (D : Df K mg "_law_same" s__law_same ["_law_got", "_law_goal"]) : ∀ n, Pr P w K mg base CX0 (n + 1) "_law_same" ["_law_got", "_law_goal"] (spSame K n)
  | 0 => law_same_step T D 0 D.less
  | n + 1 => law_same_step T D (n + 1) (ok__law_same T D n)
end
end K8
/-! Behind the stroke, the spills, the leaks. -/
namespace K8
open PySem PySem.Spec PyProof.Rows L2

theorem ixN_of {n : Nat} {k : Int} {j : Nat} (e : k = (j : Int)) (h : j < n) : ixN n k = some j := by
  unfold ixN
  rw [if_pos (by omega), if_pos (by omega), e, Int.toNat_natCast]
theorem atI_m1 {α : Type} {xs : List α} {v : α} (h : xs[xs.length - 1]? = some v) : atI xs (-1) = some v := by
  have hl : xs.length - 1 < xs.length := (List.getElem?_eq_some_iff.mp h).1
  unfold atI ixN
  rw [if_neg (by decide), if_pos (by omega), show ((-1 : Int) + (xs.length : Nat)).toNat = xs.length - 1 by omega]
  exact h
theorem at_as {α : Type} {xs : List α} {k : Int} {j : Nat} {v : α} (e : k = (j : Int)) (h : xs[j]? = some v) : atI xs k = some v := by
  rw [e]
  exact atI_nat h
theorem map_set_int (f : List Int) (i : Nat) (x : Int) : (f.map V.int).set i (.int x) = (f.set i x).map V.int := List.map_set.symm
theorem last_int {br : List Int} (h : 1 ≤ br.length) : atI (br.map V.int) (-1) = some (.int (lastM br)) :=
  atI_m1 (by rw [List.length_map]; exact int_at (by omega))
section
variable {P : Program} {w : World} {K : PySem.W.Frag} {mg : Str → Option Value} {base : Heap}
/-! ### behind_stroke -/
abbrev s_behind_stroke : Stmt := topS 11
abbrev N_behind_stroke : List Str := ["waters", "held", "made", "loose", "leaks", "found", "brought", "number", "more"]
theorem sc_behind_stroke : FnScope N_behind_stroke ["waters", "held", "made", "loose", "leaks"] (defScope s_behind_stroke) := ⟨rfl, rfl, rfl, by decide +kernel, rfl, by decide +kernel, by decide +kernel⟩
def spStroke (K : PySem.W.Frag) : Sp := fun vs H Q _ => ∃ (v : V) (ws : List Well) (h l lk : Addr) (held lks : List Int) (made : Int), vs = [v, .ref h, .int made, .ref l, .ref lk] ∧ Dp K H v (wsd ws) ∧ SqT K H h (held.map V.int) ∧ SqT K H l [] ∧ SqT K H lk (lks.map V.int) ∧
  held.length = ws.length ∧ lks.length = ws.length ∧ 1 ≤ ws.length ∧ ws.length ≤ 1000 ∧ ∀ H' p, Same H H' → Dp K (New H H') p (.tuple [.list (ind (strokeM held (brM ws held lks (upM made)) ws.length)), .int (lastM (brM ws held lks (upM made)))]) → Q p H'
theorem ok_behind_stroke (T : Tf mg) (D : Df K mg "behind_stroke" s_behind_stroke ["waters", "held", "made", "loose", "leaks"]) (O_brings : Pr P w K mg base CX0 1 "brings" ["waters", "held", "made", "loose", "leaks"] (spBrings K)) :
    Pr P w K mg base CX0 2 "behind_stroke" ["waters", "held", "made", "loose", "leaks"] (spStroke K) := by
  refine D.pr fun f fd F _ _ _ => F.ok sc_behind_stroke (fun vs H Q E h => by obtain ⟨_, _, _, _, _, _, _, _, rfl, _⟩ := h; rfl) fun cdv A outer s H vs Q E hr h => ?_
  obtain ⟨v, ws, h, l, lk, held, lks, made, rfl, hw, hh, hl, hk, e1, e2, hz1, hz, q⟩ := h
  refine ⟨_, (pss_cons (ps_par (i := 5) (j := 6) (by rfl) sc_behind_stroke.nd rfl rfl (by decide) rfl rfl (pa_cons (pe_callTy call_list_of (by rfl) T.list (by decide +kernel) (pa_cons (pv 1) pa_nil)) (pa_cons (O_brings.use hr (by rfl) pass0 (pa_cons (pv 0) (pa_cons (pv 1) (pa_cons (pv 2) (pa_cons (pv 3) (pa_cons (pv 4) pa_nil)))))) pa_nil)) (by rfl))
    (pss_cons (ps_for PassesOwn.never rfl (pi_enumT (by rfl) T.enumerate (pa_cons (pv 6) pa_nil)) (pg_tup rfl (pgs_cons (pg_name (i := 7) sc_behind_stroke.nd rfl (.inl rfl)) (pgs_cons (pg_name (i := 8) sc_behind_stroke.nd rfl (.inl rfl)) pgs_nil)))
      (pss_cons (ps_augS (pv 5) (pv 7) get_list (pv 8) ip_sub set_list)
    (pss_one (ps_if (pt_cmpR op_lt (pe_op op_add (pv 7) pe_int) (pe_callB call_len_seq (by rfl) T.len PySem.boot_len (pa_cons (pv 5) pa_nil)) (nomark _))
      (pss_one (ps_augS (pv 5) (pe_op op_add (pv 7) pe_int) get_list (pv 8) ip_add set_list))
      pss_nil))))
    (pss_one (ps_ret (pe_tup (pa_cons (pv 5) (pa_cons (pe_ix ix_tup (pv 6) (pe_un un_neg pe_int) (fun _ _ => rfl)) pa_nil))))))), ?_⟩
  refine ⟨.ref h, rfl, h, _, rfl, .inr hh, fun fo nf => ?_⟩
  have s0 : Same H (upd H fo (.lst (held.map V.int))) := same_new (Same.refl H) nf
  refine ⟨v, rfl, .ref h, rfl, .int made, rfl, .ref l, rfl, .ref lk, rfl, v, ws, h, l, lk, held, lks, made, rfl, dp_same s0 hw, same_seqT s0 hh, same_seqT s0 hl, same_seqT s0 hk, e1, e2, hz, fun H2 p s2 hp => ⟨_, _, rfl, ?_⟩⟩
  generalize hbr : brM ws held lks (upM made) = br at *
  have lbr : br.length = ws.length := by rw [← hbr, brM_len]
  generalize hH1 : upd H fo (.lst (held.map V.int)) = H1 at *
  have f1 : H1 fo = some (.lst (held.map V.int)) := by rw [← hH1, upd_same]
  refine ⟨.ref p, rfl, p, br.map V.int, rfl, same_seqT new_in hp, for_it (walk_enumT (xs := br.map V.int)) (Pv := fun i σ Hc => ∃ y7 y8, σ = [some v, some (.ref h), some (.int made), some (.ref l), some (.ref lk), some (.ref fo), some (.ref p), y7, y8] ∧ Same H Hc ∧ SqT K (New H1 Hc) p (br.map V.int) ∧ Hc fo = some (.lst ((strokeM held br i).map V.int)))
    ⟨none, none, rfl, s0.trans s2, hp, s2 _ _ f1⟩ (fun i σ Hc _ pp => ?_) (fun i x σ Hc H' hi pp y => ?_) fun σ Hc pp => ?_⟩
  · obtain ⟨_, _, _, _, t, _⟩ := pp
    exact same_seqT new_in t
  · obtain ⟨y7, y8, rfl, sc, tp, ef⟩ := pp
    obtain ⟨T0, x0, x1, rfl, nT, rfl, g0, g1⟩ := y
    cases g0
    rw [List.length_map] at hi
    have ex : x1 = .int (br.getD i 0) := Option.some.inj (g1.symm.trans (int_at hi))
    subst ex
    have lf : (strokeM held br i).length = ws.length := by rw [strokeM_len, e1]
    have sT : Same Hc (upd Hc T0 (.tup [.int (i : Nat), .int (br.getD i 0)])) := same_new (Same.refl _) nT
    have ef1 := sT _ _ ef
    have eT : (upd Hc T0 (.tup [.int (i : Nat), .int (br.getD i 0)])) T0 = some (.tup [.int (i : Nat), .int (br.getD i 0)]) := upd_same
    have tp1 : SqT K (New H1 (upd Hc T0 (.tup [.int (i : Nat), .int (br.getD i 0)]))) p (br.map V.int) := same_seqT (new_same sT) tp
    have sc1 := sc.trans sT
    generalize upd Hc T0 (.tup [.int (i : Nat), .int (br.getD i 0)]) = H3 at *
    generalize hf : strokeM held br i = fl at *
    generalize hm : br.getD i 0 = m at *
    refine ⟨T0, _, rfl, sqt_of eT, rfl, _, _, rfl, _, _, rfl, rfl, ?_⟩
    -- found[number] -= more
    refine ⟨.ref fo, rfl, .int (i : Nat), rfl, fo, _, (i : Nat), .int (fl.getD i 0), rfl, rfl, Int.natCast_nonneg i, sql_of ef1, int_at (by omega), .int m, rfl, _, _, rfl, rfl, fo, _, (i : Nat), i, rfl, rfl, ef1, ixN_of rfl (by rw [List.length_map]; omega), ?_⟩
    rw [map_set_int]
    have sc2 : Same H (upd H3 fo (.lst ((fl.set i (fl.getD i 0 - m)).map V.int))) := same_put sc1 nf
    have tp2 : SqT K (New H1 (upd H3 fo (.lst ((fl.set i (fl.getD i 0 - m)).map V.int)))) p (br.map V.int) := same_seqT (new_put f1) tp1
    have ef2 : (upd H3 fo (.lst ((fl.set i (fl.getD i 0 - m)).map V.int))) fo = some (.lst ((fl.set i (fl.getD i 0 - m)).map V.int)) := upd_same
    generalize upd H3 fo (.lst ((fl.set i (fl.getD i 0 - m)).map V.int)) = H4 at *
    refine ⟨.int (i : Nat), rfl, _, _, rfl, rfl, .ref fo, rfl, fo, _, rfl, .inl (sql_of ef2), _, _, rfl, rfl, _, rfl, ifb (fun c => ?_) fun c => ?_⟩
    · have lt : i + 1 < fl.length := by
        have c' := of_decide_eq_true c
        rw [List.length_map, List.length_set] at c'
        omega
      refine ⟨.ref fo, rfl, .int (i : Nat), rfl, _, _, rfl, rfl, fo, _, (i : Nat) + 1, .int ((fl.set i (fl.getD i 0 - m)).getD (i + 1) 0), rfl, rfl, by omega, sql_of ef2, ?_, .int m, rfl, _, _, rfl, rfl, fo, _, (i : Nat) + 1, i + 1, rfl, rfl, ef2, ixN_of (by omega) (by rw [List.length_map, List.length_set]; exact lt), ?_⟩
      · rw [show ((i : Int) + 1).toNat = i + 1 by omega]
        exact int_at (by rw [List.length_set]; exact lt)
      · rw [map_set_int]
        refine ⟨_, _, rfl, same_put sc2 nf, same_seqT (new_put f1) tp2, ?_⟩
        rw [upd_same]
        show _ = some (HO.lst ((strokeStep (strokeM held br i) i (br.getD i 0)).map V.int))
        rw [hf, hm]
        unfold strokeStep
        rw [if_pos lt]
    · have lt : ¬ i + 1 < fl.length := fun lt => by
        refine of_decide_eq_false c ?_
        rw [List.length_map, List.length_set]
        omega
      refine ⟨_, _, rfl, sc2, tp2, ?_⟩
      rw [ef2]
      show _ = some (HO.lst ((strokeStep (strokeM held br i) i (br.getD i 0)).map V.int))
      rw [hf, hm]
      unfold strokeStep
      rw [if_neg lt]
  · obtain ⟨y7, y8, rfl, sc, tp, ef⟩ := pp
    rw [List.length_map, lbr] at ef
    refine ⟨.ref fo, rfl, .ref p, rfl, 1, rfl, p, _, -1, .int (lastM br), rfl, rfl, same_seqT new_in tp, last_int (by omega), by show 2 ≤ sizeLine; decide, fun t nt => q _ _ (sc.trans (same_new (Same.refl _) nt)) ?_⟩
    have st := same_new (o := .tup [.ref fo, .int (lastM br)]) (Same.refl Hc) nt
    exact .tup (sqt_of (new_of (sc.free nt) upd_same)) (.cons (.lst (sql_of (new_of nf (st _ _ ef))) (ints_dpAll _)) (dpAll_one (.int _)))
/-! ### behind_spills -/
abbrev s_behind_spills : Stmt := topS 12
abbrev N_behind_spills : List Str := ["waters", "standing", "found", "number", "more"]
theorem sc_behind_spills : FnScope N_behind_spills ["waters", "standing"] (defScope s_behind_spills) := ⟨rfl, rfl, rfl, by decide +kernel, rfl, by decide +kernel, by decide +kernel⟩
def spSpills (K : PySem.W.Frag) : Sp := fun vs H Q _ => ∃ (v : V) (ws : List Well) (st : Addr) (ns : List Int), vs = [v, .ref st] ∧ Dp K H v (wsd ws) ∧ SqL K H st (ns.map V.int) ∧ ns.length = ws.length ∧ 1 ≤ ws.length ∧ ws.length ≤ 1000 ∧
  ∀ H' p, Same H H' → SqT K (New H H') p ((spillM ws ns (ns.length - 1)).map V.int) → Q (.ref p) H'
theorem ok_behind_spills (T : Tf mg) (D : Df K mg "behind_spills" s_behind_spills ["waters", "standing"]) : Pr P w K mg base CX0 1 "behind_spills" ["waters", "standing"] (spSpills K) := by
  refine D.pr fun f fd F _ _ _ => F.ok sc_behind_spills (fun vs H Q E h => by obtain ⟨_, _, _, _, rfl, _⟩ := h; rfl) fun cdv A outer s H vs Q E hr h => ?_
  obtain ⟨v, ws, st, ns, rfl, hw, hs, e1, hz1, hz, q⟩ := h
  obtain ⟨a, xs, rfl, ha, hx⟩ := dp_tuple hw
  have hxl : xs.length = ws.length := by rw [dpAll_len hx, List.length_map]
  refine ⟨_, (pss_cons (ps_set (i := 2) sc_behind_spills.nd rfl (.inl rfl) (pe_callTy call_list_of (by rfl) T.list (by decide +kernel) (pa_cons (pv 1) pa_nil)))
    (pss_cons (ps_for PassesOwn.never rfl (pi_range3 (by rfl) T.range (pa_cons (pe_op op_sub (pe_callB call_len_seq (by rfl) T.len PySem.boot_len (pa_cons (pv 2) pa_nil)) pe_int) (pa_cons pe_int (pa_cons (pe_un un_neg pe_int) pa_nil)))) (pg_name (i := 3) sc_behind_spills.nd rfl (.inl rfl))
      (pss_cons (ps_set (i := 4) sc_behind_spills.nd rfl (.inl rfl) (pe_callB (call_max2 rfl) (by rfl) T.max (by decide +kernel) (pa_cons pe_int (pa_cons (pe_op op_sub (pe_ix ix_list (pv 2) (pv 3) (fun _ _ => rfl)) (pe_ix ix_tup (pe_ix ix_tup (pv 0) (pv 3) (fun _ _ => rfl)) (pe_cst rfl T.c_ROOM) (fun _ _ => rfl))) pa_nil))))
    (pss_cons (ps_augS (pv 2) (pv 3) get_list (pv 4) ip_sub set_list)
    (pss_one (ps_augS (pv 2) (pe_op op_sub (pv 3) pe_int) get_list (pv 4) ip_add set_list)))))
    (pss_one (ps_ret (pe_callTy call_tuple_of (by rfl) T.tuple (by decide +kernel) (pa_cons (pv 2) pa_nil)))))), ?_⟩
  refine ⟨.ref st, rfl, st, _, rfl, .inl hs, fun fo nf => ?_⟩
  have s0 : Same H (upd H fo (.lst (ns.map V.int))) := same_new (Same.refl H) nf
  refine ⟨.ref fo, rfl, fo, _, rfl, .inl (sql_of upd_same), _, _, rfl, rfl, 1, rfl, _, _, _, _, rfl, RgC.neg (by omega) (by rw [List.length_map]; omega) (by decide) (by decide), ?_⟩
  rw [List.length_map]
  have ht : ((ns.length : Nat) - 1 - 0 : Int).toNat = ns.length - 1 := by omega
  rw [ht]
  refine for_rangeC (Pv := fun i σ Hc => ∃ y3 y4, σ = [some (.ref a), some (.ref st), some (.ref fo), y3, y4] ∧ Same H Hc ∧ Hc fo = some (.lst ((spillM ws ns i).map V.int))) ⟨none, none, rfl, s0, upd_same⟩ (fun i σ Hc hi pp => ?_) fun σ Hc pp => ?_
  · obtain ⟨y3, y4, rfl, sc, ef⟩ := pp
    obtain ⟨kk, hkk⟩ : ∃ kk : Nat, kk = ns.length - 1 - i := ⟨_, rfl⟩
    have ek : ((ns.length : Nat) - 1 + (i : Nat) * -1 : Int) = (kk : Nat) := by omega
    rw [ek]
    have lf : (spillM ws ns i).length = ns.length := spillM_len ws ns i
    have step : spillM ws ns (i + 1) = spillStep ws (spillM ws ns i) kk := by rw [hkk]; rfl
    rw [step]
    generalize spillM ws ns i = fl at *
    obtain ⟨x, hxk⟩ : ∃ x, xs[kk]? = some x := ⟨xs[kk]'(by omega), List.getElem?_eq_getElem _⟩
    obtain ⟨b, rfl, hb⟩ := well_at hx hxk
    have hb' := same_seqT sc hb
    refine ⟨.ref fo, rfl, .int (kk : Nat), rfl, fo, _, (kk : Nat), .int (fl.getD kk 0), rfl, rfl, sql_of ef, atI_nat (int_at (by omega)), .ref a, rfl, .int (kk : Nat), rfl, a, xs, (kk : Nat), .ref b, rfl, rfl, same_seqT sc ha, atI_nat hxk, b, _, 1, .int (ws.getD kk default).room, rfl, rfl, hb', atI_nat (j := 1) rfl, _, _, rfl, rfl, _, _, rfl, ?_⟩
    show tSeq _ _ _ [some (.ref a), some (.ref st), some (.ref fo), some (.int (kk : Nat)), some (.int (mx 0 (fl.getD kk 0 - (ws.getD kk default).room)))] Hc
    generalize hm : mx 0 (fl.getD kk 0 - (ws.getD kk default).room) = m at *
    refine ⟨.ref fo, rfl, .int (kk : Nat), rfl, fo, _, (kk : Nat), .int (fl.getD kk 0), rfl, rfl, Int.natCast_nonneg kk, sql_of ef, int_at (by omega), .int m, rfl, _, _, rfl, rfl, fo, _, (kk : Nat), kk, rfl, rfl, ef, ixN_of rfl (by rw [List.length_map]; omega), ?_⟩
    rw [map_set_int]
    have sc2 : Same H (upd Hc fo (.lst ((fl.set kk (fl.getD kk 0 - m)).map V.int))) := same_put sc nf
    have ef2 : (upd Hc fo (.lst ((fl.set kk (fl.getD kk 0 - m)).map V.int))) fo = some (.lst ((fl.set kk (fl.getD kk 0 - m)).map V.int)) := upd_same
    generalize upd Hc fo (.lst ((fl.set kk (fl.getD kk 0 - m)).map V.int)) = H4 at *
    refine ⟨.ref fo, rfl, .int (kk : Nat), rfl, _, _, rfl, rfl, fo, _, (kk : Nat) - 1, .int ((fl.set kk (fl.getD kk 0 - m)).getD (kk - 1) 0), rfl, rfl, by omega, sql_of ef2, ?_, .int m, rfl, _, _, rfl, rfl, fo, _, (kk : Nat) - 1, kk - 1, rfl, rfl, ef2, ixN_of (by omega) (by rw [List.length_map, List.length_set]; omega), ?_⟩
    · rw [show ((kk : Int) - 1).toNat = kk - 1 by omega]
      exact int_at (by rw [List.length_set]; omega)
    · rw [map_set_int]
      refine ⟨_, _, rfl, same_put sc2 nf, ?_⟩
      rw [upd_same]
      unfold spillStep
      rw [hm]
  · obtain ⟨y3, y4, rfl, sc, ef⟩ := pp
    refine ⟨.ref fo, rfl, fo, _, rfl, .inl ⟨sql_of ef, fun p np => q _ _ (sc.trans (same_new (Same.refl _) np)) (sqt_of (new_of (sc.free np) upd_same))⟩⟩

/-! ### leaks_then -/
abbrev s_leaks_then : Stmt := topS 16
abbrev N_leaks_then : List Str := ["waters", "leak", "rest", "found"]
theorem sc_leaks_then : FnScope N_leaks_then ["waters", "leak", "rest"] (defScope s_leaks_then) := ⟨rfl, rfl, rfl, by decide +kernel, rfl, by decide +kernel, by decide +kernel⟩
/-- a leak of n CISTERNS -/
def LeakOk (n : Nat) : Leak → Prop
  | none => True
  | some (k, _, _) => 0 ≤ k ∧ k < n
def spLeaks (K : PySem.W.Frag) : Sp := fun vs H Q _ => ∃ (a : Addr) (xs : List V) (v : V) (lk : Leak) (r : Int), vs = [.ref a, v, .int r] ∧ (SqL K H a xs ∨ SqT K H a xs) ∧ Dp K H v (lkd lk) ∧ LeakOk xs.length lk ∧ xs.length ≤ 1000 ∧
  ∀ H' p, Same H H' → SqT K (New H H') p ((lksM xs.length lk r).map V.int) → Q (.ref p) H'
theorem flat_zero (n : Nat) : (List.replicate n [V.int 0]).flatten = (List.replicate n (0 : Int)).map V.int := by
  induction n with
  | zero => rfl
  | succ n ih => rw [List.replicate_succ, List.flatten_cons, ih, List.replicate_succ, List.map_cons]; rfl
theorem ok_leaks_then (T : Tf mg) (D : Df K mg "leaks_then" s_leaks_then ["waters", "leak", "rest"]) : Pr P w K mg base CX0 1 "leaks_then" ["waters", "leak", "rest"] (spLeaks K) := by
  refine D.pr fun f fd F _ _ _ => F.ok sc_leaks_then (fun vs H Q E h => by obtain ⟨_, _, _, _, _, rfl, _⟩ := h; rfl) fun cdv A outer s H vs Q E hr h => ?_
  obtain ⟨a, xs, v, lk, r, rfl, hq, hv, hl, hz, q⟩ := h
  refine ⟨_, (pss_cons (ps_set (i := 3) sc_leaks_then.nd rfl (.inl rfl) (pe_op op_rep (pe_lst (pa_cons pe_int pa_nil)) (pe_callB call_len_seq (by rfl) T.len PySem.boot_len (pa_cons (pv 0) pa_nil))))
    (C8.pss_cut (ps_if (PW.pt (pw_and (pt_cmpR op_notN (pv 1) pe_non (nomark _)) (pw_and1 (pt_cmpR op_ge (pv 2) (pe_ix ix_tup (pv 1) pe_int (fun _ _ => rfl)) (nomark _)))))
      (pss_one (ps_asg (pe_ix ix_tup (pv 1) pe_int (fun _ _ => rfl)) (pg_sub (pv 3) (pe_ix ix_tup (pv 1) pe_int (fun _ _ => rfl)) set_list)))
      pss_nil)
    (pss_one (ps_ret (pe_callTy call_tuple_of (by rfl) T.tuple (by decide +kernel) (pa_cons (pv 3) pa_nil)))))), ?_⟩
  refine ⟨by show 1 ≤ sizeLine; decide, fun z nz => ?_⟩
  have s1 : Same H (upd H z (.lst [.int 0])) := same_new (Same.refl H) nz
  have hq1 : SqL K (upd H z (.lst [.int 0])) a xs ∨ SqT K (upd H z (.lst [.int 0])) a xs := hq.imp s1.seq (same_seqT s1)
  refine ⟨.ref a, rfl, a, xs, rfl, hq1, z, _, [.int 0], rfl, rfl, upd_same, by omega, by omega, ?_, fun fo nf => ?_⟩
  · rw [Int.toNat_natCast, sizeLine_eq]
    show 1 * xs.length ≤ 16777216
    omega
  rw [Int.toNat_natCast]
  have eF : (upd (upd H z (.lst [.int 0])) fo (.lst ((List.replicate xs.length [V.int 0]).flatten))) fo = some (.lst ((List.replicate xs.length (0 : Int)).map V.int)) := by rw [upd_same, flat_zero]
  have s2 : Same H (upd (upd H z (.lst [.int 0])) fo (.lst ((List.replicate xs.length [V.int 0]).flatten))) := s1.trans (same_new (Same.refl _) nf)
  have nf0 : H fo = none := s1.free nf
  generalize upd (upd H z (.lst [.int 0])) fo (.lst ((List.replicate xs.length [V.int 0]).flatten)) = H2 at *
  refine ⟨fun σ Hc => σ = [some (.ref a), some v, some (.int r), some (.ref fo)] ∧ Same H Hc ∧ Hc fo = some (.lst ((lksM xs.length lk r).map V.int)), ?_, fun σ Hc pp => ?_⟩
  · cases lk with
    | none =>
      cases hv
      refine ⟨.non, rfl, rfl, _, rfl, iff' (by decide) ?_⟩
      exact ⟨rfl, s2, eF⟩
    | some l =>
      obtain ⟨k, m, t⟩ := l
      obtain ⟨b, ys, rfl, hb, hy⟩ := dp_tuple hv
      obtain ⟨h0, h1⟩ := hl
      cases hy with
      | cons g0 hy => cases hy with
        | cons g1 hy => cases hy with
          | cons g2 hy => cases hy with
            | cons g3 hy =>
              cases hy
              cases g0
              cases g1
              cases g2
              cases g3
              have hb' := same_seqT s2 hb
              refine ⟨.ref b, rfl, rfl, _, rfl, ift rfl ?_⟩
              refine ⟨.int r, rfl, .ref b, rfl, b, _, 3, .int t, rfl, rfl, hb', atI_nat (j := 3) rfl, _, _, rfl, rfl, _, rfl, ifb (fun c => ?_) fun c => ?_⟩
              · refine ⟨.ref b, rfl, b, _, 2, .int m, rfl, rfl, hb', atI_nat (j := 2) rfl, .ref fo, rfl, .ref b, rfl, b, _, 1, .int k, rfl, rfl, hb', atI_nat (j := 1) rfl, fo, _, k, k.toNat, rfl, rfl, eF, ixN_of (by omega) (by simp; omega), rfl, same_put s2 nf0, ?_⟩
                rw [upd_same, map_set_int]
                show _ = some (HO.lst ((if t ≤ r then (List.replicate xs.length (0 : Int)).set k.toNat m else List.replicate xs.length 0).map V.int))
                rw [if_pos (of_decide_eq_true c)]
              · refine ⟨rfl, s2, ?_⟩
                rw [eF]
                show _ = some (HO.lst ((if t ≤ r then (List.replicate xs.length (0 : Int)).set k.toNat m else List.replicate xs.length 0).map V.int))
                rw [if_neg (of_decide_eq_false c)]
  · obtain ⟨rfl, sc, ef⟩ := pp
    exact ⟨.ref fo, rfl, fo, _, rfl, .inl ⟨sql_of ef, fun p np => q _ _ (sc.trans (same_new (Same.refl _) np)) (sqt_of (new_of (sc.free np) upd_same))⟩⟩
end
end K8
/-! A whole rest, a leaky run. -/
namespace K8
open PySem PySem.Spec PyProof.Rows L2
section
variable {P : Program} {w : World} {K : PySem.W.Frag} {mg : Str → Option Value} {base : Heap}
/-! ### behind_rest -/
abbrev s_behind_rest : Stmt := topS 13
abbrev N_behind_rest : List Str := ["waters", "held", "rest", "made", "moved", "loose", "leaks", "standing", "out", "part", "own"]
theorem sc_behind_rest : FnScope N_behind_rest ["waters", "held", "rest", "made", "moved", "loose", "leaks"] (defScope s_behind_rest) := ⟨rfl, rfl, rfl, by decide +kernel, rfl, by decide +kernel, by decide +kernel⟩
def spRest (K : PySem.W.Frag) : Sp := fun vs H Q _ => ∃ (v : V) (ws : List Well) (h l lk : Addr) (held lks : List Int) (r : Int), vs = [v, .ref h, .int r, .int r, .bl true, .ref l, .ref lk] ∧ Dp K H v (wsd ws) ∧ SqT K H h (held.map V.int) ∧ SqT K H l [] ∧ SqT K H lk (lks.map V.int) ∧
  held.length = ws.length ∧ lks.length = ws.length ∧ 1 ≤ ws.length ∧ ws.length ≤ 1000 ∧ ∀ H' p, Same H H' → Dp K (New H H') p (.tuple [.tuple (ind (restM ws held lks r).1), .int (restM ws held lks r).2]) → Q p H'
theorem ok_behind_rest (T : Tf mg) (D : Df K mg "behind_rest" s_behind_rest ["waters", "held", "rest", "made", "moved", "loose", "leaks"]) (O_behind_stroke : Pr P w K mg base CX0 2 "behind_stroke" ["waters", "held", "made", "loose", "leaks"] (spStroke K))
    (O_behind_spills : Pr P w K mg base CX0 1 "behind_spills" ["waters", "standing"] (spSpills K)) : Pr P w K mg base CX0 3 "behind_rest" ["waters", "held", "rest", "made", "moved", "loose", "leaks"] (spRest K) := by
  refine D.pr fun f fd F _ _ _ => F.ok sc_behind_rest (fun vs H Q E h => by obtain ⟨_, _, _, _, _, _, _, _, rfl, _⟩ := h; rfl) fun cdv A outer s H vs Q E hr h => ?_
  obtain ⟨v, ws, h, l, lk, held, lks, r, rfl, hw, hh, hl, hk, e1, e2, hz1, hz, q⟩ := h
  refine ⟨_, (pss_cons (ps_asg (pe_ifExp (pt_val (pv 4)) (O_behind_stroke.use (hr.mono (by decide)) (by rfl) pass0 (pa_cons (pv 0) (pa_cons (pv 1) (pa_cons (pv 3) (pa_cons (pv 5) (pa_cons (pv 6) pa_nil)))))) (pe_tup (pa_cons (pe_callTy call_list_of (by rfl) T.list (by decide +kernel) (pa_cons (pv 1) pa_nil)) (pa_cons pe_int pa_nil)))) (pg_tup rfl (pgs_cons (pg_name (i := 7) sc_behind_rest.nd rfl (.inl rfl)) (pgs_cons (pg_name (i := 8) sc_behind_rest.nd rfl (.inl rfl)) pgs_nil))))
    (C8.pss_cut (ps_if (pt_cmpR op_eq (pe_op op_mod (pv 2) pe_int) pe_int (nomark _))
      (pss_one (ps_setLc (i := 7) (own := [("part", 9), ("own", 10)]) (g := gTup K 2 (gCons (gName 9) (gCons (gName 10) gNil))) (tt := tYes) rfl sc_behind_rest.nd rfl rfl (sw_true rfl rfl rfl (by decide +kernel)) (pi_zipM (by rfl) T.zip (pa_cons (pv 7) (pa_cons (pv 0) pa_nil))) (blkOk_by (own := [("part", 9), ("own", 10)]) (N := N_behind_rest) (sc := defScope s_behind_rest) (by decide +kernel)) (fun _ _ _ _ _ => (pg_tup rfl (pgs_cons (pg_name (i := 9) sc_behind_rest.nd rfl (.inl rfl)) (pgs_cons (pg_name (i := 10) sc_behind_rest.nd rfl (.inl rfl)) pgs_nil)))) (fun _ _ _ _ _ => pts_nil) (fun _ _ _ _ _ => (pe_op op_add (pv 9) (pe_ix (r := rIxT K) ix_tup (pv 10) (pe_cst rfl T.c_SPRING) (fun _ _ => rfl))))))
      pss_nil)
    (pss_one (ps_ret (pe_tup (pa_cons (O_behind_spills.use (hr.mono (by decide)) (by rfl) pass0 (pa_cons (pv 0) (pa_cons (pv 7) pa_nil))) (pa_cons (pv 8) pa_nil))))))), ?_⟩
  refine ⟨.bl true, rfl, _, rfl, ift rfl ?_⟩
  refine ⟨v, rfl, .ref h, rfl, .int r, rfl, .ref l, rfl, .ref lk, rfl, v, ws, h, l, lk, held, lks, r, rfl, hw, hh, hl, hk, e1, e2, hz1, hz, fun H1 p s1 hp => ?_⟩
  obtain ⟨a, xs, rfl, ha, hx⟩ := dp_tuple hp
  cases hx with
  | cons g0 hx => cases hx with
    | cons g1 hx =>
      cases hx
      cases g1
      obtain ⟨st, ys, rfl, hst, hys⟩ := dp_list g0
      have eys := dpAll_ints hys
      subst eys
      refine ⟨a, _, rfl, same_seqT new_in ha, rfl, _, _, rfl, _, _, rfl, rfl, ?_⟩
      obtain ⟨sM, hsM⟩ : ∃ sM, sM = strokeM held (brM ws held lks (upM r)) ws.length := ⟨_, rfl⟩
      obtain ⟨oM, hoM⟩ : ∃ oM, oM = lastM (brM ws held lks (upM r)) := ⟨_, rfl⟩
      rw [← hsM] at hst hp g0 hys
      have lsM : sM.length = ws.length := by rw [hsM, strokeM_len, e1]
      have eR : restM ws held lks r = (spillM ws (if r % 2 = 1 then springM ws sM else sM) ((if r % 2 = 1 then springM ws sM else sM).length - 1), oM) := by
        rw [hsM, hoM]
        rfl
      rw [eR] at q
      rw [← hoM]
      refine ⟨fun σ Hc => ∃ y9 y10 st2, σ = [some v, some (.ref h), some (.int r), some (.int r), some (.bl true), some (.ref l), some (.ref lk), some (.ref st2), some (.int oM), y9, y10] ∧ Same H Hc ∧ SqL K Hc st2 ((if r % 2 = 1 then springM ws sM else sM).map V.int), ?_, fun σ Hc pp => ?_⟩
      · refine ⟨.int r, rfl, r, 2, rfl, rfl, by show (0 : Int) < 2; decide, rfl, _, rfl, ifb (fun c => ?_) fun c => ?_⟩
        · rw [if_pos (vi_of c)]
          obtain ⟨aw, xw, rfl, haw, hxw⟩ := dp_tuple hw
          have hxl : xw.length = ws.length := by rw [dpAll_len hxw, List.length_map]
          have hst' : SqL K H1 st (sM.map V.int) := (new_in (A := H)).seq hst
          refine ⟨.ref st, rfl, .ref aw, rfl, st, aw, _, xw, rfl, hst', same_seqT s1 haw, fun Dl nD => ?_⟩
          refine lc_it (walk_zipM (xs := sM.map V.int) (ys := xw) (by rw [List.length_map]; omega)) (Pv := fun i Hc => Same H1 Hc ∧ Hc Dl = some (.lst (firstV (fun k => sM.getD k 0 + (ws.getD k default).spr) i))) ⟨same_new (Same.refl _) nD, upd_same⟩ (fun i Hc _ p => ⟨p.1.seq hst', same_seqT (s1.trans p.1) haw⟩) (fun i z Hc H' hi p y => ?_) fun Hc p => ?_
          · obtain ⟨sc, eD⟩ := p
            obtain ⟨T0, x, y, rfl, nT, rfl, gx, gy⟩ := y
            rw [List.length_map] at hi
            have ex : x = .int (sM.getD i 0) := Option.some.inj (gx.symm.trans (int_at hi))
            subst ex
            obtain ⟨b, rfl, hb⟩ := well_at hxw gy
            have sT : Same Hc (upd Hc T0 (.tup [.int (sM.getD i 0), .ref b])) := same_new (Same.refl _) nT
            have hb' := same_seqT ((s1.trans sc).trans sT) hb
            refine ⟨T0, _, rfl, sqt_of upd_same, rfl, _, _, rfl, _, _, rfl, rfl, rfl, .int (sM.getD i 0), rfl, .ref b, rfl, b, _, 2, .int (ws.getD i default).spr, rfl, rfl, hb', atI_nat (j := 2) rfl, _, _, rfl, rfl, _, sT _ _ eD, ?_, same_put (sc.trans sT) nD, ?_⟩
            · rw [firstV_len]
              exact small1000 (by omega)
            · rw [upd_same, firstV_succ]
          · obtain ⟨sc, eD⟩ := p
            refine ⟨none, none, Dl, rfl, s1.trans sc, ?_⟩
            rw [List.length_map, lsM] at eD
            exact sql_of (by rw [eD, firstV_map]; rfl)
        · rw [if_neg (vi_nof c)]
          exact ⟨none, none, st, rfl, s1, (new_in (A := H)).seq hst⟩
      · obtain ⟨y9, y10, st2, rfl, sc, hs2⟩ := pp
        have lz : (if r % 2 = 1 then springM ws sM else sM).length = ws.length := by
          split
          · exact springM_len _ _
          · exact lsM
        generalize (if r % 2 = 1 then springM ws sM else sM) = z2 at *
        refine ⟨v, rfl, .ref st2, rfl, v, ws, st2, z2, rfl, dp_same sc hw, hs2, lz, hz1, hz, fun H2 p2 s2 hp2 => ⟨.int oM, rfl, by show 2 ≤ sizeLine; decide, fun t nt => q _ _ (sc.trans (s2.trans (same_new (Same.refl _) nt))) ?_⟩⟩
        have st := same_new (o := .tup [.ref p2, .int oM]) (Same.refl H2) nt
        exact .tup (sqt_of (new_of ((sc.trans s2).free nt) upd_same)) (.cons (.tup (same_seqT ((new_call (dom_of sc)).trans (new_same st)) hp2) (ints_dpAll _)) (dpAll_one (.int _)))

end
end K8
/-! A leaky run. -/
namespace K8
open PySem PySem.Spec PyProof.Rows L2
section
variable {P : Program} {w : World} {K : PySem.W.Frag} {mg : Str → Option Value} {base : Heap}
/-! ### leaky_run, leaky_held -/
abbrev s_leaky_run : Stmt := topS 17
abbrev N_leaky_run : List Str := ["waters", "leak", "many", "own", "fault", "row", "rows", "rest", "held", "out"]
theorem sc_leaky_run : FnScope N_leaky_run ["waters", "leak", "many"] (defScope s_leaky_run) := ⟨rfl, rfl, rfl, by decide +kernel, rfl, by decide +kernel, by decide +kernel⟩
/-- waters in tuples or lists -/
def spRun (K : PySem.W.Frag) : Sp := fun vs H Q _ => ∃ (v u : V) (dw dl : PyData) (ws : List Well) (lk : Leak) (m : Nat), vs = [v, u, .int (m : Nat)] ∧ Dp K H v dw ∧ Lev 2 dw ∧ tupN 2 dw = wsd ws ∧ Dp K H u dl ∧ Lev 2 dl ∧ tupN 2 dl = lkd lk ∧ LeakOk ws.length lk ∧ 1 ≤ ws.length ∧ ws.length ≤ 1000 ∧ m ≤ 900 ∧
  ∀ H' p, Same H H' → Dp K (New H H') p (.tuple [.list (outsD ws lk m), .list (rowsD ws lk m)]) → Q p H'
theorem wsd_len {K : PySem.W.Frag} {H : Hp} {v : V} {ws : List Well} (h : Dp K H v (wsd ws)) : ∃ a xs, v = .ref a ∧ SqT K H a xs ∧ xs.length = ws.length := by
  obtain ⟨a, xs, rfl, ha, hx⟩ := dp_tuple h
  exact ⟨a, xs, rfl, ha, by rw [dpAll_len hx, List.length_map]⟩
theorem ok_leaky_run (T : Tf mg) (D : Df K mg "leaky_run" s_leaky_run ["waters", "leak", "many"]) (O_tuple_of : Pr P w K mg base CX0 3 "tuple_of" ["thing"] (spTup K 2)) (O_dry_held : Pr P w K mg base CX0 1 "dry_held" ["waters"] (spDry K))
    (O_behind_rest : Pr P w K mg base CX0 3 "behind_rest" ["waters", "held", "rest", "made", "moved", "loose", "leaks"] (spRest K)) (O_leaks_then : Pr P w K mg base CX0 1 "leaks_then" ["waters", "leak", "rest"] (spLeaks K)) :
    Pr P w K mg base CX0 4 "leaky_run" ["waters", "leak", "many"] (spRun K) := by
  refine D.pr fun f fd F _ _ _ => F.ok sc_leaky_run (fun vs H Q E h => by obtain ⟨_, _, _, _, _, _, _, rfl, _⟩ := h; rfl) fun cdv A outer s H vs Q E hr h => ?_
  obtain ⟨v, u, dw, dl, ws, lk, m, rfl, hv, lw, ew, hu, ll, el, lok, hz1, hz, hm, q⟩ := h
  refine ⟨_, (pss_cons (ps_par (i := 3) (j := 4) (by rfl) sc_leaky_run.nd rfl rfl (by decide) rfl rfl (pa_cons (O_tuple_of.use (hr.mono (by decide)) (by rfl) pass0 (pa_cons (pv 0) pa_nil)) (pa_cons (O_tuple_of.use (hr.mono (by decide)) (by rfl) pass0 (pa_cons (pv 1) pa_nil)) pa_nil)) (by rfl))
    (pss_cons (ps_par (i := 5) (j := 6) (by rfl) sc_leaky_run.nd rfl rfl (by decide) rfl rfl (pa_cons (pe_lst pa_nil) (pa_cons (pe_lst (pa_cons (O_dry_held.use (hr.mono (by decide)) (by rfl) pass0 (pa_cons (pv 3) pa_nil)) pa_nil)) pa_nil)) (by rfl))
    (pss_cons (ps_for PassesOwn.never rfl (pi_list (pe_listRg rfl (by rfl) T.list (prg_1 (by rfl) T.range (pv 2)))) (pg_name (i := 7) sc_leaky_run.nd rfl (.inl rfl))
      (pss_cons (ps_asg (O_behind_rest.use (hr.mono (by decide)) (by rfl) pass0 (pa_cons (pv 3) (pa_cons (pe_ix ix_list (pv 6) (pe_un un_neg pe_int) (fun _ _ => rfl)) (pa_cons (pv 7) (pa_cons (pv 7) (pa_cons pe_bl (pa_cons (pe_tup pa_nil) (pa_cons (O_leaks_then.use (hr.mono (by decide)) (by rfl) pass0 (pa_cons (pv 3) (pa_cons (pv 4) (pa_cons (pv 7) pa_nil)))) pa_nil)))))))) (pg_tup rfl (pgs_cons (pg_name (i := 8) sc_leaky_run.nd rfl (.inl rfl)) (pgs_cons (pg_name (i := 9) sc_leaky_run.nd rfl (.inl rfl)) pgs_nil))))
    (pss_cons (ps_expr (pe_bm PySem.F.plainAttrs_list PySem.F.slot_list_append PySem.F.type_list_append mt_append (pv 5) (pa_cons (pv 9) pa_nil)))
    (pss_one (ps_expr (pe_bm PySem.F.plainAttrs_list PySem.F.slot_list_append PySem.F.type_list_append mt_append (pv 6) (pa_cons (pv 8) pa_nil)))))))
    (pss_one (ps_ret (pe_tup (pa_cons (pv 5) (pa_cons (pv 6) pa_nil)))))))), ?_⟩
  -- own, fault
  refine ⟨v, rfl, v, dw, rfl, hv, lw, fun H1 v1 s1 h1 => ?_⟩
  rw [ew] at h1
  refine ⟨u, rfl, u, dl, rfl, dp_same s1 hu, ll, fun H2 u1 s2 h2 => ⟨_, _, rfl, ?_⟩⟩
  rw [el] at h2
  have h1' : Dp K H2 v1 (wsd ws) := dp_same (new_in.trans s2) h1
  have h2' : Dp K H2 u1 (lkd lk) := dp_same new_in h2
  obtain ⟨a, xs, rfl, ha, hxl⟩ := wsd_len h1'
  -- row, rows
  refine ⟨Nat.zero_le _, fun ro nr => ?_⟩
  have s3 : Same H2 (upd H2 ro (.lst [])) := same_new (Same.refl _) nr
  refine ⟨.ref a, rfl, a, xs, rfl, .inr (same_seqT s3 ha), by omega, by omega, fun H4 dry s4 hd => ⟨by show 1 ≤ sizeLine; decide, fun rs nrs => ⟨_, _, rfl, ?_⟩⟩⟩
  rw [hxl] at hd
  have sB : Same H (upd H4 rs (.lst [.ref dry])) := (s1.trans s2).trans ((s3.trans s4).trans (same_new (Same.refl _) nrs))
  have sB2 : Same H2 (upd H4 rs (.lst [.ref dry])) := (s3.trans s4).trans (same_new (Same.refl _) nrs)
  have nrs2 : H2 rs = none := (s3.trans s4).free nrs
  -- the ground of the loop: both lists are tracked in it
  obtain ⟨B, hB⟩ : ∃ B, B = upd H4 rs (.lst [.ref dry]) := ⟨_, rfl⟩
  rw [← hB]
  rw [← hB] at sB sB2
  have bro : B ro = some (.lst []) := by
    rw [hB]
    exact same_new (Same.refl _) nrs _ _ (s4 _ _ upd_same)
  have brs : B rs = some (.lst [.ref dry]) := by rw [hB, upd_same]
  obtain ⟨A0, hA0⟩ : ∃ A0, A0 = upd (upd H2 ro (.lst [])) rs (.lst []) := ⟨_, rfl⟩
  have a_ro : A0 ro = some (.lst []) := by
    rw [hA0, upd_ne (ne_of_none (upd_same : upd H2 ro (.lst []) ro = _) (s4.free nrs)), upd_same]
  have a_rs : A0 rs = some (.lst []) := by rw [hA0, upd_same]
  have dryA : SqT K (New A0 B) dry ((heldM ws lk 0).map V.int) := by
    refine same_seqT (fun b o z => ?_) hd
    obtain ⟨z1, z2⟩ := of_new z
    have n1 : b ≠ rs := fun e => by rw [e, nrs] at z2; cases z2
    refine new_of ?_ ?_
    · rw [hA0, upd_ne n1]
      exact z1
    · rw [hB, upd_ne n1]
      exact z2
  have a_lt : Dom H A0 := by
    rw [hA0]
    exact dom_upd (dom_upd (dom_of (s1.trans s2)))
  have domA : ∀ {Hc : Hp} {o1 o2 : HO}, Same H2 Hc → Hc ro = some o1 → Hc rs = some o2 → Dom A0 Hc := fun sc e1 e2 b hb => by
    rw [hA0]
    have n1 : b ≠ rs := fun e => by rw [e, e2] at hb; cases hb
    have n2 : b ≠ ro := fun e => by rw [e, e1] at hb; cases hb
    rw [upd_ne n1, upd_ne n2]
    exact sc.free hb
  have hnr : H ro = none := (s1.trans s2).free nr
  have hns : H rs = none := (s1.trans s2).free nrs2
  have h2r : H2 ro = none := nr
  have nsr : ro ≠ rs := ne_of_none (upd_same : upd H2 ro (.lst []) ro = _) (s4.free nrs)
  have nr_s : rs ≠ ro := fun e => nsr e.symm
  clear hA0 hB hd s4 s3 nrs
  refine ⟨.int (m : Nat), rfl, (m : Nat), rfl, RgOk.of_le (by decide) (by omega) (by decide) (by omega), fun rg nrg => ?_⟩
  have lrg : (rgV 0 (m : Nat)).length = m := by rw [rgV_length]; omega
  have sG : Same B (upd B rg (.lst (rgV 0 (m : Nat)))) := same_new (Same.refl _) nrg
  refine ⟨rg, rfl, ⟨_, sql_of upd_same⟩, for_it (walk_list (xs := rgV 0 (m : Nat))) (Pv := fun i σ Hc => ∃ y7 y8 y9 refs, σ = [some v, some u, some (.int (m : Nat)), some (.ref a), some u1, some (.ref ro), some (.ref rs), y7, y8, y9] ∧ Same H Hc ∧ Same H2 Hc ∧ SqL K Hc rg (rgV 0 (m : Nat)) ∧ Hc ro = some (.lst (firstV (outM ws lk) i)) ∧ Hc rs = some (.lst refs) ∧ refs.length = i + 1 ∧ DpAll K (New A0 Hc) refs (rowsD ws lk i) ∧ Hc rg = some (.lst (rgV 0 (m : Nat))) ∧ rg ≠ ro ∧ rg ≠ rs)
    ⟨none, none, none, [.ref dry], rfl, sB.trans sG, sB2.trans sG, sql_of upd_same, ?_, sG _ _ brs, rfl, ?_, upd_same, (ne_of_none bro nrg).symm, (ne_of_none brs nrg).symm⟩ (fun i σ Hc _ pp => ?_) (fun i x σ Hc0 Hc hi pp y => ?_) fun σ Hc pp => ?_⟩
  · exact sG _ _ bro
  · exact dpAll_one (.tup (same_seqT (new_same sG) dryA) (ints_dpAll _))
  · obtain ⟨_, _, _, _, _, _, _, t, _⟩ := pp
    exact t
  · obtain ⟨y7, y8, y9, refs, rfl, sc, sc2, srg, er, es, lr, hrf, erg, ne1, ne2⟩ := pp
    obtain ⟨rfl, y⟩ := y
    rw [lrg] at hi
    have ex : x = .int (i : Nat) := by
      have z : (rgV 0 (m : Nat))[i]? = some (.int (i : Nat)) := by
        unfold rgV
        rw [List.getElem?_map, List.getElem?_range (by omega)]
        show some (V.int (0 + (i : Nat))) = _
        rw [Int.zero_add]
      exact Option.some.inj (y.symm.trans z)
    subst ex
    -- the last row
    have hlast : (rowsD ws lk i)[i]? = some (.tuple (ind (heldM ws lk i))) := by
      unfold rowsD
      rw [List.getElem?_map, List.getElem?_range (by omega)]
      rfl
    obtain ⟨hv0, ev0, hb0⟩ := dpAll_get hrf hlast
    obtain ⟨hb, hxs, rfl, hhb, hhx⟩ := dp_tuple hb0
    have ehx := dpAll_ints hhx
    subst ehx
    have a1 := same_seqT sc2 (show SqT K H2 a xs from ha)
    refine ⟨.ref a, rfl, .ref rs, rfl, 1, rfl, rs, refs, -1, .ref hb, rfl, rfl, sql_of es, atI_m1 (by rw [lr]; exact ev0), .int (i : Nat), rfl, .int (i : Nat), rfl, Nat.zero_le _, fun t nt => ?_⟩
    have s3 : Same Hc (upd Hc t (.tup [])) := same_new (Same.refl _) nt
    have et : (upd Hc t (.tup [])) t = some (.tup []) := upd_same
    generalize upd Hc t (.tup []) = H3 at *
    refine ⟨.ref a, rfl, u1, rfl, .int (i : Nat), rfl, a, xs, u1, lk, (i : Nat), rfl, .inr (same_seqT s3 a1), dp_same (sc2.trans s3) h2', by rw [hxl]; exact lok, by omega, fun H4 p1 s4 hp1 => ?_⟩
    rw [hxl] at hp1
    have s34 := s3.trans s4
    refine ⟨.ref a, ws, hb, t, p1, heldM ws lk i, lksM ws.length lk (i : Nat), (i : Nat), rfl, dp_same (sc2.trans s34) h1', same_seqT (new_in.trans s34) hhb, sqt_of (s4 _ _ et), same_seqT new_in hp1, heldM_len ws lk i, lksM_len _ _ _, hz1, hz, fun H5 p2 s5 hp2 => ?_⟩
    have s35 := s34.trans s5
    have domH4 : Dom A0 H4 := domA (sc2.trans s34) (s34 _ _ er) (s34 _ _ es)
    obtain ⟨q1, zs, rfl, hq1, hzs⟩ := dp_tuple hp2
    cases hzs with
    | cons g0 hzs => cases hzs with
      | cons g1 hzs =>
        cases hzs
        cases g1
        rename_i v0
        refine ⟨q1, _, rfl, same_seqT new_in hq1, rfl, _, _, rfl, _, _, rfl, rfl, ?_⟩
        have er5 := s35 _ _ er
        have es5 := s35 _ _ es
        refine ⟨.ref ro, rfl, .inl ⟨rfl, _, sql_of er5⟩, .int (outM ws lk i), rfl, ro, _, _, rfl, rfl, er5, by rw [firstV_len]; exact small1000 (by omega), ?_⟩
        have es6 : (upd H5 ro (.lst (firstV (outM ws lk) i ++ [.int (outM ws lk i)]))) rs = some (.lst refs) := by rw [upd_ne nr_s]; exact es5
        refine ⟨.ref rs, rfl, .inl ⟨rfl, _, sql_of es6⟩, v0, rfl, rs, _, _, rfl, rfl, es6, by rw [lr]; exact small1000 (by omega), ?_⟩
        refine ⟨_, _, _, refs ++ [v0], rfl, same_put (same_put (sc.trans s35) hnr) hns, same_put (same_put (sc2.trans s35) h2r) nrs2, ?_, ?_, by rw [upd_same], by rw [List.length_append, lr]; rfl, ?_, ?_, ne1, ne2⟩
        · refine sql_of ?_
          rw [upd_ne ne2, upd_ne ne1]
          exact s35 _ _ erg
        · rw [upd_ne nr_s.symm, upd_same, firstV_succ]
        · have eD : rowsD ws lk (i + 1) = rowsD ws lk i ++ [.tuple (ind (heldM ws lk (i + 1)))] := by
            unfold rowsD
            rw [List.range_succ (n := i + 1), List.map_append]
            rfl
          rw [eD]
          have sN : Same (New A0 H5) (New A0 (upd (upd H5 ro (.lst (firstV (outM ws lk) i ++ [.int (outM ws lk i)]))) rs (.lst (refs ++ [v0])))) := (new_put a_ro).trans (new_put a_rs)
          exact dpAll_app (dpAll_same ((new_same s35).trans sN) hrf) (dpAll_one (dp_same ((new_call domH4).trans sN) g0))
        · rw [upd_ne ne2, upd_ne ne1]
          exact s35 _ _ erg
  · obtain ⟨y7, y8, y9, refs, rfl, sc, sc2, srg, er, es, lr, hrf, erg, ne1, ne2⟩ := pp
    rw [lrg] at er lr hrf
    refine ⟨.ref ro, rfl, .ref rs, rfl, by show 2 ≤ sizeLine; decide, fun t nt => q _ _ (sc.trans (same_new (Same.refl _) nt)) ?_⟩
    have st := same_new (o := .tup [.ref ro, .ref rs]) (Same.refl Hc) nt
    refine .tup (sqt_of (new_of (sc.free nt) upd_same)) (.cons (.lst (sql_of (new_of hnr (st _ _ er))) ?_) (dpAll_one (.lst (sql_of (new_of hns (st _ _ es))) (dpAll_same ((new_same st).trans (new_less a_lt)) hrf))))
    rw [firstV_map]
    have e := ints_dpAll (K := K) (H := New H (upd Hc t (.tup [.ref ro, .ref rs]))) ((List.range m).map (outM ws lk))
    rw [List.map_map (g := PyData.int)] at e
    exact e
end
end K8
/-! What a leaky run holds, who shows alike, the best gauge. -/
namespace K8
open PySem PySem.Spec PyProof.Rows L2

theorem pe_toK {X : Cx} {e : Expr} {F : PySem.W.Frag → TE} {K : PySem.W.Frag} (hK : X.K = K) (h : PE X e (F X.K)) : PE X e (F K) := hK ▸ h
/-! ### the forms that the defs take: lists or tuples -/
section
variable {K : PySem.W.Frag} {H H' : Hp} {v : V}
def WsF (K : PySem.W.Frag) (H : Hp) (v : V) (ws : List Well) : Prop := ∃ d, Dp K H v d ∧ Lev 2 d ∧ tupN 2 d = wsd ws
def LkF (K : PySem.W.Frag) (H : Hp) (v : V) (lk : Leak) : Prop := ∃ d, Dp K H v d ∧ Lev 2 d ∧ tupN 2 d = lkd lk
def GF (K : PySem.W.Frag) (H : Hp) (v : V) (g : Int × Int) : Prop := ∃ d, Dp K H v d ∧ Lev 2 d ∧ tupN 2 d = gd g
def SqF {α : Type} (R : PySem.W.Frag → Hp → V → α → Prop) (K : PySem.W.Frag) (H : Hp) (v : V) (as : List α) : Prop := ∃ a xs, v = .ref a ∧ (SqL K H a xs ∨ SqT K H a xs) ∧ xs.length = as.length ∧ ∀ (i : Nat) (x : V) (y : α), xs[i]? = some x → as[i]? = some y → R K H x y
theorem sq_same {a : Addr} {xs : List V} (e : Same H H') (h : SqL K H a xs ∨ SqT K H a xs) : SqL K H' a xs ∨ SqT K H' a xs := h.imp e.seq (same_seqT e)
theorem wsF_same {ws : List Well} (e : Same H H') (h : WsF K H v ws) : WsF K H' v ws := by
  obtain ⟨d, a, b⟩ := h
  exact ⟨d, dp_same e a, b⟩
theorem lkF_same {lk : Leak} (e : Same H H') (h : LkF K H v lk) : LkF K H' v lk := by
  obtain ⟨d, a, b⟩ := h
  exact ⟨d, dp_same e a, b⟩
theorem gF_same {g : Int × Int} (e : Same H H') (h : GF K H v g) : GF K H' v g := by
  obtain ⟨d, a, b⟩ := h
  exact ⟨d, dp_same e a, b⟩
theorem sqF_same {α : Type} {R : PySem.W.Frag → Hp → V → α → Prop} {as : List α} (hR : ∀ {v : V} {y : α}, R K H v y → R K H' v y) (e : Same H H') (h : SqF R K H v as) : SqF R K H' v as := by
  obtain ⟨a, xs, r, hs, l, q⟩ := h
  exact ⟨a, xs, r, sq_same e hs, l, fun i x y h1 h2 => hR (q i x y h1 h2)⟩
theorem dp_sq {d : PyData} {n : Nat} {ds : List PyData} (h : Dp K H v d) (e : tupN (n + 1) d = .tuple ds) : ∃ a xs es, v = .ref a ∧ (SqL K H a xs ∨ SqT K H a xs) ∧ DpAll K H xs es ∧ es.map (tupN n) = ds := by
  cases h with
  | lst h t =>
    have e' : PyData.tuple _ = PyData.tuple ds := e
    injection e' with e'
    exact ⟨_, _, _, rfl, .inl h, t, e'⟩
  | tup h t =>
    have e' : PyData.tuple _ = PyData.tuple ds := e
    injection e' with e'
    exact ⟨_, _, _, rfl, .inr h, t, e'⟩
  | non => cases e
  | bl b => cases e
  | int i => cases e
  | str x => cases e
theorem wsF_seq {ws : List Well} (h : WsF K H v ws) : ∃ a xs, v = .ref a ∧ (SqL K H a xs ∨ SqT K H a xs) ∧ xs.length = ws.length := by
  obtain ⟨d, h, _, e⟩ := h
  obtain ⟨a, xs, es, rfl, hs, ht, ee⟩ := dp_sq h e
  refine ⟨a, xs, rfl, hs, ?_⟩
  rw [dpAll_len ht, ← List.length_map (f := tupN 1), ee, List.length_map]
theorem tup_int {n : Nat} {d : PyData} {i : Int} (e : tupN n d = .int i) : d = .int i := by
  cases n with
  | zero => exact e
  | succ n => cases d <;> first | exact e | cases e
theorem gF_seq {g : Int × Int} (h : GF K H v g) : ∃ b, v = .ref b ∧ (SqL K H b [.int g.1, .int g.2] ∨ SqT K H b [.int g.1, .int g.2]) := by
  obtain ⟨d, h, _, e⟩ := h
  obtain ⟨a, xs, es, rfl, hs, ht, ee⟩ := dp_sq h e
  have el : es.length = 2 := by
    rw [← List.length_map (f := tupN 1), ee]
    rfl
  match es, el, ee, ht with
  | [d1, d2], _, ee, ht =>
    injection ee with e1 e2
    injection e2 with e2 _
    have e1 := tup_int e1
    have e2 := tup_int e2
    subst e1 e2
    have e3 : xs = [.int g.1, .int g.2] := dpAll_ints (ns := [g.1, g.2]) ht
    subst e3
    exact ⟨a, rfl, hs⟩
end
section
variable {P : Program} {w : World} {K : PySem.W.Frag} {mg : Str → Option Value} {base : Heap} {C fI : Addr}
/-! ### leaky_held -/
abbrev s_leaky_held : Stmt := topS 18
abbrev N_leaky_held : List Str := ["waters", "leak", "many"]
theorem sc_leaky_held : FnScope N_leaky_held ["waters", "leak", "many"] (defScope s_leaky_held) := ⟨rfl, rfl, rfl, by decide +kernel, rfl, by decide +kernel, by decide +kernel⟩
def spHeld (K : PySem.W.Frag) : Sp := fun vs H Q _ => ∃ (v u : V) (ws : List Well) (lk : Leak) (m : Nat), vs = [v, u, .int (m : Nat)] ∧ WsF K H v ws ∧ LkF K H u lk ∧ LeakOk ws.length lk ∧ 1 ≤ ws.length ∧ ws.length ≤ 1000 ∧ m ≤ 900 ∧
  ∀ H' p, Same H H' → SqT K (New H H') p ((heldM ws lk m).map V.int) → Q (.ref p) H'
theorem rows_at {K : PySem.W.Frag} {H : Hp} {ws : List Well} {lk : Leak} {m i : Nat} {xs : List V} (h : DpAll K H xs (rowsD ws lk m)) (hi : i ≤ m) : ∃ p, xs[i]? = some (.ref p) ∧ SqT K H p ((heldM ws lk i).map V.int) := by
  have hl : (rowsD ws lk m)[i]? = some (.tuple (ind (heldM ws lk i))) := by
    unfold rowsD
    rw [List.getElem?_map, List.getElem?_range (by omega)]
    rfl
  obtain ⟨v0, e0, h0⟩ := dpAll_get h hl
  obtain ⟨p, ys, rfl, hp, hy⟩ := dp_tuple h0
  have e := dpAll_ints hy
  subst e
  exact ⟨p, e0, hp⟩
theorem rows_len {K : PySem.W.Frag} {H : Hp} {ws : List Well} {lk : Leak} {m : Nat} {xs : List V} (h : DpAll K H xs (rowsD ws lk m)) : xs.length = m + 1 := by
  rw [dpAll_len h]
  simp [rowsD]
theorem ok_leaky_held (T : Tf mg) (D : Df K mg "leaky_held" s_leaky_held ["waters", "leak", "many"]) (O_leaky_run : Pr P w K mg base CX0 4 "leaky_run" ["waters", "leak", "many"] (spRun K)) : Pr P w K mg base CX0 5 "leaky_held" ["waters", "leak", "many"] (spHeld K) := by
  refine D.pr fun f fd F _ _ _ => F.ok sc_leaky_held (fun vs H Q E h => by obtain ⟨_, _, _, _, _, rfl, _⟩ := h; rfl) fun cdv A outer s H vs Q E hr h => ?_
  obtain ⟨v, u, ws, lk, m, rfl, ⟨dw, hv, lw, ew⟩, ⟨dl, hu, ll, el⟩, lok, hz1, hz, hm, q⟩ := h
  refine ⟨_, (pss_one (ps_ret (pe_ix ix_list (pe_ix ix_tup (O_leaky_run.use (hr.mono (by decide)) (by rfl) pass0 (pa_cons (pv 0) (pa_cons (pv 1) (pa_cons (pv 2) pa_nil)))) pe_int (fun _ _ => rfl)) (pe_un un_neg pe_int) (fun _ _ => rfl)))), ?_⟩
  refine ⟨v, rfl, u, rfl, .int (m : Nat), rfl, v, u, dw, dl, ws, lk, m, rfl, hv, lw, ew, hu, ll, el, lok, hz1, hz, hm, fun H1 p s1 hp => ?_⟩
  obtain ⟨a, xs, rfl, ha, hx⟩ := dp_tuple hp
  cases hx with
  | cons g0 hx => cases hx with
    | cons g1 hx =>
      cases hx
      obtain ⟨b, ys, rfl, hb, hy⟩ := dp_list g1
      obtain ⟨c, ec, hc⟩ := rows_at hy (Nat.le_refl m)
      refine ⟨a, _, 1, .ref b, rfl, rfl, same_seqT new_in ha, rfl, 1, rfl, b, ys, -1, .ref c, rfl, rfl, new_in.seq hb, atI_m1 (by rw [rows_len hy]; exact ec), q _ _ s1 hc⟩

/-! ### sure_cistern -/
abbrev s_sure_cistern : Stmt := topS 15
abbrev N_sure_cistern : List Str := ["waters", "number"]
theorem sc_sure_cistern : FnScope N_sure_cistern ["waters", "number"] (defScope s_sure_cistern) := ⟨rfl, rfl, rfl, by decide +kernel, rfl, by decide +kernel, by decide +kernel⟩
abbrev BadX (C : Addr) (H : Hp) (E : XK) (k : Int) : Prop := ∀ H' d, Same H H' → H' d = some (.xd [(("place" : Str), .int k)]) → E (.ref C) (some d) H'
def spSure (K : PySem.W.Frag) (C : Addr) : Sp := fun vs H Q E => ∃ (a : Addr) (xs : List V) (k : Int), vs = [.ref a, .int k] ∧ (SqL K H a xs ∨ SqT K H a xs) ∧ (0 ≤ k ∧ k < (xs.length : Nat) → Q .non H) ∧ (¬ (0 ≤ k ∧ k < (xs.length : Nat)) → BadX C H E k)
theorem ok_sure_cistern (T : Tf mg) (TN : PySem.NpX.NpTxt K mg C fI) (D : Df K mg "sure_cistern" s_sure_cistern ["waters", "number"]) : Pr P w K mg base (L2.CX P w) 2 "sure_cistern" ["waters", "number"] (spSure K C) := by
  refine D.pr fun f fd F _ _ _ => F.okX sc_sure_cistern (fun vs H Q E h => by obtain ⟨_, _, _, rfl, _⟩ := h; rfl) fun cdv A outer s H vs Q E hr h => ?_
  obtain ⟨a, xs, k, rfl, hq, q1, q2⟩ := h
  refine ⟨_, (pss_one (ps_if (pt_not (pt_chain op_le op_lt pe_int (pv 1) (pe_callB call_len_seq (by rfl) T.len PySem.boot_len (pa_cons (pv 0) pa_nil))))
      (pss_one (ps_raiseNp rfl TN hr (takes_of rfl rfl rfl rfl) (pa_cons (pv 1) pa_nil)))
      pss_nil)), ?_⟩
  refine ⟨.int k, rfl, 0, k, rfl, rfl, _, rfl, ifb (fun c => ?_) fun c => ?_⟩
  · have c := of_decide_eq_true c
    refine ⟨.ref a, rfl, a, xs, rfl, hq, _, _, rfl, rfl, _, rfl, ?_⟩
    refine ifb (fun e => ?_) fun e => ?_
    · have e := of_decide_eq_false (Bool.not_eq_true' _ ▸ e)
      exact ⟨.int k, rfl, .int k, rfl, fun d nd => q2 (by omega) _ _ (same_new (Same.refl _) nd) upd_same⟩
    · have e := of_decide_eq_true (Bool.not_eq_false' _ ▸ e)
      exact q1 (by omega)
  · have c := of_decide_eq_false c
    refine ⟨_, rfl, ift rfl ?_⟩
    exact ⟨.int k, rfl, .int k, rfl, fun d nd => q2 (by omega) _ _ (same_new (Same.refl _) nd) upd_same⟩

theorem map_range_getD {α β : Type} (f : α → β) {l : List α} {d : α} : (List.range l.length).map (fun j => f (l.getD j d)) = l.map f := by
  refine List.ext_getElem (by simp) fun i h1 h2 => ?_
  rw [List.length_map, List.length_range] at h1
  rw [List.getElem_map, List.getElem_map, List.getElem_range, List.getD_eq_getElem?_getD, List.getElem?_eq_getElem h1]
  rfl
/-! ### most_alike -/
abbrev s_most_alike : Stmt := topS 19
abbrev N_most_alike : List Str := ["waters", "leaks", "gauge", "number", "many", "shown", "leak", "held"]
theorem sc_most_alike : FnScope N_most_alike ["waters", "leaks", "gauge"] (defScope s_most_alike) := ⟨rfl, rfl, rfl, by decide +kernel, rfl, by decide +kernel, by decide +kernel⟩
def InG (n : Nat) (g : Int × Int) : Prop := 0 ≤ g.1 ∧ g.1 < (n : Nat)
def spMost (K : PySem.W.Frag) (C : Addr) : Sp := fun vs H Q E => ∃ (v u x : V) (ws : List Well) (lks : List Leak) (g : Int × Int), vs = [v, u, x] ∧ WsF K H v ws ∧ SqF LkF K H u lks ∧ GF K H x g ∧ (∀ lk ∈ lks, LeakOk ws.length lk) ∧ 1 ≤ ws.length ∧ ws.length ≤ 1000 ∧ 1 ≤ lks.length ∧ lks.length ≤ 1000 ∧ 0 ≤ g.2 ∧ g.2 ≤ 900 ∧
  (InG ws.length g → ∀ H', Same H H' → Q (.int (alikeM ws lks g)) H') ∧ (¬ InG ws.length g → BadX C H E g.1)
theorem ok_most_alike (T : Tf mg) (D : Df K mg "most_alike" s_most_alike ["waters", "leaks", "gauge"]) (O_sure_cistern : Pr P w K mg base (L2.CX P w) 2 "sure_cistern" ["waters", "number"] (spSure K C)) (O_leaky_held : Pr P w K mg base CX0 5 "leaky_held" ["waters", "leak", "many"] (spHeld K)) :
    Pr P w K mg base (L2.CX P w) 6 "most_alike" ["waters", "leaks", "gauge"] (spMost K C) := by
  refine D.pr fun f fd F _ _ _ => F.okX sc_most_alike (fun vs H Q E h => by obtain ⟨_, _, _, _, _, _, rfl, _⟩ := h; rfl) fun cdv A outer s H vs Q E hr h => ?_
  obtain ⟨v, u, x, ws, lks, g, rfl, hw, hl, hg, lok, hz1, hz, hl1, hl2, hg1, hg2, q1, q2⟩ := h
  obtain ⟨gk, gm⟩ := g
  dsimp only at hg1 hg2 q2
  obtain ⟨m, rfl⟩ := Int.eq_ofNat_of_zero_le hg1
  refine ⟨_, (pss_cons (ps_asg (pv 2) (pg_seq rfl (pgs_cons (pg_name (i := 3) sc_most_alike.nd rfl (.inr rfl)) (pgs_cons (pg_name (i := 4) sc_most_alike.nd rfl (.inr rfl)) pgs_nil))))
    (pss_cons (ps_expr (O_sure_cistern.use (hr.mono (by decide)) (by rfl) (passes_call (takes_of rfl rfl rfl rfl) (fun _ _ _ _ h => h)) (pa_cons (pv 0) (pa_cons (pv 3) pa_nil))))
    (pss_cons (ps_set (i := 5) sc_most_alike.nd rfl (.inr rfl) (pe_lc (own := [("leak", 6)]) (g := gName 6) (tt := tYes) rfl sc_most_alike.nd (pi_seq (pv 1)) (blkOk_by (own := [("leak", 6)]) (N := N_most_alike) (sc := defScope s_most_alike) (by decide +kernel)) (fun _ _ _ _ _ => (pg_name (i := 6) sc_most_alike.nd rfl (.inl rfl))) (fun _ _ _ _ _ => pts_nil) (fun _ _ _ _ _ => (pe_ix (r := rIxT K) ix_tup (O_leaky_held.use (hr.mono (by decide)) (by rfl) pass0 (pa_cons (pv 0) (pa_cons (pv 6) (pa_cons (pv 4) pa_nil)))) (pv 3) (fun _ _ => rfl)))))
    (pss_one (ps_ret (pe_callB (cr_max rfl) (by rfl) T.max (by decide +kernel) (pa_cons (pe_lc (own := [("held", 7)]) (g := gName 7) (tt := tYes) rfl sc_most_alike.nd (pi_list (pv 5)) (blkOk_by (own := [("held", 7)]) (N := N_most_alike) (sc := defScope s_most_alike) (by decide +kernel)) (fun _ _ _ _ _ => (pg_name (i := 7) sc_most_alike.nd rfl (.inl rfl))) (fun _ _ _ _ _ => pts_nil) (fun _ _ _ _ _ => (pe_toK (F := fun K => tBM K _ (rCntI K) _ _) (K := K) rfl (pe_bm PySem.F.plainAttrs_list PySem.F.slot_list_count PySem.F.type_list_count mt_lcount (pv 5) (pa_cons (pv 7) pa_nil))))) pa_nil))))))), ?_⟩
  obtain ⟨b, rfl, hb⟩ := gF_seq hg
  obtain ⟨a, xs, rfl, ha, hxl⟩ := wsF_seq hw
  refine ⟨.ref b, rfl, b, _, rfl, hb, rfl, _, _, rfl, _, _, rfl, rfl, ?_⟩
  refine ⟨.ref a, rfl, .int gk, rfl, a, xs, gk, rfl, ha, fun c => ?_, fun c => q2 (by rw [hxl] at c; exact c)⟩
  rw [hxl] at c
  have c2 := c.2
  obtain ⟨k, rfl⟩ := Int.eq_ofNat_of_zero_le c.1
  replace q1 := q1 c
  obtain ⟨z, ys, rfl, hy, hyl, hyr⟩ := hl
  refine ⟨.ref z, rfl, z, ys, rfl, hy, fun J G wk hG Dl nD => ?_⟩
  refine lc_it wk (Pv := fun i Hc => Same H Hc ∧ Hc Dl = some (.lst (firstV (fun j => (heldM ws (lks.getD j none) m).getD k 0) i))) ⟨same_new (Same.refl _) nD, upd_same⟩ (fun i Hc _ p => hG _ p.1) (fun i y Hc H' hi p yy => ?_) fun Hc p => ?_
  · obtain ⟨sc, eD⟩ := p
    obtain ⟨e0, yy⟩ := yy
    subst e0
    have hi' : i < lks.length := by omega
    have lyy : lks[i]? = some (lks.getD i none) := by
      rw [List.getD_eq_getElem?_getD, List.getElem?_eq_getElem hi']
      rfl
    refine ⟨rfl, .ref a, rfl, y, rfl, .int (m : Nat), rfl, .ref a, y, ws, lks.getD i none, m, rfl, wsF_same sc hw, lkF_same sc (hyr i y _ yy lyy), lok _ (List.mem_of_getElem? lyy), hz1, hz, by omega, fun H2 p s2 hp => ?_⟩
    refine ⟨.int (k : Nat), rfl, p, _, (k : Nat), .int ((heldM ws (lks.getD i none) m).getD k 0), rfl, rfl, same_seqT new_in hp, atI_nat (int_at (by rw [heldM_len]; omega)), _, s2 _ _ eD, ?_, same_put (sc.trans s2) nD, ?_⟩
    · rw [firstV_len]
      exact small1000 (by omega)
    · rw [upd_same, firstV_succ]
  · obtain ⟨sc, eD⟩ := p
    rw [hyl, firstV_map, map_range_getD (fun lk => (heldM ws lk m).getD k 0)] at eD
    have eD : Hc Dl = some (.lst ((shownM ws lks k m).map V.int)) := eD
    have lsh : (shownM ws lks k m).length = lks.length := by simp [shownM]
    have eA : alikeM ws lks ((k : Nat), (m : Nat)) = maxL (countsOf (shownM ws lks k m)) := rfl
    rw [eA] at q1
    generalize shownM ws lks k m = sh at *
    refine ⟨.ref Dl, rfl, Dl, rfl, ⟨_, sql_of eD⟩, fun D2 nD2 => ?_⟩
    have ne : Dl ≠ D2 := ne_of_none eD nD2
    refine lc_it (walk_list (xs := sh.map V.int)) (Pv := fun i Hd => Same H Hd ∧ Hd Dl = some (.lst (sh.map V.int)) ∧ Hd D2 = some (.lst (firstV (fun j => ((sh.count (sh.getD j 0) : Nat) : Int)) i))) ⟨same_new sc nD2, by rw [upd_ne ne]; exact eD, upd_same⟩ (fun i Hd _ p => sql_of p.2.1) (fun i y Hd H' hi p yy => ?_) fun Hd p => ?_
    · obtain ⟨sd, eD', e2⟩ := p
      obtain ⟨e0, yy⟩ := yy
      subst e0
      rw [List.length_map] at hi
      have ex : y = .int (sh.getD i 0) := Option.some.inj (yy.symm.trans (int_at hi))
      subst ex
      refine ⟨rfl, .ref Dl, rfl, .inl ⟨rfl, _, sql_of eD'⟩, .int (sh.getD i 0), rfl, Dl, sh, sh.getD i 0, rfl, rfl, sql_of eD', _, e2, ?_, same_put sd (sc.free nD2), ?_, ?_⟩
      · rw [firstV_len]
        exact small1000 (by omega)
      · rw [upd_ne ne]
        exact eD'
      · rw [upd_same, firstV_succ]
    · obtain ⟨sd, eD', e2⟩ := p
      rw [List.length_map, firstV_map, map_range_getD (fun x => ((sh.count x : Nat) : Int))] at e2
      have e2 : Hd D2 = some (.lst ((countsOf sh).map V.int)) := e2
      have lc : (countsOf sh).length = sh.length := by simp [countsOf]
      refine ⟨D2, countsOf sh, rfl, sql_of e2, by omega, fun mm h1 h2 => ?_⟩
      rw [maxL_eq h1 h2]
      exact q1 _ sd
end
end K8
/-! The best gauge. -/
namespace K8
open PySem PySem.Spec PyProof.Rows L2

section
variable {P : Program} {w : World} {K : PySem.W.Frag} {mg : Str → Option Value} {base : Heap} {C fI : Addr}
/-! ### best_gauge -/
abbrev s_best_gauge : Stmt := topS 20
abbrev N_best_gauge : List Str := ["waters", "leaks", "gauges", "counts", "gauge"]
theorem sc_best_gauge : FnScope N_best_gauge ["waters", "leaks", "gauges"] (defScope s_best_gauge) := ⟨rfl, rfl, rfl, by decide +kernel, rfl, by decide +kernel, by decide +kernel⟩
def spBest (K : PySem.W.Frag) (C : Addr) : Sp := fun vs H Q E => ∃ (v u x : V) (ws : List Well) (lks : List Leak) (gs : List (Int × Int)), vs = [v, u, x] ∧ WsF K H v ws ∧ SqF LkF K H u lks ∧ SqF GF K H x gs ∧ (∀ lk ∈ lks, LeakOk ws.length lk) ∧ 1 ≤ ws.length ∧ ws.length ≤ 1000 ∧ 1 ≤ lks.length ∧ lks.length ≤ 1000 ∧ 1 ≤ gs.length ∧ gs.length ≤ 1000 ∧ (∀ g ∈ gs, 0 ≤ g.2 ∧ g.2 ≤ 900) ∧
  ((∀ i, i < gs.length → InG ws.length (gs.getD i (0, 0))) → ∀ H' p, Same H H' → Dp K (New H H') p (gd (bestM ws lks gs)) → Q p H') ∧ (∀ i, i < gs.length → (∀ j, j < i → InG ws.length (gs.getD j (0, 0))) → ¬ InG ws.length (gs.getD i (0, 0)) → BadX C H E (gs.getD i (0, 0)).1)
theorem firstMin_spec {cs : List Int} (h : cs ≠ []) : firstMin cs < cs.length ∧ cs.getD (firstMin cs) 0 = minL cs ∧ ∀ j, j < firstMin cs → cs.getD j 0 ≠ minL cs := by
  have hm := (minL_spec cs h).1
  have hlt : firstMin cs < cs.length := by
    unfold firstMin
    exact List.findIdx_lt_length_of_exists ⟨_, hm, by simp⟩
  refine ⟨hlt, ?_, fun j hj => ?_⟩
  · have q := List.findIdx_getElem (p := fun c => c == minL cs) (w := hlt)
    rw [List.getD_eq_getElem?_getD, List.getElem?_eq_getElem hlt]
    exact eq_of_beq q
  · have q := List.not_of_lt_findIdx (p := fun c => c == minL cs) hj
    have hj' : j < cs.length := Nat.lt_trans hj hlt
    rw [List.getD_eq_getElem?_getD, List.getElem?_eq_getElem hj']
    intro e
    have e' : cs[j] = minL cs := e
    have q' : (cs[j] == minL cs) = false := q
    rw [e', beq_self_eq_true] at q'
    cases q'
theorem ok_best_gauge (T : Tf mg) (D : Df K mg "best_gauge" s_best_gauge ["waters", "leaks", "gauges"]) (O_most_alike : Pr P w K mg base (L2.CX P w) 6 "most_alike" ["waters", "leaks", "gauge"] (spMost K C)) (O_tuple_of : Pr P w K mg base CX0 3 "tuple_of" ["thing"] (spTup K 2)) :
    Pr P w K mg base (L2.CX P w) 7 "best_gauge" ["waters", "leaks", "gauges"] (spBest K C) := by
  refine D.pr fun f fd F _ _ _ => F.okX sc_best_gauge (fun vs H Q E h => by obtain ⟨_, _, _, _, _, _, rfl, _⟩ := h; rfl) fun cdv A outer s H vs Q E hr h => ?_
  obtain ⟨v, u, x, ws, lks, gs, rfl, hw, hl, hg, lok, hz1, hz, hl1, hl2, hn1, hn2, hg2, q1, q2⟩ := h
  refine ⟨_, (pss_cons (ps_setLcX (i := 3) (own := [("gauge", 4)]) (g := gName 4) (tt := tYes) rfl rfl (takes_of rfl rfl rfl rfl) (fun _ _ _ _ h => h) rfl sc_best_gauge.nd rfl rfl (sw_true rfl rfl rfl (by decide +kernel)) (pi_seq (pv 2)) (blkOk_by (own := [("gauge", 4)]) (N := N_best_gauge) (sc := defScope s_best_gauge) (by decide +kernel)) (fun _ _ _ _ _ => (pg_name (i := 4) sc_best_gauge.nd rfl (.inl rfl))) (fun _ _ _ _ _ => pts_nil) (fun _ _ _ _ _ _ hx => (O_most_alike.use hr (by rfl) hx (pa_cons (pv 0) (pa_cons (pv 1) (pa_cons (pv 4) pa_nil))))))
    (pss_one (ps_ret (O_tuple_of.use (hr.mono (by decide)) (by rfl) pass0 (pa_cons (pe_ix (IxR.or ix_list ix_tup) (pv 2) (pe_bm PySem.F.plainAttrs_list PySem.F.slot_list_index PySem.F.type_list_index mt_index (pv 3) (pa_cons (pe_callB (cr_min rfl) (by rfl) T.min (by decide +kernel) (pa_cons (pv 3) pa_nil)) pa_nil)) (fun _ _ => rfl)) pa_nil))))), ?_⟩
  obtain ⟨z, ys, rfl, hy, hyl, hyr⟩ := hg
  refine ⟨.ref z, rfl, z, ys, rfl, hy, fun J G wk hG Dl nD => ?_⟩
  have gAt : ∀ i, i < gs.length → gs[i]? = some (gs.getD i (0, 0)) := fun i h => by
    rw [List.getD_eq_getElem?_getD, List.getElem?_eq_getElem h]
    rfl
  refine lc_it wk (Pv := fun i Hc => Same H Hc ∧ Hc Dl = some (.lst (firstV (fun j => alikeM ws lks (gs.getD j (0, 0))) i)) ∧ ∀ j, j < i → InG ws.length (gs.getD j (0, 0))) ⟨same_new (Same.refl _) nD, upd_same, fun j h => absurd h (Nat.not_lt_zero _)⟩ (fun i Hc _ p => hG _ p.1) (fun i y Hc H' hi p yy => ?_) fun Hc p => ?_
  · obtain ⟨sc, eD, pin⟩ := p
    obtain ⟨e0, yy⟩ := yy
    subst e0
    have hi' : i < gs.length := by omega
    refine ⟨rfl, v, rfl, u, rfl, y, rfl, v, u, y, ws, lks, gs.getD i (0, 0), rfl, wsF_same sc hw, sqF_same (lkF_same sc) sc hl, gF_same sc (hyr i y _ yy (gAt i hi')), lok, hz1, hz, hl1, hl2, (hg2 _ (List.mem_of_getElem? (gAt i hi'))).1, (hg2 _ (List.mem_of_getElem? (gAt i hi'))).2, fun inn H2 s2 => ?_, fun nin H2 d s2 hd => q2 i hi' pin nin _ _ (sc.trans s2) hd⟩
    refine ⟨_, s2 _ _ eD, ?_, same_put (sc.trans s2) nD, ?_, fun j hj => ?_⟩
    · rw [firstV_len]
      exact small1000 (by omega)
    · rw [upd_same, firstV_succ]
    · by_cases e : j = i
      · rw [e]
        exact inn
      · exact pin j (by omega)
  · obtain ⟨sc, eD, pin⟩ := p
    rw [hyl] at pin
    rw [hyl, firstV_map, map_range_getD (fun g => alikeM ws lks g)] at eD
    replace q1 := q1 pin
    unfold bestM at q1
    have lcs : (gs.map (alikeM ws lks)).length = gs.length := List.length_map _
    generalize gs.map (alikeM ws lks) = cs at *
    have cne : cs ≠ [] := fun e => by
      rw [e] at lcs
      have lcs : 0 = gs.length := lcs
      omega
    obtain ⟨f1, f2, f3⟩ := firstMin_spec cne
    have hj : firstMin cs < gs.length := by omega
    have ey := gAt _ hj
    obtain ⟨y, hyj⟩ : ∃ y, ys[firstMin cs]? = some y := ⟨ys[firstMin cs]'(by omega), List.getElem?_eq_getElem _⟩
    have gy := gF_same sc (hyr _ y _ hyj ey)
    refine ⟨.ref z, rfl, .ref Dl, rfl, .inl ⟨rfl, _, sql_of eD⟩, .ref Dl, rfl, Dl, cs, rfl, sql_of eD, by omega, fun mm h1 h2 => ?_⟩
    rw [minL_eq h1 h2]
    refine ⟨Dl, cs.map V.int, .int (minL cs), firstMin cs, .int (cs.getD (firstMin cs) 0), rfl, rfl, sql_of eD, rfl, ?_, int_at f1, ?_, fun k z' hk hz' => ?_, ?_⟩
    · rw [List.all_map]
      exact List.all_eq_true.mpr fun _ _ => rfl
    · show (cs.getD (firstMin cs) 0 == minL cs) = true
      rw [f2, beq_self_eq_true]
    · have e : z' = .int (cs.getD k 0) := Option.some.inj (hz'.symm.trans (int_at (by omega)))
      subst e
      show (cs.getD k 0 == minL cs) = false
      exact beq_eq_false_iff_ne.mpr (f3 k hk)
    · obtain ⟨dg, d1, d2, d3⟩ := gy
      have fin : spTup K 2 [y] Hc (fun p H' => Q p H') E0 := ⟨y, dg, rfl, d1, d2, fun H3 p s3 hp => q1 _ _ (sc.trans s3) (dp_same (new_call (dom_of sc)) (d3 ▸ hp))⟩
      rcases sq_same sc hy with hq | hq
      · exact .inl ⟨z, ys, (firstMin cs : Nat), y, rfl, rfl, hq, atI_nat hyj, fin⟩
      · exact .inr ⟨z, ys, (firstMin cs : Nat), y, rfl, rfl, hq, atI_nat hyj, fin⟩
end
end K8
/-! Where two runs part. -/
namespace K8
open PySem PySem.Spec PyProof.Rows L2

/-! ### the first place where two tables differ -/
section
variable {a b : Nat → List Int} {n m i j : Nat}
theorem rowNo {r : Nat} (h : ∀ k, k < n → (a r).getD k 0 = (b r).getD k 0) : (((List.range n).filter fun k => (a r).getD k 0 != (b r).getD k 0).map fun k => (r, k)).head? = none := by
  have e : (List.range n).filter (fun k => (a r).getD k 0 != (b r).getD k 0) = [] := by
    rw [List.filter_eq_nil_iff]
    intro k hk
    rw [h k (List.mem_range.mp hk)]
    simp
  rw [e]
  rfl
theorem range_cut {c : Nat} (h : i < c) : List.range c = List.range i ++ i :: (List.range (c - i - 1)).map fun x => i + (x + 1) := by
  have e : c = i + (c - i - 1 + 1) := by omega
  have q : List.range (i + (c - i - 1 + 1)) = List.range i ++ i :: (List.range (c - i - 1)).map fun x => i + (x + 1) := by
    rw [List.range_add, List.range_succ_eq_map, List.map_cons, List.map_map]
    rfl
  rw [← e] at q
  exact q
theorem unlike_none (h : ∀ r, r ≤ m → ∀ k, k < n → (a r).getD k 0 = (b r).getD k 0) : (unlikeM a b n m).head? = none := by
  unfold unlikeM
  rw [List.head?_flatMap, List.findSome?_eq_none_iff]
  intro r hr
  exact rowNo (h r (by have := List.mem_range.mp hr; omega))
theorem unlike_at (h : ∀ r, r < i → ∀ k, k < n → (a r).getD k 0 = (b r).getD k 0) (hi : i ≤ m) (hk : ∀ k, k < j → (a i).getD k 0 = (b i).getD k 0) (hj : j < n) (hd : ¬ (a i).getD j 0 = (b i).getD j 0) : (unlikeM a b n m).head? = some (i, j) := by
  unfold unlikeM
  rw [List.head?_flatMap, List.findSome?_eq_some_iff]
  refine ⟨List.range i, i, _, range_cut (by omega), ?_, fun r hr => rowNo (h r (List.mem_range.mp hr))⟩
  rw [range_cut hj, List.filter_append, List.filter_cons]
  have e : (List.range j).filter (fun k => (a i).getD k 0 != (b i).getD k 0) = [] := by
    rw [List.filter_eq_nil_iff]
    intro k hk'
    rw [hk k (List.mem_range.mp hk')]
    simp
  rw [e, if_pos (bne_iff_ne.mpr hd)]
  rfl
end
section
variable {P : Program} {w : World} {K : PySem.W.Frag} {mg : Str → Option Value} {base : Heap}
/-! ### parting_gauge -/
abbrev s_parting_gauge : Stmt := topS 21
abbrev N_parting_gauge : List Str := ["waters", "leak", "other_leak", "many", "one", "two", "rests", "held", "number", "holds"]
theorem sc_parting_gauge : FnScope N_parting_gauge ["waters", "leak", "other_leak", "many"] (defScope s_parting_gauge) := ⟨rfl, rfl, rfl, by decide +kernel, rfl, by decide +kernel, by decide +kernel⟩
def spPart (K : PySem.W.Frag) : Sp := fun vs H Q _ => ∃ (v u u2 : V) (ws : List Well) (l1 l2 : Leak) (m : Nat), vs = [v, u, u2, .int (m : Nat)] ∧ WsF K H v ws ∧ LkF K H u l1 ∧ LkF K H u2 l2 ∧ LeakOk ws.length l1 ∧ LeakOk ws.length l2 ∧ 1 ≤ ws.length ∧ ws.length ≤ 1000 ∧ m ≤ 900 ∧
  ∀ H' p, Same H H' → Dp K (New H H') p (optD (partM ws l1 l2 m)) → Q p H'
theorem ok_parting_gauge (T : Tf mg) (D : Df K mg "parting_gauge" s_parting_gauge ["waters", "leak", "other_leak", "many"]) (O_leaky_run : Pr P w K mg base CX0 4 "leaky_run" ["waters", "leak", "many"] (spRun K)) :
    Pr P w K mg base CX0 5 "parting_gauge" ["waters", "leak", "other_leak", "many"] (spPart K) := by
  refine D.pr fun f fd F _ _ _ => F.ok sc_parting_gauge (fun vs H Q E h => by obtain ⟨_, _, _, _, _, _, _, rfl, _⟩ := h; rfl) fun cdv A outer s H vs Q E hr h => ?_
  obtain ⟨v, u, u2, ws, l1, l2, m, rfl, ⟨dw, hv, lw, ew⟩, ⟨d1, hu1, ll1, el1⟩, ⟨d2, hu2, ll2, el2⟩, lok1, lok2, hz1, hz, hm, q⟩ := h
  refine ⟨_, (pss_cons (ps_par (i := 4) (j := 5) (by rfl) sc_parting_gauge.nd rfl rfl (by decide) rfl rfl (pa_cons (pe_ix ix_tup (O_leaky_run.use (hr.mono (by decide)) (by rfl) pass0 (pa_cons (pv 0) (pa_cons (pv 1) (pa_cons (pv 3) pa_nil)))) pe_int (fun _ _ => rfl)) (pa_cons (pe_ix ix_tup (O_leaky_run.use (hr.mono (by decide)) (by rfl) pass0 (pa_cons (pv 0) (pa_cons (pv 2) (pa_cons (pv 3) pa_nil)))) pe_int (fun _ _ => rfl)) pa_nil)) (by rfl))
    (pss_cons (ps_for PassesOwn.never rfl (pi_enum (by rfl) T.enumerate (pa_cons (pv 4) pa_nil)) (pg_tup rfl (pgs_cons (pg_name (i := 6) sc_parting_gauge.nd rfl (.inl rfl)) (pgs_cons (pg_name (i := 7) sc_parting_gauge.nd rfl (.inl rfl)) pgs_nil)))
      (pss_one (ps_for PassesOwn.never rfl (pi_enumT (by rfl) T.enumerate (pa_cons (pv 7) pa_nil)) (pg_tup rfl (pgs_cons (pg_name (i := 8) sc_parting_gauge.nd rfl (.inl rfl)) (pgs_cons (pg_name (i := 9) sc_parting_gauge.nd rfl (.inl rfl)) pgs_nil)))
      (pss_one (ps_if (pt_cmpR op_ne (pv 9) (pe_ix ix_tup (pe_ix ix_list (pv 5) (pv 6) (fun _ _ => rfl)) (pv 8) (fun _ _ => rfl)) (nomark _))
      (pss_one (ps_ret (pe_tup (pa_cons (pv 6) (pa_cons (pv 8) pa_nil)))))
      pss_nil)))))
    (pss_one (ps_ret pe_non)))), ?_⟩
  refine ⟨v, rfl, u, rfl, .int (m : Nat), rfl, v, u, dw, d1, ws, l1, m, rfl, hv, lw, ew, hu1, ll1, el1, lok1, hz1, hz, hm, fun H1 p s1 hp => ?_⟩
  obtain ⟨a, xs, rfl, ha, hx⟩ := dp_tuple hp
  cases hx with
  | cons g0 hx => cases hx with
    | cons g1 hx =>
      cases hx
      obtain ⟨b, ys, rfl, hb, hy⟩ := dp_list g1
      refine ⟨a, _, 1, .ref b, rfl, rfl, same_seqT new_in ha, rfl, ?_⟩
      refine ⟨v, rfl, u2, rfl, .int (m : Nat), rfl, v, u2, dw, d2, ws, l2, m, rfl, dp_same s1 hv, lw, ew, dp_same s1 hu2, ll2, el2, lok2, hz1, hz, hm, fun H2 p2 s2 hp2 => ?_⟩
      obtain ⟨a2, xs2, rfl, ha2, hx2⟩ := dp_tuple hp2
      cases hx2 with
      | cons k0 hx2 => cases hx2 with
        | cons k1 hx2 =>
          cases hx2
          obtain ⟨b2, ys2, rfl, hb2, hy2⟩ := dp_list k1
          refine ⟨a2, _, 1, .ref b2, rfl, rfl, same_seqT new_in ha2, rfl, _, _, rfl, ?_⟩
          have hb' : SqL K H2 b ys := (new_in.trans s2).seq hb
          have hy' : DpAll K H2 ys (rowsD ws l1 m) := dpAll_same (new_in.trans s2) hy
          have hb2' : SqL K H2 b2 ys2 := new_in.seq hb2
          have hy2' : DpAll K H2 ys2 (rowsD ws l2 m) := dpAll_same new_in hy2
          have s12 := s1.trans s2
          clear hp hp2 ha ha2 g0 g1 k0 k1 hb hy hb2 hy2
          refine ⟨.ref b, rfl, b, ys, rfl, hb', for_it (walk_enum (xs := ys)) (Pv := fun i σ Hc => ∃ y6 y7 y8 y9, σ = [some v, some u, some u2, some (.int (m : Nat)), some (.ref b), some (.ref b2), y6, y7, y8, y9] ∧ Same H Hc ∧ Same H2 Hc ∧ ∀ r, r < i → ∀ k, k < ws.length → (heldM ws l1 r).getD k 0 = (heldM ws l2 r).getD k 0)
            ⟨none, none, none, none, rfl, s12, Same.refl _, fun r h => absurd h (Nat.not_lt_zero _)⟩ (fun i σ Hc _ pp => ?_) (fun i x σ Hc H' hi pp y => ?_) fun σ Hc pp => ?_⟩
          · obtain ⟨_, _, _, _, _, _, sc, _⟩ := pp
            exact sc.seq hb'
          · obtain ⟨y6, y7, y8, y9, rfl, sc, sc2, al⟩ := pp
            obtain ⟨T0, x0, x1, rfl, nT, rfl, g0, g1⟩ := y
            cases g0
            rw [rows_len hy'] at hi
            obtain ⟨r1, er1, hr1⟩ := rows_at hy' (show i ≤ m by omega)
            obtain ⟨r2, er2, hr2⟩ := rows_at hy2' (show i ≤ m by omega)
            have ex : x1 = .ref r1 := Option.some.inj (g1.symm.trans er1)
            subst ex
            have sT : Same Hc (upd Hc T0 (.tup [.int (i : Nat), .ref r1])) := same_new (Same.refl _) nT
            have eT : (upd Hc T0 (.tup [.int (i : Nat), .ref r1])) T0 = some (.tup [.int (i : Nat), .ref r1]) := upd_same
            replace sc := sc.trans sT
            replace sc2 := sc2.trans sT
            generalize upd Hc T0 (.tup [.int (i : Nat), .ref r1]) = H3 at *
            refine ⟨T0, _, rfl, sqt_of eT, rfl, _, _, rfl, _, _, rfl, rfl, ?_⟩
            refine ⟨.ref r1, rfl, r1, _, rfl, same_seqT sc2 hr1, for_it (walk_enumT (xs := (heldM ws l1 i).map V.int)) (Pv := fun j σ Hd => ∃ y8 y9, σ = [some v, some u, some u2, some (.int (m : Nat)), some (.ref b), some (.ref b2), some (.int (i : Nat)), some (.ref r1), y8, y9] ∧ Same H Hd ∧ Same H2 Hd ∧ ∀ k, k < j → (heldM ws l1 i).getD k 0 = (heldM ws l2 i).getD k 0)
              ⟨y8, y9, rfl, sc, sc2, fun k h => absurd h (Nat.not_lt_zero _)⟩ (fun j σ Hd _ pp => ?_) (fun j x σ Hd H' hj pp y => ?_) fun σ Hd pp => ?_⟩
            · obtain ⟨_, _, _, _, sd, _⟩ := pp
              exact same_seqT sd hr1
            · obtain ⟨y8, y9, rfl, sd, sd2, ak⟩ := pp
              obtain ⟨T1, x0, x1, rfl, nT1, rfl, g0, g1⟩ := y
              cases g0
              rw [List.length_map, heldM_len] at hj
              have ex : x1 = .int ((heldM ws l1 i).getD j 0) := Option.some.inj (g1.symm.trans (int_at (by rw [heldM_len]; exact hj)))
              subst ex
              have sT1 : Same Hd (upd Hd T1 (.tup [.int (j : Nat), .int ((heldM ws l1 i).getD j 0)])) := same_new (Same.refl _) nT1
              have eT1 : (upd Hd T1 (.tup [.int (j : Nat), .int ((heldM ws l1 i).getD j 0)])) T1 = some (.tup [.int (j : Nat), .int ((heldM ws l1 i).getD j 0)]) := upd_same
              replace sd := sd.trans sT1
              replace sd2 := sd2.trans sT1
              generalize upd Hd T1 (.tup [.int (j : Nat), .int ((heldM ws l1 i).getD j 0)]) = H4 at *
              refine ⟨T1, _, rfl, sqt_of eT1, rfl, _, _, rfl, _, _, rfl, rfl, ?_⟩
              refine ⟨.int ((heldM ws l1 i).getD j 0), rfl, .ref b2, rfl, .int (i : Nat), rfl, b2, ys2, (i : Nat), .ref r2, rfl, rfl, sd2.seq hb2', atI_nat er2, .int (j : Nat), rfl, r2, _, (j : Nat), .int ((heldM ws l2 i).getD j 0), rfl, rfl, same_seqT sd2 hr2, atI_nat (int_at (by rw [heldM_len]; exact hj)), ?_⟩
              refine ⟨rfl, _, rfl, ifb (fun c => ?_) fun c => ?_⟩
              · have c := vi_nof (Bool.not_eq_true' _ ▸ c)
                refine ⟨.int (i : Nat), rfl, .int (j : Nat), rfl, by show 2 ≤ sizeLine; decide, fun t nt => q _ _ (sd.trans (same_new (Same.refl _) nt)) ?_⟩
                unfold partM
                rw [unlike_at al (by omega) ak hj c]
                exact .tup (sqt_of (new_of (sd.free nt) upd_same)) (.cons (.int _) (dpAll_one (.int _)))
              · have c := vi_of (Bool.not_eq_false' _ ▸ c)
                refine ⟨_, _, rfl, sd, sd2, fun k hk => ?_⟩
                by_cases e : k = j
                · rw [e]
                  exact c
                · exact ak k (by omega)
            · obtain ⟨y8, y9, rfl, sd, sd2, ak⟩ := pp
              rw [List.length_map, heldM_len] at ak
              refine ⟨_, _, _, _, rfl, sd, sd2, fun r hr k hk => ?_⟩
              by_cases e : r = i
              · rw [e]
                exact ak k hk
              · exact al r (by omega) k hk
          · obtain ⟨y6, y7, y8, y9, rfl, sc, sc2, al⟩ := pp
            rw [rows_len hy'] at al
            refine q _ _ sc ?_
            unfold partM
            rw [unlike_none fun r hr k hk => al r (by omega) k hk]
            exact .non
end
end K8
/-! The law's own draws. -/
namespace K8
open PySem PySem.Spec PyProof.Rows L2

/-! ### the urn: a list of three ints, the last counts the draws -/
section
variable {K : PySem.W.Frag} {H H' H2 A : Hp} {u : Addr} {k : Nat}
def Urn (u : Addr) (k : Nat) (H : Hp) : Prop := ∃ a b c : Int, H u = some (.lst [.int a, .int b, .int c]) ∧ 0 ≤ c ∧ c ≤ (k : Nat)
/-- all that H tracks stands in H', but for the urn -/
structure Stp (u : Addr) (H H' : Hp) : Prop where
  kp : ∀ b o, b ≠ u → H b = some o → H' b = some o
  dm : Dom H H'
theorem Stp.refl : Stp u H H := ⟨fun _ _ _ e => e, dom_refl H⟩
theorem Stp.trans (h : Stp u H H') (h' : Stp u H' H2) : Stp u H H2 := ⟨fun b o n e => h'.kp b o n (h.kp b o n e), dom_trans h.dm h'.dm⟩
theorem stp_same (s : Same H H') : Stp u H H' := ⟨fun b o _ e => s b o e, dom_of s⟩
theorem stp_upd {o : HO} : Stp u H (upd H u o) := ⟨fun b v n e => by rw [upd_ne n]; exact e, dom_upd (dom_refl H)⟩
theorem Stp.new {o : HO} (h : Stp u H H') (ha : A u = some o) : Same (New A H) (New A H') := fun b v e => by
  obtain ⟨e1, e2⟩ := of_new e
  exact new_of e1 (h.kp b v (fun z => by rw [z, ha] at e1; cases e1) e2)
theorem stp_put {p : Addr} {o : HO} (h : Stp u H H') (n : H p = none) : Stp u H (upd H' p o) := ⟨fun b v nb e => by rw [upd_ne (ne_of_none e n)]; exact h.kp b v nb e, dom_upd h.dm⟩
theorem urn_put {p : Addr} {o : HO} (h : Urn u k H) (n : p ≠ u) : Urn u k (upd H p o) := by
  obtain ⟨a, b, c, e, h12⟩ := h
  exact ⟨a, b, c, by rw [upd_ne n.symm]; exact e, h12⟩
theorem urn_mono {j : Nat} (h : Urn u k H) (l : k ≤ j) : Urn u j H := by
  obtain ⟨a, b, c, e, h1, h2⟩ := h
  exact ⟨a, b, c, e, h1, by omega⟩
theorem urn_same (h : Urn u k H) (s : Same H H') : Urn u k H' := by
  obtain ⟨a, b, c, e, h12⟩ := h
  exact ⟨a, b, c, s _ _ e, h12⟩
theorem urn_some (h : Urn u k H) : ∃ o, H u = some o := by
  obtain ⟨a, b, c, e, _⟩ := h
  exact ⟨_, e⟩
end
section
variable {P : Program} {w : World} {K : PySem.W.Frag} {mg : Str → Option Value} {base : Heap}
/-! ### _law_take -/
abbrev s__law_take : Stmt := topS 24
abbrev N__law_take : List Str := ["_law_urn", "_law_low_so", "_law_drawn", "_law_once", "_law_far", "_law_twice"]
theorem sc__law_take : FnScope N__law_take ["_law_urn", "_law_low_so"] (defScope s__law_take) := ⟨rfl, rfl, rfl, by decide +kernel, rfl, by decide +kernel, by decide +kernel⟩
def spTake (K : PySem.W.Frag) : Sp := fun vs H Q _ => ∃ (u : Addr) (low : Int) (k : Nat), vs = [.ref u, .int low] ∧ 0 < low ∧ low ≤ 1000 ∧ k ≤ 1000 ∧ Urn u k H ∧ ∀ r H', 0 ≤ r → r < low → Stp u H H' → Urn u (k + 1) H' → Q (.int r) H'
theorem ok__law_take (T : Tf mg) (D : Df K mg "_law_take" s__law_take ["_law_urn", "_law_low_so"]) : Pr P w K mg base CX0 1 "_law_take" ["_law_urn", "_law_low_so"] (spTake K) := by
  refine D.pr fun f fd F _ _ _ => F.ok sc__law_take (fun vs H Q E h => by obtain ⟨_, _, _, rfl, _⟩ := h; rfl) fun cdv A outer s H vs Q E hr h => ?_
  obtain ⟨u, low, k, rfl, l0, l1, hk, ⟨a, b, c, eu, c0, c1⟩, q⟩ := h
  refine ⟨_, (pss_cons (ps_if (pt_cmpR op_gt (pe_ix ix_list (pv 0) pe_int (fun _ _ => rfl)) pe_int (nomark _))
      (pss_cons (ps_set (i := 2) sc__law_take.nd rfl (.inl rfl) (pe_op op_mod (pe_callTy call_int1 (by rfl) T.int (by decide +kernel) (pa_cons (pe_ix ix_list (pv 0) pe_int (fun _ _ => rfl)) pa_nil)) (pv 1)))
    (pss_cons (ps_asg (pe_op op_fdiv (pe_ix ix_list (pv 0) pe_int (fun _ _ => rfl)) (pv 1)) (pg_sub (pv 0) pe_int set_list))
    (pss_one (ps_ret (pv 2)))))
      pss_nil)
    (pss_cons (ps_asg (pe_op op_add (pe_ix ix_list (pv 0) pe_int (fun _ _ => rfl)) pe_int) (pg_sub (pv 0) pe_int set_list))
    (pss_cons (ps_set (i := 3) sc__law_take.nd rfl (.inl rfl) (pe_op op_mod (pe_callTy call_int1 (by rfl) T.int (by decide +kernel) (pa_cons (pe_op op_mul (pe_op op_add (pe_ix ix_list (pv 0) pe_int (fun _ _ => rfl)) (pe_op op_mul pe_int (pe_ix ix_list (pv 0) pe_int (fun _ _ => rfl)))) (pe_op op_add pe_int (pe_ix ix_list (pv 0) pe_int (fun _ _ => rfl)))) pa_nil)) pe_int))
    (pss_cons (ps_set (i := 4) sc__law_take.nd rfl (.inl rfl) (pe_op op_add (pe_op op_mod (pe_callTy call_int1 (by rfl) T.int (by decide +kernel) (pa_cons (pv 3) pa_nil)) pe_int) pe_int))
    (pss_cons (ps_set (i := 5) sc__law_take.nd rfl (.inl rfl) (pe_op op_mod (pe_callTy call_int1 (by rfl) T.int (by decide +kernel) (pa_cons (pe_op op_mul (pe_op op_add (pe_op op_add (pv 3) (pe_ix ix_list (pv 0) pe_int (fun _ _ => rfl))) (pe_op op_fdiv (pe_ix ix_list (pv 0) pe_int (fun _ _ => rfl)) pe_int)) (pv 4)) pa_nil)) pe_int))
    (pss_one (ps_ret (pe_op op_mod (pe_callTy call_int1 (by rfl) T.int (by decide +kernel) (pa_cons (pe_op op_fdiv (pe_op op_mod (pe_callTy call_int1 (by rfl) T.int (by decide +kernel) (pa_cons (pe_op op_add (pe_op op_mul (pv 5) pe_int) (pv 3)) pa_nil)) pe_int) pe_int) pa_nil)) (pv 1))))))))), ?_⟩
  have hs : SqL K H u [.int a, .int b, .int c] := sql_of eu
  refine ⟨.ref u, rfl, u, _, 0, .int a, rfl, rfl, hs, rfl, _, _, rfl, rfl, _, rfl, ifb (fun e => ?_) fun e => ?_⟩
  · refine ⟨.ref u, rfl, u, _, 0, .int a, rfl, rfl, hs, rfl, .inl ⟨a, rfl, .int low, rfl, _, _, rfl, rfl, l0, ?_⟩⟩
    refine ⟨.ref u, rfl, u, _, 0, .int a, rfl, rfl, hs, rfl, .int low, rfl, _, _, rfl, rfl, ⟨l0, by omega⟩, .ref u, rfl, u, _, 0, 0, rfl, rfl, eu, rfl, ?_⟩
    exact ⟨.int (a % low), rfl, q _ _ (Int.emod_nonneg a (by omega)) (Int.emod_lt_of_pos a l0) stp_upd ⟨_, _, _, upd_same, c0, by omega⟩⟩
  · have eu1 : (upd H u (.lst [.int a, .int b, .int (c + 1)])) u = some (.lst [.int a, .int b, .int (c + 1)]) := upd_same
    refine ⟨.ref u, rfl, u, _, 2, .int c, rfl, rfl, hs, rfl, _, _, rfl, rfl, .ref u, rfl, u, _, 2, 2, rfl, rfl, eu, rfl, ?_⟩
    show tSeq _ _ _ _ (upd H u (.lst [.int a, .int b, .int (c + 1)]))
    have st : Stp u H (upd H u (.lst [.int a, .int b, .int (c + 1)])) := stp_upd
    have un : Urn u (k + 1) (upd H u (.lst [.int a, .int b, .int (c + 1)])) := ⟨_, _, _, eu1, by omega, by omega⟩
    have hs1 : SqL K (upd H u (.lst [.int a, .int b, .int (c + 1)])) u [.int a, .int b, .int (c + 1)] := sql_of eu1
    generalize upd H u (.lst [.int a, .int b, .int (c + 1)]) = H1 at *
    refine ⟨.ref u, rfl, u, _, 1, .int b, rfl, rfl, hs1, rfl, .ref u, rfl, u, _, 2, .int (c + 1), rfl, rfl, hs1, rfl, _, _, rfl, rfl, .inl ⟨by decide, by decide⟩, _, _, rfl, rfl, .ref u, rfl, u, _, 2, .int (c + 1), rfl, rfl, hs1, rfl, _, _, rfl, rfl, _, _, rfl, rfl, .inr ⟨by omega, by omega⟩, .inl ⟨_, rfl, _, _, rfl, rfl, (show (0 : Int) < 2147483647 by decide), ?_⟩⟩
    show tSeq _ _ _ [some (.ref u), some (.int low), none, some (.int ((b + 48271 * (c + 1)) * (39373 + (c + 1)) % 2147483647)), none, none] H1
    generalize (b + 48271 * (c + 1)) * (39373 + (c + 1)) % 2147483647 = once
    refine ⟨.int once, rfl, .inl ⟨_, rfl, _, _, rfl, rfl, (show (0 : Int) < 40009 by decide), _, _, rfl, rfl, ?_⟩⟩
    show tSeq _ _ _ [some (.ref u), some (.int low), none, some (.int once), some (.int (once % 40009 + 7)), none] H1
    have b1 := Int.emod_nonneg once (show (40009 : Int) ≠ 0 by decide)
    have b2 := Int.emod_lt_of_pos once (show (0 : Int) < 40009 by decide)
    generalize once % 40009 = far at *
    refine ⟨.int once, rfl, .ref u, rfl, u, _, 2, .int (c + 1), rfl, rfl, hs1, rfl, _, _, rfl, rfl, .ref u, rfl, u, _, 1, .int b, rfl, rfl, hs1, rfl, _, _, rfl, rfl, ⟨by decide, by decide⟩, _, _, rfl, rfl, .int (far + 7), rfl, _, _, rfl, rfl, .inr ⟨by omega, by omega⟩, .inl ⟨_, rfl, _, _, rfl, rfl, (show (0 : Int) < 2147483629 by decide), ?_⟩⟩
    refine ⟨_, rfl, _, _, rfl, rfl, .inr ⟨by decide, by decide⟩, .int once, rfl, _, _, rfl, rfl, .inl ⟨_, rfl, _, _, rfl, rfl, (show (0 : Int) < 2147483587 by decide), _, _, rfl, rfl, ⟨by decide, by decide⟩, .inl ⟨_, rfl, .int low, rfl, _, _, rfl, rfl, l0, ?_⟩⟩⟩
    exact q _ _ (Int.emod_nonneg _ (by omega)) (Int.emod_lt_of_pos _ l0) st un
end
end K8
/-! The law's own rest is the program's, where all that is held is at least 0. -/
namespace K8
open PySem
theorem getD_set {l : List Int} {i j : Nat} {x : Int} (h : i < l.length) : (l.set i x).getD j 0 = if j = i then x else l.getD j 0 := by
  rw [List.getD_eq_getElem?_getD, List.getElem?_set, List.getD_eq_getElem?_getD]
  by_cases e : j = i
  · subst e
    rw [if_pos rfl, if_pos rfl, if_pos h]
    rfl
  · rw [if_neg e, if_neg (fun z => e z.symm)]
theorem ext_getD {l m : List Int} (e : l.length = m.length) (h : ∀ j, j < l.length → l.getD j 0 = m.getD j 0) : l = m := by
  refine List.ext_getElem e fun j h1 h2 => ?_
  have q := h j h1
  rw [List.getD_eq_getElem?_getD, List.getD_eq_getElem?_getD, List.getElem?_eq_getElem h1, List.getElem?_eq_getElem h2] at q
  exact q
theorem getD_mapR {n j : Nat} (f : Nat → Int) (h : j < n) : ((List.range n).map f).getD j 0 = f j := by
  rw [List.getD_eq_getElem?_getD, List.getElem?_map, List.getElem?_range h]
  rfl
/-! ### the stroke -/
def carryM (f tk : List Int) : Nat → List Int
  | 0 => f
  | i + 1 => (carryM f tk i).set (i + 1) ((carryM f tk i).getD (i + 1) 0 + tk.getD i 0)
theorem carryM_len (f tk : List Int) : ∀ i, (carryM f tk i).length = f.length
  | 0 => rfl
  | i + 1 => by
    show ((carryM f tk i).set _ _).length = _
    rw [List.length_set, carryM_len f tk i]
theorem carryM_at (f tk : List Int) : ∀ i j, i < f.length → (carryM f tk i).getD j 0 = f.getD j 0 + (if 0 < j ∧ j ≤ i then tk.getD (j - 1) 0 else 0)
  | 0, j, h => by
    rw [if_neg (by omega)]
    show f.getD j 0 = _
    omega
  | i + 1, j, h => by
    show ((carryM f tk i).set (i + 1) _).getD j 0 = _
    rw [getD_set (by rw [carryM_len]; exact h)]
    by_cases e : j = i + 1
    · subst e
      rw [if_pos rfl, carryM_at f tk i (i + 1) (by omega), if_neg (by omega), if_pos (by omega), Nat.add_sub_cancel]
      omega
    · rw [if_neg e, carryM_at f tk i j (by omega)]
      by_cases c : 0 < j ∧ j ≤ i
      · rw [if_pos c, if_pos (by omega)]
      · rw [if_neg c, if_neg (by omega)]
theorem strokeM_at (f br : List Int) : ∀ i j, i ≤ f.length → j < f.length → (strokeM f br i).getD j 0 = f.getD j 0 - (if j < i then br.getD j 0 else 0) + (if 0 < j ∧ j ≤ i then br.getD (j - 1) 0 else 0)
  | 0, j, h, hj => by
    rw [if_neg (by omega), if_neg (by omega)]
    show f.getD j 0 = _
    omega
  | i + 1, j, h, hj => by
    have ih := fun j hj => strokeM_at f br i j (by omega) hj
    have ls : (strokeM f br i).length = f.length := strokeM_len f br i
    show (strokeStep (strokeM f br i) i (br.getD i 0)).getD j 0 = _
    generalize strokeM f br i = g at *
    unfold strokeStep
    by_cases c : i + 1 < g.length
    · rw [if_pos c, getD_set (by rw [List.length_set]; exact c)]
      by_cases e : j = i + 1
      · subst e
        rw [if_pos rfl, getD_set (by omega), if_neg (by omega), ih _ hj, Nat.add_sub_cancel]
        repeat' split
        all_goals omega
      · rw [if_neg e, getD_set (by omega)]
        by_cases e2 : j = i
        · subst e2
          rw [if_pos rfl, ih _ hj]
          repeat' split
          all_goals omega
        · rw [if_neg e2, ih _ hj]
          repeat' split
          all_goals omega
    · rw [if_neg c, getD_set (by omega)]
      by_cases e2 : j = i
      · subst e2
        rw [if_pos rfl, ih _ hj]
        repeat' split
        all_goals omega
      · rw [if_neg e2, ih _ hj]
        repeat' split
        all_goals omega
def leftM (held br : List Int) (n : Nat) : List Int := (List.range n).map fun k => held.getD k 0 - br.getD k 0
theorem carry_stroke {held br : List Int} {n : Nat} (h1 : held.length = n) (h2 : 1 ≤ n) : carryM (leftM held br n) br (n - 1) = strokeM held br n := by
  have ll : (leftM held br n).length = n := by simp [leftM]
  refine ext_getD (by rw [carryM_len, strokeM_len, ll, h1]) fun j hj => ?_
  rw [carryM_len, ll] at hj
  rw [carryM_at _ _ _ _ (by omega), strokeM_at _ _ _ _ (by omega) (by omega), if_pos hj]
  unfold leftM
  rw [getD_mapR _ hj]
  by_cases d : 0 < j
  · rw [if_pos (by omega), if_pos (by omega)]
  · rw [if_neg (by omega), if_neg (by omega)]
/-! ### what is held is at least 0 -/
def WOK (ws : List Well) : Prop := ∀ w ∈ ws, 0 ≤ w.room ∧ 0 ≤ w.spr ∧ 0 ≤ w.mea
def LkOK (n : Nat) : Leak → Prop
  | none => True
  | some (k, m, _) => 0 ≤ k ∧ k < n ∧ 0 ≤ m
def NN (l : List Int) : Prop := ∀ j, 0 ≤ l.getD j 0
theorem wok_at {ws : List Well} (h : WOK ws) (k : Nat) : 0 ≤ (ws.getD k default).room ∧ 0 ≤ (ws.getD k default).spr ∧ 0 ≤ (ws.getD k default).mea := by
  rw [List.getD_eq_getElem?_getD]
  cases e : ws[k]? with
  | none => exact ⟨Int.le_refl 0, Int.le_refl 0, Int.le_refl 0⟩
  | some w => exact h w (List.mem_of_getElem? e)
theorem mx0 (x : Int) : 0 ≤ mx 0 x := by
  unfold mx
  split <;> omega
theorem mx_le {x y : Int} (h0 : 0 ≤ y) (h : x ≤ y) : mx 0 x ≤ y := by
  unfold mx
  split <;> omega
theorem mx_id {x : Int} (h : 0 ≤ x) : mx 0 x = x := by
  unfold mx
  split <;> omega
theorem getD_rep (n j : Nat) : (List.replicate n (0 : Int)).getD j 0 = 0 := by
  rw [List.getD_eq_getElem?_getD, List.getElem?_replicate]
  split <;> rfl
theorem lksM_nn {n : Nat} {lk : Leak} {r : Int} (h : LkOK n lk) : NN (lksM n lk r) := fun j => by
  unfold lksM
  cases lk with
  | none =>
    show 0 ≤ (List.replicate n (0 : Int)).getD j 0
    rw [getD_rep]
    exact Int.le_refl 0
  | some l =>
    obtain ⟨k, m, t⟩ := l
    obtain ⟨h0, h1, h2⟩ := h
    show 0 ≤ (if t ≤ r then (List.replicate n (0 : Int)).set k.toNat m else List.replicate n 0).getD j 0
    by_cases c : t ≤ r
    · rw [if_pos c, getD_set (by rw [List.length_replicate]; omega), getD_rep]
      split
      · exact h2
      · exact Int.le_refl 0
    · rw [if_neg c, getD_rep]
      exact Int.le_refl 0
theorem brf_le {ws : List Well} {held lks : List Int} {up : Int} {k : Nat} (hw : WOK ws) (hh : NN held) (hl : NN lks) : 0 ≤ brf ws held lks up k ∧ brf ws held lks up k ≤ held.getD k 0 := by
  have q := hh k
  have l := hl k
  have m := (wok_at hw k).2.2
  refine ⟨mx0 _, mx_le q ?_⟩
  by_cases c : (ws.getD k default).rod = up
  · rw [if_pos c]
    unfold mn
    split <;> omega
  · rw [if_neg c]
    omega
theorem nn_set {l : List Int} {i : Nat} {x : Int} (h : NN l) (hx : 0 ≤ x) : NN (l.set i x) := fun j => by
  by_cases c : i < l.length
  · rw [getD_set c]
    split
    · exact hx
    · exact h j
  · rw [List.set_eq_of_length_le (by omega)]
    exact h j
theorem spillStep_nn {ws : List Well} {f : List Int} {k : Nat} (hw : WOK ws) (h : NN f) : NN (spillStep ws f k) := by
  unfold spillStep
  have r := (wok_at hw k).1
  have q := h k
  have z : 0 ≤ f.getD k 0 - mx 0 (f.getD k 0 - (ws.getD k default).room) := by
    unfold mx
    split <;> omega
  have y := mx0 (f.getD k 0 - (ws.getD k default).room)
  have s := nn_set (i := k) h z
  refine nn_set s ?_
  have := s (k - 1)
  omega
theorem spillM_nn {ws : List Well} {f : List Int} (hw : WOK ws) (h : NN f) : ∀ i, NN (spillM ws f i)
  | 0 => h
  | i + 1 => spillStep_nn hw (spillM_nn hw h i)
theorem out_getD {l : List Int} {j : Nat} (h : l.length ≤ j) : l.getD j 0 = 0 := by
  rw [List.getD_eq_getElem?_getD, List.getElem?_eq_none h]
  rfl
theorem springM_nn {ws : List Well} {f : List Int} (hw : WOK ws) (h : NN f) : NN (springM ws f) := fun j => by
  by_cases c : j < ws.length
  · unfold springM
    rw [getD_mapR _ c]
    have := h j
    have := (wok_at hw j).2.1
    omega
  · rw [out_getD (by rw [springM_len]; omega)]
    exact Int.le_refl 0
theorem brM_at {ws : List Well} {held lks : List Int} {up : Int} {k : Nat} (h : k < ws.length) : (brM ws held lks up).getD k 0 = brf ws held lks up k := getD_mapR _ h
theorem strokeM_nn {ws : List Well} {held lks : List Int} {up : Int} (hw : WOK ws) (hh : NN held) (hl : NN lks) (e : held.length = ws.length) : NN (strokeM held (brM ws held lks up) ws.length) := fun j => by
  by_cases c : j < ws.length
  · rw [strokeM_at _ _ _ _ (by omega) (by omega), if_pos c, brM_at c]
    have b := brf_le (up := up) (k := j) hw hh hl
    by_cases d : 0 < j ∧ j ≤ ws.length
    · rw [if_pos d, brM_at (by omega)]
      have b2 := brf_le (up := up) (k := j - 1) hw hh hl
      omega
    · rw [if_neg d]
      omega
  · rw [out_getD (by rw [strokeM_len]; omega)]
    exact Int.le_refl 0
theorem restM_nn {ws : List Well} {held lks : List Int} {r : Int} (hw : WOK ws) (hh : NN held) (hl : NN lks) (e : held.length = ws.length) : NN (restM ws held lks r).1 := by
  have s := strokeM_nn (up := upM r) hw hh hl e
  show NN (spillM ws (if r % 2 = 1 then springM ws (strokeM held (brM ws held lks (upM r)) ws.length) else strokeM held (brM ws held lks (upM r)) ws.length) _)
  refine spillM_nn hw ?_ _
  split
  · exact springM_nn hw s
  · exact s
theorem heldM_nn {ws : List Well} {lk : Leak} (hw : WOK ws) (hl : LkOK ws.length lk) : ∀ r, NN (heldM ws lk r)
  | 0 => fun j => by
    show 0 ≤ (List.replicate ws.length (0 : Int)).getD j 0
    rw [getD_rep]
    exact Int.le_refl 0
  | r + 1 => restM_nn hw (heldM_nn hw hl r) (lksM_nn hl) (heldM_len ws lk r)
/-! ### what the law takes at one CISTERN -/
def lawTk (ws : List Well) (held : List Int) (lk : Leak) (r : Int) (k : Nat) : Int :=
  match lk with
  | none => if (ws.getD k default).rod = 1 - r % 2 then mn (ws.getD k default).mea (held.getD k 0) else 0
  | some (k0, m, t) => if k0 = k ∧ t ≤ r then mx 0 ((if (ws.getD k default).rod = 1 - r % 2 then mn (ws.getD k default).mea (held.getD k 0) else 0) - m) else if (ws.getD k default).rod = 1 - r % 2 then mn (ws.getD k default).mea (held.getD k 0) else 0
theorem lawTk_is {ws : List Well} {held : List Int} {lk : Leak} {r : Int} {k : Nat} (hw : WOK ws) (hh : NN held) (hl : LkOK ws.length lk) (hk : k < ws.length) : lawTk ws held lk r k = brf ws held (lksM ws.length lk r) (upM r) k := by
  have eu : upM r = 1 - r % 2 := by
    unfold upM
    split <;> omega
  have q := hh k
  have m0 := (wok_at hw k).2.2
  unfold brf
  rw [eu]
  have t0 : 0 ≤ (if (ws.getD k default).rod = 1 - r % 2 then mn (ws.getD k default).mea (held.getD k 0) else 0) := by
    split
    · unfold mn
      split <;> omega
    · exact Int.le_refl 0
  cases lk with
  | none =>
    show (if (ws.getD k default).rod = 1 - r % 2 then mn (ws.getD k default).mea (held.getD k 0) else 0) = mx 0 (_ - (List.replicate ws.length (0 : Int)).getD k 0)
    rw [getD_rep, Int.sub_zero, mx_id t0]
  | some l =>
    obtain ⟨k0, m, t⟩ := l
    obtain ⟨h0, h1, h2⟩ := hl
    show (if k0 = k ∧ t ≤ r then mx 0 ((if (ws.getD k default).rod = 1 - r % 2 then mn (ws.getD k default).mea (held.getD k 0) else 0) - m) else if (ws.getD k default).rod = 1 - r % 2 then mn (ws.getD k default).mea (held.getD k 0) else 0) = mx 0 (_ - (if t ≤ r then (List.replicate ws.length (0 : Int)).set k0.toNat m else List.replicate ws.length 0).getD k 0)
    by_cases c : t ≤ r
    · rw [if_pos c, getD_set (by rw [List.length_replicate]; omega), getD_rep]
      by_cases d : k0 = k
      · rw [if_pos ⟨d, c⟩, if_pos (show k = k0.toNat by omega)]
      · rw [if_neg (fun z => d z.1), if_neg (show ¬ k = k0.toNat by omega), Int.sub_zero, mx_id t0]
    · rw [if_neg (fun z => c z.2), if_neg c, getD_rep, Int.sub_zero, mx_id t0]
end K8
/-! The law's own cells, box, wells, leaks. -/
namespace K8
open PySem PySem.Spec PyProof.Rows L2

section
variable {P : Program} {w : World} {K : PySem.W.Frag} {mg : Str → Option Value} {base : Heap}
/-! ### _law_box, _law_cells -/
abbrev s__law_box : Stmt := topS 23
abbrev N__law_box : List Str := ["_law_script", "_law_k", "_law_cell"]
theorem sc__law_box : FnScope N__law_box ["_law_script", "_law_k"] (defScope s__law_box) := ⟨rfl, rfl, rfl, by decide +kernel, rfl, by decide +kernel, by decide +kernel⟩
abbrev s__law_cells : Stmt := topS 25
abbrev N__law_cells : List Str := ["_law_script", "_law_top", "_law_cells_here", "_law_k", "_law_cell", "_law_at_so"]
theorem sc__law_cells : FnScope N__law_cells ["_law_script", "_law_top"] (defScope s__law_cells) := ⟨rfl, rfl, rfl, by decide +kernel, rfl, by decide +kernel, by decide +kernel⟩
theorem cmul01 {i : Int} (c : Bool) : CMul i (if c = true then 1 else 0) := by
  cases c <;> exact .inr ⟨by decide, by decide⟩
def spBox (K : PySem.W.Frag) : Sp := fun vs H Q _ => ∃ (a : Addr) (x : Int), vs = [.ref a, .int 0] ∧ H a = some (.lst [.int x]) ∧ ∀ H' u, Same H H' → Urn u 0 H' → Q (.ref u) H'
theorem ok__law_box (T : Tf mg) (D : Df K mg "_law_box" s__law_box ["_law_script", "_law_k"]) : Pr P w K mg base CX0 1 "_law_box" ["_law_script", "_law_k"] (spBox K) := by
  refine D.pr fun f fd F _ _ _ => F.ok sc__law_box (fun vs H Q E h => by obtain ⟨_, _, rfl, _⟩ := h; rfl) fun cdv A outer s H vs Q E hr h => ?_
  obtain ⟨a, x, rfl, ea, q⟩ := h
  refine ⟨_, (pss_cons (ps_set (i := 2) sc__law_box.nd rfl (.inl rfl) (pe_ifExp (pt_cmpR op_lt (pv 1) (pe_callB call_len_seq (by rfl) T.len PySem.boot_len (pa_cons (pv 0) pa_nil)) (nomark _)) (pe_ix ix_list (pv 0) (pv 1) (fun _ _ => rfl)) pe_int))
    (pss_one (ps_ret (pe_lst (pa_cons (pe_op op_mul (pe_callB call_abs (by rfl) T.abs (by decide +kernel) (pa_cons (pv 2) pa_nil)) (pe_callTy call_int1 (by rfl) T.int (by decide +kernel) (pa_cons (pe_cmpR op_ge (pe_callB call_abs (by rfl) T.abs (by decide +kernel) (pa_cons (pv 2) pa_nil)) (pe_op op_pow pe_int pe_int) (nomark _)) pa_nil))) (pa_cons (pe_op op_add (pe_op op_add (pe_op op_mod (pe_callTy call_int1 (by rfl) T.int (by decide +kernel) (pa_cons (pv 2) pa_nil)) pe_int) (pe_op op_mul pe_int (pv 1))) pe_int) (pa_cons pe_int pa_nil))))))), ?_⟩
  have hs : SqL K H a [.int x] := sql_of ea
  refine ⟨.int 0, rfl, .ref a, rfl, a, _, rfl, .inl hs, _, _, rfl, rfl, _, rfl, ift rfl ?_⟩
  refine ⟨.ref a, rfl, .int 0, rfl, a, _, 0, .int x, rfl, rfl, hs, rfl, ?_⟩
  refine ⟨.int x, rfl, x, rfl, .int x, rfl, x, rfl, _, _, rfl, rfl, ⟨by decide, by decide, by decide⟩, _, _, rfl, rfl, .inr ⟨_, rfl, _, _, rfl, rfl, cmul01 _, .int x, rfl, .inl ⟨x, rfl, _, _, rfl, rfl, (show (0 : Int) < 2305843009213693951 by decide), .int 0, rfl, _, _, rfl, rfl, .inl ⟨by decide, by decide⟩, _, _, rfl, rfl, _, _, rfl, rfl, by show 3 ≤ sizeLine; decide, fun u nu => q _ _ (same_new (Same.refl _) nu) ⟨_, _, _, upd_same, by decide, by decide⟩⟩⟩⟩
def spCells (K : PySem.W.Frag) : Sp := fun vs H Q _ => ∃ (a : Addr) (ns : List Int), vs = [.ref a, .int 1] ∧ SqL K H a (ns.map V.int) ∧ ns.length ≤ 63 ∧ ∀ H' p (x : Int), Same H H' → H' p = some (.lst [.int x]) → Q (.ref p) H'
theorem ok__law_cells (T : Tf mg) (D : Df K mg "_law_cells" s__law_cells ["_law_script", "_law_top"]) : Pr P w K mg base CX0 1 "_law_cells" ["_law_script", "_law_top"] (spCells K) := by
  refine D.pr fun f fd F _ _ _ => F.ok sc__law_cells (fun vs H Q E h => by obtain ⟨_, _, rfl, _⟩ := h; rfl) fun cdv A outer s H vs Q E hr h => ?_
  obtain ⟨a, ns, rfl, hs, hz, q⟩ := h
  refine ⟨_, (C8.pss_cut (ps_set (i := 2) sc__law_cells.nd rfl (.inl rfl) (pe_orT (pe_callTy call_list_of (by rfl) T.list (by decide +kernel) (pa_cons (pe_slice sl_list (pv 0) po_none (po_some (pv 1))) pa_nil)) (pe_one (pe_lst (pa_cons pe_int pa_nil)))))
    (pss_cons (ps_for PassesOwn.never rfl (pi_enum (by rfl) T.enumerate (pa_cons (pe_slice sl_list (pv 0) (po_some (pv 1)) (po_some pe_int)) pa_nil)) (pg_tup rfl (pgs_cons (pg_name (i := 3) sc__law_cells.nd rfl (.inl rfl)) (pgs_cons (pg_name (i := 4) sc__law_cells.nd rfl (.inl rfl)) pgs_nil)))
      (pss_cons (ps_set (i := 5) sc__law_cells.nd rfl (.inl rfl) (pe_op op_mod (pe_callTy call_int1 (by rfl) T.int (by decide +kernel) (pa_cons (pv 3) pa_nil)) (pv 1)))
    (pss_one (ps_asg (pe_op op_add (pe_ix ix_list (pv 2) (pv 5) (fun _ _ => rfl)) (pe_op op_mul (pv 4) (pe_op op_add (pv 3) pe_int))) (pg_sub (pv 2) (pv 5) set_list)))))
    (pss_one (ps_ret (pv 2))))), ?_⟩
  -- the cells at first: one
  refine ⟨fun σ Hc => ∃ p x, σ = [some (.ref a), some (.int 1), some (.ref p), none, none, none] ∧ Same H Hc ∧ H p = none ∧ Hc p = some (.lst [.int x]), ?_, fun σ Hc pp => ?_⟩
  · refine ⟨.ref a, rfl, .int 1, rfl, 1, rfl, a, _, rfl, hs, fun p1 n1 => ⟨p1, _, rfl, .inl (sql_of upd_same), fun l nl => ?_⟩⟩
    have s1 : Same H (upd H p1 (.lst (cutV (ns.map V.int) none (some 1)))) := same_new (Same.refl _) n1
    have s2 := same_new (o := .lst (cutV (ns.map V.int) none (some 1))) s1 nl
    cases ns with
    | nil =>
      refine ⟨false, .inl ⟨_, sql_of upd_same, rfl⟩, iff' rfl ⟨by show 1 ≤ sizeLine; decide, fun z nz => ⟨z, 0, rfl, same_new s2 nz, s2.free nz, upd_same⟩⟩⟩
    | cons x r =>
      have e : cutV ((x :: r).map V.int) none (some 1) = [.int x] := by
        unfold cutV
        show List.take (min 1 ((x :: r).map V.int).length - 0) ((x :: r).map V.int) = _
        rw [show min 1 ((x :: r).map V.int).length - 0 = 1 by simp]
        rfl
      rw [e]
      rw [e] at s2
      exact ⟨true, .inl ⟨_, sql_of upd_same, rfl⟩, ift rfl ⟨l, x, rfl, s2, s1.free nl, upd_same⟩⟩
  · obtain ⟨p, x, rfl, sc, np, ep⟩ := pp
    refine ⟨.ref a, rfl, .int 1, rfl, 1, rfl, 63, rfl, a, _, rfl, sc.seq hs, fun c nc => ?_⟩
    obtain ⟨ms, hms, lms⟩ : ∃ ms : List Int, cutV (ns.map V.int) (some 1) (some 63) = ms.map V.int ∧ ms.length ≤ 63 := by
      refine ⟨(ns.drop (HT.sIx (ns.map V.int).length 0 (some 1))).take (HT.sIx (ns.map V.int).length (ns.map V.int).length (some 63) - HT.sIx (ns.map V.int).length 0 (some 1)), ?_, ?_⟩
      · unfold cutV
        rw [List.map_take, List.map_drop]
      · rw [List.length_take, List.length_drop]
        omega
    rw [hms]
    have s3 : Same Hc (upd Hc c (.lst (ms.map V.int))) := same_new (Same.refl _) nc
    have ec : (upd Hc c (.lst (ms.map V.int))) c = some (.lst (ms.map V.int)) := upd_same
    have ncp : c ≠ p := (ne_of_none ep nc).symm
    replace ep := s3 _ _ ep
    replace sc := sc.trans s3
    generalize upd Hc c (.lst (ms.map V.int)) = H3 at *
    refine ⟨c, _, rfl, sql_of ec, for_it (walk_enum (xs := ms.map V.int)) (Pv := fun i σ Hd => ∃ y3 y4 y5 x, σ = [some (.ref a), some (.int 1), some (.ref p), y3, y4, y5] ∧ Same H Hd ∧ Hd p = some (.lst [.int x]) ∧ Hd c = some (.lst (ms.map V.int)))
      ⟨none, none, none, x, rfl, sc, ep, ec⟩ (fun i σ Hd _ pp => ?_) (fun i y σ Hd H' hi pp yy => ?_) fun σ Hd pp => ?_⟩
    · obtain ⟨_, _, _, _, _, _, _, e⟩ := pp
      exact sql_of e
    · obtain ⟨y3, y4, y5, x, rfl, sd, ep, ec⟩ := pp
      obtain ⟨T0, x0, x1, rfl, nT, rfl, g0, g1⟩ := yy
      cases g0
      rw [List.length_map] at hi
      have ex : x1 = .int (ms.getD i 0) := Option.some.inj (g1.symm.trans (int_at hi))
      subst ex
      have sT : Same Hd (upd Hd T0 (.tup [.int (i : Nat), .int (ms.getD i 0)])) := same_new (Same.refl _) nT
      have eT : (upd Hd T0 (.tup [.int (i : Nat), .int (ms.getD i 0)])) T0 = some (.tup [.int (i : Nat), .int (ms.getD i 0)]) := upd_same
      replace sd := sd.trans sT
      replace ep := sT _ _ ep
      replace ec := sT _ _ ec
      generalize upd Hd T0 (.tup [.int (i : Nat), .int (ms.getD i 0)]) = H4 at *
      refine ⟨T0, _, rfl, sqt_of eT, rfl, _, _, rfl, _, _, rfl, rfl, ?_⟩
      refine ⟨.int (i : Nat), rfl, .inl ⟨_, rfl, .int 1, rfl, _, _, rfl, rfl, (show (0 : Int) < 1 by decide), ?_⟩⟩
      have e0 : (i : Int) % 1 = 0 := Int.emod_one _
      refine ⟨.ref p, rfl, .int ((i : Int) % 1), rfl, p, _, (i : Int) % 1, .int x, rfl, rfl, sql_of ep, (by rw [e0]; rfl), .int (ms.getD i 0), rfl, .int (i : Nat), rfl, _, _, rfl, rfl, _, _, rfl, rfl, .inr ⟨by omega, by omega⟩, _, _, rfl, rfl, ?_⟩
      refine ⟨.ref p, rfl, .int ((i : Int) % 1), rfl, p, _, (i : Int) % 1, 0, rfl, rfl, ep, (by rw [e0]; rfl), ?_⟩
      exact ⟨_, _, _, _, rfl, same_put sd np, upd_same, by rw [upd_ne ncp]; exact ec⟩
    · obtain ⟨y3, y4, y5, x, rfl, sd, ep, ec⟩ := pp
      exact ⟨.ref p, rfl, q _ _ _ sd ep⟩
/-! ### _law_wells -/
abbrev s__law_wells : Stmt := topS 32
abbrev N__law_wells : List Str := ["_law_urn", "_law_many", "_law_found", "_law_k", "_law_room", "_law_spring"]
theorem sc__law_wells : FnScope N__law_wells ["_law_urn", "_law_many"] (defScope s__law_wells) := ⟨rfl, rfl, rfl, by decide +kernel, rfl, by decide +kernel, by decide +kernel⟩
abbrev s__law_leak : Stmt := topS 33
abbrev N__law_leak : List Str := ["_law_urn", "_law_many", "_law_late"]
theorem sc__law_leak : FnScope N__law_leak ["_law_urn", "_law_many", "_law_late"] (defScope s__law_leak) := ⟨rfl, rfl, rfl, by decide +kernel, rfl, by decide +kernel, by decide +kernel⟩
def spWells (K : PySem.W.Frag) : Sp := fun vs H Q _ => ∃ (u : Addr) (n k : Nat), vs = [.ref u, .int (n : Nat)] ∧ 1 ≤ n ∧ n ≤ 4 ∧ k ≤ 100 ∧ Urn u k H ∧ ∀ H' p ws, Stp u H H' → Urn u (k + 16) H' → Dp K (New H H') p (wsd ws) → ws.length = n → WOK ws → Q p H'
theorem ok__law_wells (T : Tf mg) (D : Df K mg "_law_wells" s__law_wells ["_law_urn", "_law_many"]) (O__law_take : Pr P w K mg base CX0 1 "_law_take" ["_law_urn", "_law_low_so"] (spTake K)) : Pr P w K mg base CX0 2 "_law_wells" ["_law_urn", "_law_many"] (spWells K) := by
  refine D.pr fun f fd F _ _ _ => F.ok sc__law_wells (fun vs H Q E h => by obtain ⟨_, _, _, rfl, _⟩ := h; rfl) fun cdv A outer s H vs Q E hr h => ?_
  obtain ⟨u, n, k, rfl, n1, n4, hk, un, q⟩ := h
  refine ⟨_, (pss_cons (ps_set (i := 2) sc__law_wells.nd rfl (.inl rfl) (pe_lst pa_nil))
    (pss_cons (ps_for PassesOwn.never rfl (pi_range1 (by rfl) T.range (pa_cons (pv 1) pa_nil)) (pg_name (i := 3) sc__law_wells.nd rfl (.inl rfl))
      (pss_cons (ps_par (i := 4) (j := 5) (by rfl) sc__law_wells.nd rfl rfl (by decide) rfl rfl (pa_cons (O__law_take.use hr (by rfl) pass0 (pa_cons (pv 0) (pa_cons pe_int pa_nil))) (pa_cons (O__law_take.use hr (by rfl) pass0 (pa_cons (pv 0) (pa_cons pe_int pa_nil))) pa_nil)) (by rfl))
    (pss_one (ps_expr (pe_bm PySem.F.plainAttrs_list PySem.F.slot_list_append PySem.F.type_list_append mt_append (pv 2) (pa_cons (pe_tup (pa_cons (pe_op op_sub (pe_op op_add (pv 1) pe_int) (pv 3)) (pa_cons (pv 4) (pa_cons (pv 5) (pa_cons (pe_op op_add pe_int (O__law_take.use hr (by rfl) pass0 (pa_cons (pv 0) (pa_cons pe_int pa_nil)))) (pa_cons (O__law_take.use hr (by rfl) pass0 (pa_cons (pv 0) (pa_cons pe_int pa_nil))) pa_nil)))))) pa_nil))))))
    (pss_one (ps_ret (pe_callTy call_tuple_of (by rfl) T.tuple (by decide +kernel) (pa_cons (pv 2) pa_nil)))))), ?_⟩
  obtain ⟨ou, hou⟩ := urn_some un
  refine ⟨Nat.zero_le _, fun fo nf => ?_⟩
  have neu : fo ≠ u := (ne_of_none hou nf).symm
  have s0 : Same H (upd H fo (.lst [])) := same_new (Same.refl H) nf
  have ef : (upd H fo (.lst [])) fo = some (.lst []) := upd_same
  have e1f := ef
  replace un := urn_same un s0
  obtain ⟨ou1, hou1⟩ : ∃ o, (upd H fo (.lst [])) u = some o := ⟨ou, s0 _ _ hou⟩
  have l01 := dom_of s0
  generalize upd H fo (.lst []) = H1 at *
  refine ⟨.int (n : Nat), rfl, (n : Nat), rfl, by omega, by omega, for_range (Pv := fun i σ Hc => ∃ y3 y4 y5 ws refs, σ = [some (.ref u), some (.int (n : Nat)), some (.ref fo), y3, y4, y5] ∧ Stp u H Hc ∧ Urn u (k + 4 * i) Hc ∧ Hc fo = some (.lst refs) ∧ DpAll K (New H1 Hc) refs (ws.map wd) ∧ Dom H1 Hc ∧ ws.length = i ∧ WOK ws)
    ⟨none, none, none, [], [], rfl, stp_same s0, un, ef, .nil, dom_refl _, rfl, fun w h => by cases h⟩ (fun i σ Hc hi pp => ?_) fun σ Hc pp => ?_⟩
  · obtain ⟨y3, y4, y5, ws, refs, rfl, st, un, ef, hx, dm, lw, wok⟩ := pp
    rw [Int.toNat_natCast] at hi
    refine ⟨.ref u, rfl, u, 10, k + 4 * i, rfl, by decide, by decide, by omega, un, fun r0 H2 r00 r01 st1 un1 => ?_⟩
    refine ⟨.ref u, rfl, u, 5, k + 4 * i + 1, rfl, by decide, by decide, by omega, un1, fun r1 H3 r10 r11 st2 un2 => ⟨_, _, rfl, ?_⟩⟩
    have ef2 := st2.kp _ _ neu (st1.kp _ _ neu ef)
    refine ⟨.ref fo, rfl, .inl ⟨rfl, _, sql_of ef2⟩, .int (n : Nat), rfl, _, _, rfl, rfl, .int (0 + (i : Nat)), rfl, _, _, rfl, rfl, .int r0, rfl, .int r1, rfl, ?_⟩
    refine ⟨.ref u, rfl, u, 9, k + 4 * i + 2, rfl, by decide, by decide, by omega, un2, fun r2 H4 r20 r21 st3 un3 => ⟨_, _, rfl, rfl, ?_⟩⟩
    refine ⟨.ref u, rfl, u, 2, k + 4 * i + 3, rfl, by decide, by decide, by omega, un3, fun r3 H5 r30 r31 st4 un4 => ⟨by show 5 ≤ sizeLine; decide, fun t nt => ?_⟩⟩
    have st' := ((st1.trans st2).trans st3).trans st4
    have ef5 := st4.kp _ _ neu (st3.kp _ _ neu ef2)
    have sT : Same H5 (upd H5 t (.tup [.int ((n : Nat) + 1 - (0 + (i : Nat))), .int r0, .int r1, .int (1 + r2), .int r3])) := same_new (Same.refl _) nt
    have eT : (upd H5 t (.tup [.int ((n : Nat) + 1 - (0 + (i : Nat))), .int r0, .int r1, .int (1 + r2), .int r3])) t = some (.tup [.int ((n : Nat) + 1 - (0 + (i : Nat))), .int r0, .int r1, .int (1 + r2), .int r3]) := upd_same
    have nt0 : H1 t = none := dm t (st'.dm t nt)
    have ef6 := sT _ _ ef5
    have un6 := urn_same un4 sT
    have st6 := (st.trans st').trans (stp_same sT)
    have dm6 := dom_trans dm (st'.trans (stp_same sT)).dm
    have nw : Same (New H1 Hc) (New H1 (upd H5 t (.tup [.int ((n : Nat) + 1 - (0 + (i : Nat))), .int r0, .int r1, .int (1 + r2), .int r3]))) := (st'.trans (stp_same sT)).new hou1
    generalize upd H5 t (.tup [.int ((n : Nat) + 1 - (0 + (i : Nat))), .int r0, .int r1, .int (1 + r2), .int r3]) = H6 at *
    have lr : refs.length = i := by rw [dpAll_len hx, List.length_map, lw]
    refine ⟨fo, refs, _, rfl, rfl, ef6, by rw [lr]; exact small1000 (by omega), ?_⟩
    refine ⟨_, _, _, ws ++ [⟨(n : Nat) + 1 - (0 + (i : Nat)), r0, r1, 1 + r2, r3⟩], refs ++ [.ref t], rfl, stp_put st6 nf, urn_put (urn_mono un6 (by omega)) neu, upd_same, ?_, dom_upd dm6, by rw [List.length_append, lw]; rfl, fun w' hw' => ?_⟩
    · have np : Same (New H1 H6) (New H1 (upd H6 fo (.lst (refs ++ [.ref t])))) := new_put e1f
      rw [List.map_append]
      exact dpAll_app (dpAll_same (nw.trans np) hx) (dpAll_one (.tup (sqt_of (np _ _ (new_of nt0 eT))) (ints_dpAll [_, r0, r1, 1 + r2, r3])))
    · rcases List.mem_append.mp hw' with h | h
      · exact wok _ h
      · rw [List.mem_singleton.mp h]
        exact ⟨r00, r10, by show 0 ≤ 1 + r2; omega⟩
  · obtain ⟨y3, y4, y5, ws, refs, rfl, st, un, ef, hx, dm, lw, wok⟩ := pp
    rw [Int.toNat_natCast] at lw un
    refine ⟨.ref fo, rfl, fo, _, rfl, .inl ⟨sql_of ef, fun p np => q _ _ ws (st.trans (stp_same (same_new (Same.refl _) np))) (urn_mono (urn_same un (same_new (Same.refl _) np)) (by omega)) ?_ lw wok⟩⟩
    exact .tup (sqt_of (new_of (st.dm p np) upd_same)) (dpAll_same ((new_lay np).trans (new_less l01)) hx)
def spLeak (K : PySem.W.Frag) : Sp := fun vs H Q _ => ∃ (u : Addr) (n k : Nat), vs = [.ref u, .int (n : Nat), .int 9] ∧ 1 ≤ n ∧ n ≤ 4 ∧ k ≤ 100 ∧ Urn u k H ∧ ∀ H' p lk, Stp u H H' → Urn u (k + 4) H' → Dp K (New H H') p (lkd lk) → LkOK n lk → Q p H'
theorem ok__law_leak (T : Tf mg) (D : Df K mg "_law_leak" s__law_leak ["_law_urn", "_law_many", "_law_late"]) (O__law_take : Pr P w K mg base CX0 1 "_law_take" ["_law_urn", "_law_low_so"] (spTake K)) : Pr P w K mg base CX0 2 "_law_leak" ["_law_urn", "_law_many", "_law_late"] (spLeak K) := by
  refine D.pr fun f fd F _ _ _ => F.ok sc__law_leak (fun vs H Q E h => by obtain ⟨_, _, _, rfl, _⟩ := h; rfl) fun cdv A outer s H vs Q E hr h => ?_
  obtain ⟨u, n, k, rfl, n1, n4, hk, un, q⟩ := h
  refine ⟨_, (pss_cons (ps_if (pt_cmpR op_eq (O__law_take.use hr (by rfl) pass0 (pa_cons (pv 0) (pa_cons pe_int pa_nil))) pe_int (nomark _))
      (pss_one (ps_ret pe_non))
      pss_nil)
    (pss_one (ps_ret (pe_tup (pa_cons pe_str (pa_cons (O__law_take.use hr (by rfl) pass0 (pa_cons (pv 0) (pa_cons (pv 1) pa_nil))) (pa_cons (pe_op op_add pe_int (O__law_take.use hr (by rfl) pass0 (pa_cons (pv 0) (pa_cons pe_int pa_nil)))) (pa_cons (O__law_take.use hr (by rfl) pass0 (pa_cons (pv 0) (pa_cons (pv 2) pa_nil))) pa_nil)))))))), ?_⟩
  refine ⟨.ref u, rfl, u, 4, k, rfl, by decide, by decide, by omega, un, fun r0 H1 r00 r01 st1 un1 => ⟨rfl, _, rfl, ifb (fun e => ?_) fun e => ?_⟩⟩
  · exact q _ _ none st1 (urn_mono un1 (by omega)) .non trivial
  · refine ⟨.ref u, rfl, .int (n : Nat), rfl, u, (n : Nat), k + 1, rfl, by omega, by omega, by omega, un1, fun r1 H2 r10 r11 st2 un2 => ?_⟩
    refine ⟨.ref u, rfl, u, 4, k + 2, rfl, by decide, by decide, by omega, un2, fun r2 H3 r20 r21 st3 un3 => ⟨_, _, rfl, rfl, ?_⟩⟩
    refine ⟨.ref u, rfl, .int 9, rfl, u, 9, k + 3, rfl, by decide, by decide, by omega, un3, fun r3 H4 r30 r31 st4 un4 => ⟨by show 4 ≤ sizeLine; decide, fun t nt => ?_⟩⟩
    have st := (((st1.trans st2).trans st3).trans st4).trans (stp_same (same_new (o := .tup [.str "valve", .int r1, .int (1 + r2), .int r3]) (Same.refl _) nt))
    refine q _ _ (some (r1, 1 + r2, r3)) st (urn_same un4 (same_new (Same.refl _) nt)) ?_ ⟨r10, r11, by omega⟩
    exact .tup (sqt_of (new_of ((((st1.trans st2).trans st3).trans st4).dm t nt) upd_same)) (.cons (.str _) (.cons (.int _) (.cons (.int _) (dpAll_one (.int _)))))
end
end K8
/-! The law's own rest. -/
namespace K8
open PySem PySem.Spec PyProof.Rows L2

theorem cut_init {xs : List V} (h : 1 ≤ xs.length) : cutV xs none (some (-1)) = xs.take (xs.length - 1) := by
  unfold cutV
  show List.take ((-1 + (xs.length : Int)).toNat - 0) xs = _
  rw [show (-1 + (xs.length : Int)).toNat - 0 = xs.length - 1 by omega]
theorem firstV_take {f : Nat → Int} {n m : Nat} (h : m ≤ n) : (firstV f n).take m = firstV f m := by
  unfold firstV
  rw [← List.map_take, List.take_range, Nat.min_eq_left h]
theorem firstV_at {f : Nat → Int} {n k : Nat} (h : k < n) : (firstV f n)[k]? = some (.int (f k)) := by
  unfold firstV
  rw [List.getElem?_map, List.getElem?_range h]
  rfl
section
variable {P : Program} {w : World} {K : PySem.W.Frag} {mg : Str → Option Value} {base : Heap}
abbrev s__law_rest : Stmt := topS 30
abbrev N__law_rest : List Str := ["_law_wells_here", "_law_held", "_law_rest_here", "_law_leak_here", "_law_up", "_law_takes", "_law_k", "_law_well", "_law_more", "_law_own", "_law_left", "_law_over"]
theorem sc__law_rest : FnScope N__law_rest ["_law_wells_here", "_law_held", "_law_rest_here", "_law_leak_here"] (defScope s__law_rest) := ⟨rfl, rfl, rfl, by decide +kernel, rfl, by decide +kernel, by decide +kernel⟩
def spLRest (K : PySem.W.Frag) : Sp := fun vs H Q _ => ∃ (v u : V) (h : Addr) (ws : List Well) (held : List Int) (lk : Leak) (r : Int), vs = [v, .ref h, .int r, u] ∧ Dp K H v (wsd ws) ∧ SqT K H h (held.map V.int) ∧ Dp K H u (lkd lk) ∧ held.length = ws.length ∧ 1 ≤ ws.length ∧ ws.length ≤ 1000 ∧ WOK ws ∧ LkOK ws.length lk ∧ NN held ∧
  ∀ H' p, Same H H' → Dp K (New H H') p (.tuple [.tuple (ind (restM ws held (lksM ws.length lk r) r).1), .int (restM ws held (lksM ws.length lk r) r).2]) → Q p H'
theorem ok__law_rest (T : Tf mg) (D : Df K mg "_law_rest" s__law_rest ["_law_wells_here", "_law_held", "_law_rest_here", "_law_leak_here"]) : Pr P w K mg base CX0 1 "_law_rest" ["_law_wells_here", "_law_held", "_law_rest_here", "_law_leak_here"] (spLRest K) := by
  refine D.pr fun f fd F _ _ _ => F.ok sc__law_rest (fun vs H Q E h => by obtain ⟨_, _, _, _, _, _, _, rfl, _⟩ := h; rfl) fun cdv A outer s H vs Q E hr h => ?_
  obtain ⟨v, u, h, ws, held, lk, r, rfl, hw, hh, hu, e1, hz1, hz, wok, lok, nn, q⟩ := h
  obtain ⟨a, xs, rfl, ha, hx⟩ := dp_tuple hw
  have hxl : xs.length = ws.length := by rw [dpAll_len hx, List.length_map]
  refine ⟨_, (pss_cons (ps_par (i := 4) (j := 5) (by rfl) sc__law_rest.nd rfl rfl (by decide) rfl rfl (pa_cons (pe_op op_sub pe_int (pe_op op_mod (pv 2) pe_int)) (pa_cons (pe_lst pa_nil) pa_nil)) (by rfl))
    (pss_cons (ps_for PassesOwn.never rfl (pi_enumT (by rfl) T.enumerate (pa_cons (pv 0) pa_nil)) (pg_tup rfl (pgs_cons (pg_name (i := 6) sc__law_rest.nd rfl (.inl rfl)) (pgs_cons (pg_name (i := 7) sc__law_rest.nd rfl (.inl rfl)) pgs_nil)))
      (C8.pss_cut (ps_set (i := 8) sc__law_rest.nd rfl (.inl rfl) (pe_ifExp (pt_cmpR op_eq (pe_ix ix_tup (pv 7) pe_int (fun _ _ => rfl)) (pv 4) (nomark _)) (pe_callB (call_min2 rfl) (by rfl) T.min (by decide +kernel) (pa_cons (pe_ix ix_tup (pv 7) pe_int (fun _ _ => rfl)) (pa_cons (pe_ix ix_tup (pv 1) (pv 6) (fun _ _ => rfl)) pa_nil))) pe_int))
    (C8.pss_cut (ps_if (PW.pt (pw_and (pt_cmpR op_notN (pv 3) pe_non (nomark _)) (pw_and (pt_cmpR op_eq (pe_ix ix_tup (pv 3) pe_int (fun _ _ => rfl)) (pv 6) (nomark _)) (pw_and1 (pt_cmpR op_ge (pv 2) (pe_ix ix_tup (pv 3) pe_int (fun _ _ => rfl)) (nomark _))))))
      (pss_one (ps_set (i := 8) sc__law_rest.nd rfl (.inl rfl) (pe_callB (call_max2 rfl) (by rfl) T.max (by decide +kernel) (pa_cons pe_int (pa_cons (pe_op op_sub (pv 8) (pe_ix ix_tup (pv 3) pe_int (fun _ _ => rfl))) pa_nil)))))
      pss_nil)
    (pss_one (ps_expr (pe_bm PySem.F.plainAttrs_list PySem.F.slot_list_append PySem.F.type_list_append mt_append (pv 5) (pa_cons (pv 8) pa_nil)))))))
    (pss_cons (ps_setLc (i := 10) (own := [("_law_k", 6), ("_law_own", 9)]) (g := gTup K 2 (gCons (gName 6) (gCons (gName 9) gNil))) (tt := tYes) rfl sc__law_rest.nd rfl rfl (sw_true rfl rfl rfl (by decide +kernel)) (pi_enum (by rfl) T.enumerate (pa_cons (pv 5) pa_nil)) (blkOk_by (own := [("_law_k", 6), ("_law_own", 9)]) (N := N__law_rest) (sc := defScope s__law_rest) (by decide +kernel)) (fun _ _ _ _ _ => (pg_tup rfl (pgs_cons (pg_name (i := 6) sc__law_rest.nd rfl (.inl rfl)) (pgs_cons (pg_name (i := 9) sc__law_rest.nd rfl (.inl rfl)) pgs_nil)))) (fun _ _ _ _ _ => pts_nil) (fun _ _ _ _ _ => (pe_op op_sub (pe_ix (r := rIxT K) ix_tup (pv 1) (pv 6) (fun _ _ => rfl)) (pv 9))))
    (pss_cons (ps_for PassesOwn.never rfl (pi_enum (by rfl) T.enumerate (pa_cons (pe_slice sl_list (pv 5) po_none (po_some (pe_un un_neg pe_int))) pa_nil)) (pg_tup rfl (pgs_cons (pg_name (i := 6) sc__law_rest.nd rfl (.inl rfl)) (pgs_cons (pg_name (i := 9) sc__law_rest.nd rfl (.inl rfl)) pgs_nil)))
      (pss_one (ps_asg (pe_op op_add (pe_ix ix_list (pv 10) (pe_op op_add (pv 6) pe_int) (fun _ _ => rfl)) (pv 9)) (pg_sub (pv 10) (pe_op op_add (pv 6) pe_int) set_list))))
    (C8.pss_cut (ps_if (pt_cmpR op_eq (pe_op op_mod (pv 2) pe_int) pe_int (nomark _))
      (pss_one (ps_setLc (i := 10) (own := [("_law_k", 6), ("_law_own", 9)]) (g := gTup K 2 (gCons (gName 6) (gCons (gName 9) gNil))) (tt := tYes) rfl sc__law_rest.nd rfl rfl (sw_true rfl rfl rfl (by decide +kernel)) (pi_enum (by rfl) T.enumerate (pa_cons (pv 10) pa_nil)) (blkOk_by (own := [("_law_k", 6), ("_law_own", 9)]) (N := N__law_rest) (sc := defScope s__law_rest) (by decide +kernel)) (fun _ _ _ _ _ => (pg_tup rfl (pgs_cons (pg_name (i := 6) sc__law_rest.nd rfl (.inl rfl)) (pgs_cons (pg_name (i := 9) sc__law_rest.nd rfl (.inl rfl)) pgs_nil)))) (fun _ _ _ _ _ => pts_nil) (fun _ _ _ _ _ => (pe_op op_add (pv 9) (pe_ix (r := rIxT K) ix_tup (pe_ix (r := rIxT K) ix_tup (pv 0) (pv 6) (fun _ _ => rfl)) pe_int (fun _ _ => rfl))))))
      pss_nil)
    (pss_cons (ps_for PassesOwn.never rfl (pi_range3 (by rfl) T.range (pa_cons (pe_op op_sub (pe_callB call_len_seq (by rfl) T.len PySem.boot_len (pa_cons (pv 0) pa_nil)) pe_int) (pa_cons pe_int (pa_cons (pe_un un_neg pe_int) pa_nil)))) (pg_name (i := 6) sc__law_rest.nd rfl (.inl rfl))
      (pss_cons (ps_set (i := 11) sc__law_rest.nd rfl (.inl rfl) (pe_callB (call_max2 rfl) (by rfl) T.max (by decide +kernel) (pa_cons pe_int (pa_cons (pe_op op_sub (pe_ix ix_list (pv 10) (pv 6) (fun _ _ => rfl)) (pe_ix ix_tup (pe_ix ix_tup (pv 0) (pv 6) (fun _ _ => rfl)) pe_int (fun _ _ => rfl))) pa_nil))))
    (pss_one (ps_asg (pe_tup (pa_cons (pe_op op_sub (pe_ix ix_list (pv 10) (pv 6) (fun _ _ => rfl)) (pv 11)) (pa_cons (pe_op op_add (pe_ix ix_list (pv 10) (pe_op op_sub (pv 6) pe_int) (fun _ _ => rfl)) (pv 11)) pa_nil))) (pg_tup rfl (pgs_cons (pg_sub (pv 10) (pv 6) set_list) (pgs_cons (pg_sub (pv 10) (pe_op op_sub (pv 6) pe_int) set_list) pgs_nil)))))))
    (pss_one (ps_ret (pe_tup (pa_cons (pe_callTy call_tuple_of (by rfl) T.tuple (by decide +kernel) (pa_cons (pv 10) pa_nil)) (pa_cons (pe_ix ix_list (pv 5) (pe_un un_neg pe_int) (fun _ _ => rfl)) pa_nil))))))))))), ?_⟩
  -- up, takes
  refine ⟨.int r, rfl, r, 2, rfl, rfl, (show (0 : Int) < 2 by decide), 1, r % 2, rfl, rfl, Nat.zero_le _, fun tk nt => ⟨_, _, rfl, ?_⟩⟩
  have s0 : Same H (upd H tk (.lst [])) := same_new (Same.refl H) nt
  have et0 : (upd H tk (.lst [])) tk = some (.lst []) := upd_same
  generalize upd H tk (.lst []) = H0 at *
  obtain ⟨BR, hBR⟩ : ∃ BR, BR = brf ws held (lksM ws.length lk r) (upM r) := ⟨_, rfl⟩
  refine ⟨.ref a, rfl, a, xs, rfl, same_seqT s0 ha, for_it (walk_enumT (xs := xs)) (Pv := fun i σ Hc => ∃ y6 y7 y8, σ = [some (.ref a), some (.ref h), some (.int r), some u, some (.int (1 - r % 2)), some (.ref tk), y6, y7, y8, none, none, none] ∧ Same H Hc ∧ Hc tk = some (.lst (firstV BR i)))
    ⟨none, none, none, rfl, s0, et0⟩ (fun i σ Hc _ pp => ?_) (fun i x σ Hc H' hi pp y => ?_) fun σ Hc pp => ?_⟩
  · obtain ⟨_, _, _, _, sc, _⟩ := pp
    exact same_seqT sc ha
  · obtain ⟨y6, y7, y8, rfl, sc, et⟩ := pp
    obtain ⟨T0, x0, x1, rfl, nT, rfl, g0, g1⟩ := y
    cases g0
    obtain ⟨b, rfl, hb⟩ := well_at hx g1
    have sT : Same Hc (upd Hc T0 (.tup [.int (i : Nat), .ref b])) := same_new (Same.refl _) nT
    have eT : (upd Hc T0 (.tup [.int (i : Nat), .ref b])) T0 = some (.tup [.int (i : Nat), .ref b]) := upd_same
    replace sc := sc.trans sT
    replace et := sT _ _ et
    generalize upd Hc T0 (.tup [.int (i : Nat), .ref b]) = H3 at *
    have hb' := same_seqT sc hb
    have hi' : i < ws.length := by omega
    refine ⟨T0, _, rfl, sqt_of eT, rfl, _, _, rfl, _, _, rfl, rfl, ?_⟩
    refine ⟨fun σ Hd => σ = [some (.ref a), some (.ref h), some (.int r), some u, some (.int (1 - r % 2)), some (.ref tk), some (.int (i : Nat)), some (.ref b), some (.int (if (ws.getD i default).rod = 1 - r % 2 then mn (ws.getD i default).mea (held.getD i 0) else 0)), none, none, none] ∧ Same H Hd ∧ Hd tk = some (.lst (firstV BR i)), ?_, fun σ Hd pp => ?_⟩
    · refine ⟨.ref b, rfl, b, _, 4, .int (ws.getD i default).rod, rfl, rfl, hb', atI_nat (j := 4) rfl, .int (1 - r % 2), rfl, rfl, _, rfl, ifb (fun c => ?_) fun c => ?_⟩
      · rw [if_pos (vi_of c)]
        exact ⟨.ref b, rfl, b, _, 3, .int (ws.getD i default).mea, rfl, rfl, hb', atI_nat (j := 3) rfl, .ref h, rfl, .int (i : Nat), rfl, h, _, (i : Nat), .int (held.getD i 0), rfl, rfl, same_seqT sc hh, atI_nat (int_at (by omega)), _, _, rfl, rfl, sc, et⟩
      · rw [if_neg (vi_nof c)]
        exact ⟨rfl, sc, et⟩
    · obtain ⟨rfl, sd, ed⟩ := pp
      refine ⟨fun σ He => σ = [some (.ref a), some (.ref h), some (.int r), some u, some (.int (1 - r % 2)), some (.ref tk), some (.int (i : Nat)), some (.ref b), some (.int (lawTk ws held lk r i)), none, none, none] ∧ Same H He ∧ He tk = some (.lst (firstV BR i)), ?_, fun σ He pp => ?_⟩
      · cases lk with
        | none =>
          cases hu
          exact ⟨.non, rfl, rfl, _, rfl, iff' rfl ⟨rfl, sd, ed⟩⟩
        | some l =>
          obtain ⟨k0, m, t⟩ := l
          obtain ⟨lb, ys, rfl, hlb, hy⟩ := dp_tuple hu
          cases hy with
          | cons g0 hy => cases hy with
            | cons g1 hy => cases hy with
              | cons g2 hy => cases hy with
                | cons g3 hy =>
                  cases hy
                  cases g0
                  cases g1
                  cases g2
                  cases g3
                  have hlb' := same_seqT sd hlb
                  unfold lawTk
                  refine ⟨.ref lb, rfl, rfl, _, rfl, ift rfl ⟨.ref lb, rfl, lb, _, 1, .int k0, rfl, rfl, hlb', atI_nat (j := 1) rfl, .int (i : Nat), rfl, rfl, _, rfl, ifb (fun c => ?_) fun c => ?_⟩⟩
                  · refine ⟨.int r, rfl, .ref lb, rfl, lb, _, 3, .int t, rfl, rfl, hlb', atI_nat (j := 3) rfl, _, _, rfl, rfl, _, rfl, ifb (fun d => ?_) fun d => ?_⟩
                    · dsimp only
                      rw [if_pos ⟨vi_of c, of_decide_eq_true d⟩]
                      exact ⟨_, rfl, .ref lb, rfl, lb, _, 2, .int m, rfl, rfl, hlb', atI_nat (j := 2) rfl, _, _, rfl, rfl, _, _, rfl, rfl, sd, ed⟩
                    · dsimp only
                      rw [if_neg (c := k0 = (i : Nat) ∧ t ≤ r) (fun z => of_decide_eq_false d z.2)]
                      exact ⟨rfl, sd, ed⟩
                  · dsimp only
                    rw [if_neg (c := k0 = (i : Nat) ∧ t ≤ r) (fun z => vi_nof c z.1)]
                    exact ⟨rfl, sd, ed⟩
      · obtain ⟨rfl, se, ee⟩ := pp
        rw [lawTk_is wok nn lok hi', ← hBR]
        refine ⟨.ref tk, rfl, .inl ⟨rfl, _, sql_of ee⟩, _, rfl, tk, _, _, rfl, rfl, ee, by rw [firstV_len]; exact small1000 (by omega), _, _, _, rfl, same_put se nt, by rw [upd_same, firstV_succ]⟩
  · obtain ⟨y6, y7, y8, rfl, sc, et⟩ := pp
    rw [hxl] at et
    -- left
    obtain ⟨br, hbr⟩ : ∃ br, br = brM ws held (lksM ws.length lk r) (upM r) := ⟨_, rfl⟩
    have lbr : br.length = ws.length := by rw [hbr, brM_len]
    have eR : restM ws held (lksM ws.length lk r) r = (spillM ws (if r % 2 = 1 then springM ws (strokeM held br ws.length) else strokeM held br ws.length) ((if r % 2 = 1 then springM ws (strokeM held br ws.length) else strokeM held br ws.length).length - 1), lastM br) := by
      rw [hbr]
      rfl
    rw [eR] at q
    have eV : firstV BR ws.length = br.map V.int := by
      rw [firstV_map, hbr, hBR]
      rfl
    have eL : firstV (fun k => held.getD k 0 - BR k) ws.length = (leftM held br ws.length).map V.int := by
      rw [firstV_map]
      unfold leftM
      refine congrArg _ (List.map_congr_left fun k hk => ?_)
      rw [hbr, brM_at (List.mem_range.mp hk), hBR]
    refine ⟨.ref tk, rfl, tk, _, rfl, sql_of et, fun lf nl => ?_⟩
    have nlt : tk ≠ lf := ne_of_none et nl
    refine lc_it (walk_enum (xs := firstV BR ws.length)) (Pv := fun i Hd => Same H Hd ∧ Hd tk = some (.lst (firstV BR ws.length)) ∧ Hd lf = some (.lst (firstV (fun k => held.getD k 0 - BR k) i))) ⟨same_new sc nl, by rw [upd_ne nlt]; exact et, upd_same⟩ (fun i Hd _ p => sql_of p.2.1) (fun i x Hd H' hi p y => ?_) fun Hd p => ?_
    · obtain ⟨sd, ed, el⟩ := p
      obtain ⟨T0, x0, x1, rfl, nT, rfl, g0, g1⟩ := y
      cases g0
      rw [firstV_len] at hi
      have ex : x1 = .int (BR i) := Option.some.inj (g1.symm.trans (firstV_at hi))
      subst ex
      have sT : Same Hd (upd Hd T0 (.tup [.int (i : Nat), .int (BR i)])) := same_new (Same.refl _) nT
      refine ⟨T0, _, rfl, sqt_of upd_same, rfl, _, _, rfl, _, _, rfl, rfl, rfl, .ref h, rfl, .int (i : Nat), rfl, h, _, (i : Nat), .int (held.getD i 0), rfl, rfl, same_seqT (sd.trans sT) hh, atI_nat (int_at (by omega)), .int (BR i), rfl, _, _, rfl, rfl, _, sT _ _ el, ?_, same_put (sd.trans sT) (sc.free nl), ?_, ?_⟩
      · rw [firstV_len]
        exact small1000 (by omega)
      · rw [upd_ne nlt]
        exact sT _ _ ed
      · rw [upd_same, firstV_succ]
    · obtain ⟨sd, ed, el⟩ := p
      have nlH : H lf = none := sc.free nl
      rw [firstV_len, eL] at el
      -- the carrying
      refine ⟨.ref tk, rfl, 1, rfl, -1, rfl, tk, _, rfl, sql_of ed, fun c nc => ?_⟩
      rw [cut_init (by rw [firstV_len]; exact hz1), firstV_len, firstV_take (Nat.sub_le _ _)]
      have s3 : Same Hd (upd Hd c (.lst (firstV BR (ws.length - 1)))) := same_new (Same.refl _) nc
      have ec : (upd Hd c (.lst (firstV BR (ws.length - 1)))) c = some (.lst (firstV BR (ws.length - 1))) := upd_same
      have ncl : lf ≠ c := ne_of_none el nc
      replace sd := sd.trans s3
      replace ed := s3 _ _ ed
      replace el := s3 _ _ el
      generalize upd Hd c (.lst (firstV BR (ws.length - 1))) = H3 at *
      refine ⟨c, _, rfl, sql_of ec, for_it (walk_enum (xs := firstV BR (ws.length - 1))) (Pv := fun i σ Hc => ∃ y6 y7 y8 y9, σ = [some (.ref a), some (.ref h), some (.int r), some u, some (.int (1 - r % 2)), some (.ref tk), y6, y7, y8, y9, some (.ref lf), none] ∧ Same H Hc ∧ Hc tk = some (.lst (firstV BR ws.length)) ∧ Hc c = some (.lst (firstV BR (ws.length - 1))) ∧ Hc lf = some (.lst ((carryM (leftM held br ws.length) br i).map V.int)))
        ⟨_, _, _, _, rfl, sd, ed, ec, el⟩ (fun i σ Hc _ pp => ?_) (fun i x σ Hc H' hi pp y => ?_) fun σ Hc pp => ?_⟩
      · obtain ⟨_, _, _, _, _, _, _, e, _⟩ := pp
        exact sql_of e
      · obtain ⟨y6, y7, y8, y9, rfl, sc, et, ec, el⟩ := pp
        obtain ⟨T0, x0, x1, rfl, nT, rfl, g0, g1⟩ := y
        cases g0
        rw [firstV_len] at hi
        have ex : x1 = .int (BR i) := Option.some.inj (g1.symm.trans (firstV_at hi))
        subst ex
        have sT : Same Hc (upd Hc T0 (.tup [.int (i : Nat), .int (BR i)])) := same_new (Same.refl _) nT
        have eT : (upd Hc T0 (.tup [.int (i : Nat), .int (BR i)])) T0 = some (.tup [.int (i : Nat), .int (BR i)]) := upd_same
        have lc : (carryM (leftM held br ws.length) br i).length = ws.length := by rw [carryM_len]; simp [leftM]
        have step : carryM (leftM held br ws.length) br (i + 1) = (carryM (leftM held br ws.length) br i).set (i + 1) ((carryM (leftM held br ws.length) br i).getD (i + 1) 0 + BR i) := by
          show List.set _ _ (_ + br.getD i 0) = _
          rw [hbr, brM_at (by omega), hBR]
        rw [step]
        replace sc := sc.trans sT
        replace et := sT _ _ et
        replace ec := sT _ _ ec
        replace el := sT _ _ el
        generalize upd Hc T0 (.tup [.int (i : Nat), .int (BR i)]) = H4 at *
        generalize carryM (leftM held br ws.length) br i = g at *
        refine ⟨T0, _, rfl, sqt_of eT, rfl, _, _, rfl, _, _, rfl, rfl, ?_⟩
        refine ⟨.ref lf, rfl, .int (i : Nat), rfl, _, _, rfl, rfl, lf, _, (i : Nat) + 1, .int (g.getD (i + 1) 0), rfl, rfl, sql_of el, at_as (j := i + 1) (by omega) (int_at (by omega)), .int (BR i), rfl, _, _, rfl, rfl, ?_⟩
        refine ⟨.ref lf, rfl, .int (i : Nat), rfl, _, _, rfl, rfl, lf, _, (i : Nat) + 1, i + 1, rfl, rfl, el, ixN_of (by omega) (by rw [List.length_map]; omega), ?_⟩
        rw [map_set_int]
        refine ⟨_, _, _, _, rfl, same_put sc nlH, by rw [upd_ne nlt]; exact et, by rw [upd_ne ncl.symm]; exact ec, upd_same⟩
      · obtain ⟨y6, y7, y8, y9, rfl, sc, et, ec, el⟩ := pp
        rw [firstV_len, carry_stroke e1 hz1] at el
        have lst : (strokeM held br ws.length).length = ws.length := by rw [strokeM_len, e1]
        generalize strokeM held br ws.length = st at *
        -- the springs
        refine ⟨fun σ Hd => ∃ y6 y7 y8 y9 l2, σ = [some (.ref a), some (.ref h), some (.int r), some u, some (.int (1 - r % 2)), some (.ref tk), y6, y7, y8, y9, some (.ref l2), none] ∧ Same H Hd ∧ Hd tk = some (.lst (firstV BR ws.length)) ∧ H l2 = none ∧ tk ≠ l2 ∧ Hd l2 = some (.lst ((if r % 2 = 1 then springM ws st else st).map V.int)), ?_, fun σ Hd pp => ?_⟩
        · refine ⟨.int r, rfl, r, 2, rfl, rfl, (show (0 : Int) < 2 by decide), rfl, _, rfl, ifb (fun d => ?_) fun d => ?_⟩
          · rw [if_pos (vi_of d)]
            refine ⟨.ref lf, rfl, lf, _, rfl, sql_of el, fun Dl nD => ?_⟩
            have nDl : lf ≠ Dl := ne_of_none el nD
            have nDt : tk ≠ Dl := ne_of_none et nD
            refine lc_it (walk_enum (xs := st.map V.int)) (Pv := fun i Hd => Same H Hd ∧ Hd tk = some (.lst (firstV BR ws.length)) ∧ Hd lf = some (.lst (st.map V.int)) ∧ Hd Dl = some (.lst (firstV (fun k => st.getD k 0 + (ws.getD k default).spr) i))) ⟨same_new sc nD, by rw [upd_ne nDt]; exact et, by rw [upd_ne nDl]; exact el, upd_same⟩ (fun i Hd _ p => sql_of p.2.2.1) (fun i x Hd H' hi p y => ?_) fun Hd p => ?_
            · obtain ⟨sd, ed, el, eD⟩ := p
              obtain ⟨T0, x0, x1, rfl, nT, rfl, g0, g1⟩ := y
              cases g0
              rw [List.length_map] at hi
              have ex : x1 = .int (st.getD i 0) := Option.some.inj (g1.symm.trans (int_at hi))
              subst ex
              have sT : Same Hd (upd Hd T0 (.tup [.int (i : Nat), .int (st.getD i 0)])) := same_new (Same.refl _) nT
              obtain ⟨x, hxk⟩ : ∃ x, xs[i]? = some x := ⟨xs[i]'(by omega), List.getElem?_eq_getElem _⟩
              obtain ⟨b, rfl, hb⟩ := well_at hx hxk
              have s5 := sd.trans sT
              refine ⟨T0, _, rfl, sqt_of upd_same, rfl, _, _, rfl, _, _, rfl, rfl, rfl, .int (st.getD i 0), rfl, .ref a, rfl, .int (i : Nat), rfl, a, xs, (i : Nat), .ref b, rfl, rfl, same_seqT s5 ha, atI_nat hxk, b, _, 2, .int (ws.getD i default).spr, rfl, rfl, same_seqT s5 hb, atI_nat (j := 2) rfl, _, _, rfl, rfl, _, sT _ _ eD, ?_, same_put s5 (sc.free nD), ?_, ?_, ?_⟩
              · rw [firstV_len]
                exact small1000 (by omega)
              · rw [upd_ne nDt]
                exact sT _ _ ed
              · rw [upd_ne nDl]
                exact sT _ _ el
              · rw [upd_same, firstV_succ]
            · obtain ⟨sd, ed, el, eD⟩ := p
              refine ⟨_, _, _, _, Dl, rfl, sd, ed, sc.free nD, nDt, ?_⟩
              rw [eD, List.length_map, lst, firstV_map]
              rfl
          · rw [if_neg (vi_nof d)]
            exact ⟨_, _, _, _, lf, rfl, sc, et, nlH, nlt, el⟩
        · obtain ⟨y6, y7, y8, y9, l2, rfl, sd, ed, n2, nt2, e2⟩ := pp
          have lz : (if r % 2 = 1 then springM ws st else st).length = ws.length := by
            split
            · exact springM_len _ _
            · exact lst
          generalize (if r % 2 = 1 then springM ws st else st) = z2 at *
          -- the spills
          refine ⟨.ref a, rfl, a, xs, rfl, .inr (same_seqT sd ha), _, _, rfl, rfl, 1, rfl, _, _, _, _, rfl, RgC.neg (by omega) (by omega) (by decide) (by decide), ?_⟩
          have ht : ((xs.length : Nat) - 1 - 0 : Int).toNat = z2.length - 1 := by omega
          rw [ht]
          refine for_rangeC (Pv := fun i σ Hc => ∃ y6 y7 y8 y9 y11, σ = [some (.ref a), some (.ref h), some (.int r), some u, some (.int (1 - r % 2)), some (.ref tk), y6, y7, y8, y9, some (.ref l2), y11] ∧ Same H Hc ∧ Hc tk = some (.lst (firstV BR ws.length)) ∧ Hc l2 = some (.lst ((spillM ws z2 i).map V.int))) ⟨_, _, _, _, _, rfl, sd, ed, e2⟩ (fun i σ Hc hi pp => ?_) fun σ Hc pp => ?_
          · obtain ⟨y6, y7, y8, y9, y11, rfl, sc, et, ef⟩ := pp
            obtain ⟨kk, hkk⟩ : ∃ kk : Nat, kk = z2.length - 1 - i := ⟨_, rfl⟩
            have ek : ((xs.length : Nat) - 1 + (i : Nat) * -1 : Int) = (kk : Nat) := by omega
            rw [ek]
            have lf' : (spillM ws z2 i).length = z2.length := spillM_len ws z2 i
            have step : spillM ws z2 (i + 1) = spillStep ws (spillM ws z2 i) kk := by rw [hkk]; rfl
            rw [step]
            generalize spillM ws z2 i = fl at *
            obtain ⟨x, hxk⟩ : ∃ x, xs[kk]? = some x := ⟨xs[kk]'(by omega), List.getElem?_eq_getElem _⟩
            obtain ⟨b, rfl, hb⟩ := well_at hx hxk
            have hb' := same_seqT sc hb
            refine ⟨.ref l2, rfl, .int (kk : Nat), rfl, l2, _, (kk : Nat), .int (fl.getD kk 0), rfl, rfl, sql_of ef, atI_nat (int_at (by omega)), .ref a, rfl, .int (kk : Nat), rfl, a, xs, (kk : Nat), .ref b, rfl, rfl, same_seqT sc ha, atI_nat hxk, b, _, 1, .int (ws.getD kk default).room, rfl, rfl, hb', atI_nat (j := 1) rfl, _, _, rfl, rfl, _, _, rfl, ?_⟩
            refine ⟨.ref l2, rfl, .int (kk : Nat), rfl, l2, _, (kk : Nat), .int (fl.getD kk 0), rfl, rfl, sql_of ef, atI_nat (int_at (by omega)), .int (mx 0 (fl.getD kk 0 - (ws.getD kk default).room)), rfl, _, _, rfl, rfl, .ref l2, rfl, .int (kk : Nat), rfl, _, _, rfl, rfl, l2, _, (kk : Nat) - 1, .int (fl.getD (kk - 1) 0), rfl, rfl, sql_of ef, at_as (j := kk - 1) (by omega) (int_at (by omega)), .int (mx 0 (fl.getD kk 0 - (ws.getD kk default).room)), rfl, _, _, rfl, rfl, by show 2 ≤ sizeLine; decide, fun T1 nT1 => ?_⟩
            have sT : Same Hc (upd Hc T1 (.tup [.int (fl.getD kk 0 - (mx 0 (fl.getD kk 0 - (ws.getD kk default).room))), .int (fl.getD (kk - 1) 0 + (mx 0 (fl.getD kk 0 - (ws.getD kk default).room)))])) := same_new (Same.refl _) nT1
            have eT : (upd Hc T1 (.tup [.int (fl.getD kk 0 - (mx 0 (fl.getD kk 0 - (ws.getD kk default).room))), .int (fl.getD (kk - 1) 0 + (mx 0 (fl.getD kk 0 - (ws.getD kk default).room)))])) T1 = some (.tup [.int (fl.getD kk 0 - (mx 0 (fl.getD kk 0 - (ws.getD kk default).room))), .int (fl.getD (kk - 1) 0 + (mx 0 (fl.getD kk 0 - (ws.getD kk default).room)))]) := upd_same
            refine ⟨T1, _, rfl, sqt_of eT, rfl, _, _, rfl, ?_⟩
            replace sc := sc.trans sT
            replace et := sT _ _ et
            replace ef := sT _ _ ef
            refine ⟨.ref l2, rfl, .int (kk : Nat), rfl, l2, _, (kk : Nat), kk, rfl, rfl, ef, ixN_of rfl (by rw [List.length_map]; omega), _, _, rfl, ?_⟩
            rw [map_set_int]
            refine ⟨.ref l2, rfl, .int (kk : Nat), rfl, _, _, rfl, rfl, l2, _, (kk : Nat) - 1, kk - 1, rfl, rfl, upd_same, ixN_of (by omega) (by rw [List.length_map, List.length_set]; omega), ?_⟩
            rw [map_set_int]
            refine ⟨rfl, _, _, _, _, _, rfl, same_put (same_put sc n2) n2, by rw [upd_ne nt2, upd_ne nt2]; exact et, ?_⟩
            rw [upd_same]
            unfold spillStep
            have eg : (fl.set kk (fl.getD kk 0 - (mx 0 (fl.getD kk 0 - (ws.getD kk default).room)))).getD (kk - 1) 0 = fl.getD (kk - 1) 0 := by
              rw [getD_set (by omega), if_neg (by omega)]
            rw [eg]
          · obtain ⟨y6, y7, y8, y9, y11, rfl, sc, et, ef⟩ := pp
            refine ⟨.ref l2, rfl, l2, _, rfl, .inl ⟨sql_of ef, fun p np => ⟨.ref tk, rfl, 1, rfl, tk, _, -1, .int (lastM br), rfl, rfl, sql_of (same_new (Same.refl _) np _ _ et), by rw [eV]; exact last_int (by omega), by show 2 ≤ sizeLine; decide, fun t nt => q _ _ ((sc.trans (same_new (Same.refl _) np)).trans (same_new (Same.refl _) nt)) ?_⟩⟩⟩
            have st1 := same_new (o := .tup ((spillM ws z2 (z2.length - 1)).map V.int)) (Same.refl Hc) np
            have st2 := same_new (o := .tup [.ref p, .int (lastM br)]) (Same.refl (upd Hc p (.tup ((spillM ws z2 (z2.length - 1)).map V.int)))) nt
            exact .tup (sqt_of (new_of (sc.free (st1.free nt)) upd_same)) (.cons (.tup (sqt_of (new_of (sc.free np) (st2 _ _ upd_same))) (ints_dpAll _)) (dpAll_one (.int _)))
end
end K8
/-! The law's own play. -/
namespace K8
open PySem PySem.Spec PyProof.Rows L2

section
variable {P : Program} {w : World} {K : PySem.W.Frag} {mg : Str → Option Value} {base : Heap}
abbrev s__law_play : Stmt := topS 31
abbrev N__law_play : List Str := ["_law_wells_here", "_law_leak_here", "_law_many", "_law_line", "_law_held_so", "_law_rest_here", "_law_held", "_law_out"]
theorem sc__law_play : FnScope N__law_play ["_law_wells_here", "_law_leak_here", "_law_many"] (defScope s__law_play) := ⟨rfl, rfl, rfl, by decide +kernel, rfl, by decide +kernel, by decide +kernel⟩
def spPlay (K : PySem.W.Frag) : Sp := fun vs H Q _ => ∃ (v u : V) (ws : List Well) (lk : Leak) (m : Nat), vs = [v, u, .int (m : Nat)] ∧ Dp K H v (wsd ws) ∧ Dp K H u (lkd lk) ∧ 1 ≤ ws.length ∧ ws.length ≤ 1000 ∧ WOK ws ∧ LkOK ws.length lk ∧ m ≤ 900 ∧
  ∀ H' p, Same H H' → Dp K (New H H') p (.tuple [.tuple (outsD ws lk m), .list (rowsD ws lk m)]) → Q p H'
theorem outs_dp {K : PySem.W.Frag} (ws : List Well) (lk : Leak) (m : Nat) (G : Hp) : DpAll K G (firstV (outM ws lk) m) (outsD ws lk m) := by
  rw [firstV_map]
  have e := ints_dpAll (K := K) (H := G) ((List.range m).map (outM ws lk))
  rw [List.map_map (g := PyData.int)] at e
  exact e
theorem ok__law_play (T : Tf mg) (D : Df K mg "_law_play" s__law_play ["_law_wells_here", "_law_leak_here", "_law_many"]) (O__law_rest : Pr P w K mg base CX0 1 "_law_rest" ["_law_wells_here", "_law_held", "_law_rest_here", "_law_leak_here"] (spLRest K)) : Pr P w K mg base CX0 2 "_law_play" ["_law_wells_here", "_law_leak_here", "_law_many"] (spPlay K) := by
  refine D.pr fun f fd F _ _ _ => F.ok sc__law_play (fun vs H Q E h => by obtain ⟨_, _, _, _, _, rfl, _⟩ := h; rfl) fun cdv A outer s H vs Q E hr h => ?_
  obtain ⟨v, u, ws, lk, m, rfl, hw, hu, hz1, hz, wok, lok, hm, q⟩ := h
  refine ⟨_, (C8.pss_cut (ps_par (i := 3) (j := 4) (by rfl) sc__law_play.nd rfl rfl (by decide) rfl rfl (pa_cons (pe_lst pa_nil) (pa_cons (pe_lst (pa_cons (pe_op (OpR.or op_repT op_repT1) (pe_tup (pa_cons pe_int pa_nil)) (pe_callB call_len_seq (by rfl) T.len PySem.boot_len (pa_cons (pv 0) pa_nil))) pa_nil)) pa_nil)) (by rfl))
    (pss_cons (ps_for PassesOwn.never rfl (pi_range1 (by rfl) T.range (pa_cons (pv 2) pa_nil)) (pg_name (i := 5) sc__law_play.nd rfl (.inl rfl))
      (pss_cons (ps_asg (O__law_rest.use hr (by rfl) pass0 (pa_cons (pv 0) (pa_cons (pe_ix ix_list (pv 4) (pe_un un_neg pe_int) (fun _ _ => rfl)) (pa_cons (pv 5) (pa_cons (pv 1) pa_nil))))) (pg_tup rfl (pgs_cons (pg_name (i := 6) sc__law_play.nd rfl (.inl rfl)) (pgs_cons (pg_name (i := 7) sc__law_play.nd rfl (.inl rfl)) pgs_nil))))
    (pss_cons (ps_expr (pe_bm PySem.F.plainAttrs_list PySem.F.slot_list_append PySem.F.type_list_append mt_append (pv 3) (pa_cons (pv 7) pa_nil)))
    (pss_one (ps_expr (pe_bm PySem.F.plainAttrs_list PySem.F.slot_list_append PySem.F.type_list_append mt_append (pv 4) (pa_cons (pv 6) pa_nil)))))))
    (pss_one (ps_ret (pe_tup (pa_cons (pe_callTy call_tuple_of (by rfl) T.tuple (by decide +kernel) (pa_cons (pv 3) pa_nil)) (pa_cons (pv 4) pa_nil))))))), ?_⟩
  obtain ⟨a, xs, rfl, ha, hxl⟩ := wsd_len hw
  refine ⟨fun σ Hc => ∃ ln hs row, σ = [some (.ref a), some u, some (.int (m : Nat)), some (.ref ln), some (.ref hs), none, none, none] ∧ Same H Hc ∧ H ln = none ∧ H hs = none ∧ H row = none ∧ ln ≠ hs ∧ Hc ln = some (.lst []) ∧ Hc hs = some (.lst [.ref row]) ∧ Hc row = some (.tup ((heldM ws lk 0).map V.int)), ?_, fun σ Hc pp => ?_⟩
  · refine ⟨Nat.zero_le _, fun ln nl => ⟨by show 1 ≤ sizeLine; decide, fun z nz => ?_⟩⟩
    have s1 : Same H (upd H ln (.lst [])) := same_new (Same.refl _) nl
    have el1 : (upd H ln (.lst [])) ln = some (.lst []) := upd_same
    generalize upd H ln (.lst []) = H1 at *
    have s2 : Same H1 (upd H1 z (.tup [.int 0])) := same_new (Same.refl _) nz
    have el2 := s2 _ _ el1
    have ez2 : (upd H1 z (.tup [.int 0])) z = some (.tup [.int 0]) := upd_same
    generalize upd H1 z (.tup [.int 0]) = H2 at *
    have s12 := s1.trans s2
    refine ⟨.ref a, rfl, a, xs, rfl, .inr (same_seqT s12 ha), ?_⟩
    by_cases e : xs.length = 1
    · refine .inr ⟨z, [.int 0], rfl, by rw [e]; rfl, sqt_of ez2, by show 1 ≤ sizeLine; decide, fun hs nhs => ⟨_, _, rfl, ln, hs, z, rfl, same_new s12 nhs, nl, s12.free nhs, s1.free nz, ne_of_none el2 nhs, same_new (Same.refl _) nhs _ _ el2, upd_same, ?_⟩⟩
      rw [same_new (Same.refl _) nhs _ _ ez2]
      show _ = some (HO.tup ((List.replicate ws.length (0 : Int)).map V.int))
      rw [← hxl, e]
      rfl
    · refine .inl ⟨z, _, [.int 0], rfl, rfl, sqt_of ez2, by simp, by omega, by omega, by simp, fun p np => ?_⟩
      have s3 := same_new (o := .tup ((List.replicate (xs.length : Int).toNat [V.int 0]).flatten)) (Same.refl H2) np
      refine ⟨by show 1 ≤ sizeLine; decide, fun hs nhs => ⟨_, _, rfl, ln, hs, p, rfl, same_new (s12.trans s3) nhs, nl, (s12.trans s3).free nhs, s12.free np, ne_of_none (s3 _ _ el2) nhs, same_new (Same.refl _) nhs _ _ (s3 _ _ el2), upd_same, ?_⟩⟩
      rw [same_new (Same.refl _) nhs _ _ upd_same, Int.toNat_natCast, flat_one, hxl]
      rfl
  · obtain ⟨ln, hs, row, rfl, sB, nln, nhs, nrow, nlh, bln, bhs, brow⟩ := pp
    rename_i B
    obtain ⟨A0, hA0⟩ : ∃ A0, A0 = upd (upd H ln (.lst [])) hs (.lst []) := ⟨_, rfl⟩
    have a_ln : A0 ln = some (.lst []) := by rw [hA0, upd_ne nlh, upd_same]
    have a_hs : A0 hs = some (.lst []) := by rw [hA0, upd_same]
    have domA : ∀ {Hc : Hp} {o1 o2 : HO}, Same H Hc → Hc ln = some o1 → Hc hs = some o2 → Dom A0 Hc := fun sc e1 e2 b hb => by
      rw [hA0]
      have n1 : b ≠ hs := fun e => by rw [e, e2] at hb; cases hb
      have n2 : b ≠ ln := fun e => by rw [e, e1] at hb; cases hb
      rw [upd_ne n1, upd_ne n2]
      exact sc.free hb
    have a_row : A0 row = none := by
      have n1 : row ≠ hs := fun e => by rw [e, bhs] at brow; cases brow
      have n2 : row ≠ ln := fun e => by rw [e, bln] at brow; cases brow
      rw [hA0, upd_ne n1, upd_ne n2]
      exact nrow
    have a_lt : Dom H A0 := by
      rw [hA0]
      exact dom_upd (dom_upd (dom_refl H))
    clear hA0
    refine ⟨.int (m : Nat), rfl, (m : Nat), rfl, by omega, by omega, for_range (Pv := fun i σ Hc => ∃ y5 y6 y7 refs, σ = [some (.ref a), some u, some (.int (m : Nat)), some (.ref ln), some (.ref hs), y5, y6, y7] ∧ Same H Hc ∧ Hc ln = some (.lst (firstV (outM ws lk) i)) ∧ Hc hs = some (.lst refs) ∧ refs.length = i + 1 ∧ DpAll K (New A0 Hc) refs (rowsD ws lk i))
      ⟨none, none, none, [.ref row], rfl, sB, bln, bhs, rfl, dpAll_one (.tup (sqt_of (new_of a_row brow)) (ints_dpAll _))⟩ (fun i σ Hc hi pp => ?_) fun σ Hc pp => ?_⟩
    · obtain ⟨y5, y6, y7, refs, rfl, sc, el, es, lr, hrf⟩ := pp
      rw [Int.toNat_natCast] at hi
      obtain ⟨hb, ev0, hhb⟩ := rows_at hrf (Nat.le_refl i)
      refine ⟨.ref a, rfl, .ref hs, rfl, 1, rfl, hs, refs, -1, .ref hb, rfl, rfl, sql_of es, atI_m1 (by rw [lr]; exact ev0), .int (0 + (i : Nat)), rfl, u, rfl, ?_⟩
      refine ⟨.ref a, u, hb, ws, heldM ws lk i, lk, 0 + (i : Nat), rfl, dp_same sc hw, same_seqT new_in hhb, dp_same sc hu, heldM_len ws lk i, hz1, hz, wok, lok, heldM_nn wok lok i, fun H5 p2 s5 hp2 => ?_⟩
      have domHc : Dom A0 Hc := domA sc el es
      rw [show ((0 : Int) + (i : Nat)) = (i : Nat) by omega] at hp2
      obtain ⟨q1, zs, rfl, hq1, hzs⟩ := dp_tuple hp2
      cases hzs with
      | cons g0 hzs => cases hzs with
        | cons g1 hzs =>
          cases hzs
          cases g1
          rename_i v0
          refine ⟨q1, _, rfl, same_seqT new_in hq1, rfl, _, _, rfl, _, _, rfl, rfl, ?_⟩
          have el5 := s5 _ _ el
          have es5 := s5 _ _ es
          refine ⟨.ref ln, rfl, .inl ⟨rfl, _, sql_of el5⟩, .int (outM ws lk i), rfl, ln, _, _, rfl, rfl, el5, by rw [firstV_len]; exact small1000 (by omega), ?_⟩
          have es6 : (upd H5 ln (.lst (firstV (outM ws lk) i ++ [.int (outM ws lk i)]))) hs = some (.lst refs) := by rw [upd_ne nlh.symm]; exact es5
          refine ⟨.ref hs, rfl, .inl ⟨rfl, _, sql_of es6⟩, v0, rfl, hs, _, _, rfl, rfl, es6, by rw [lr]; exact small1000 (by omega), ?_⟩
          refine ⟨_, _, _, refs ++ [v0], rfl, same_put (same_put (sc.trans s5) nln) nhs, ?_, by rw [upd_same], by rw [List.length_append, lr]; rfl, ?_⟩
          · rw [upd_ne nlh, upd_same, firstV_succ]
          · have eD : rowsD ws lk (i + 1) = rowsD ws lk i ++ [.tuple (ind (heldM ws lk (i + 1)))] := by
              unfold rowsD
              rw [List.range_succ (n := i + 1), List.map_append]
              rfl
            rw [eD]
            have sN : Same (New A0 H5) (New A0 (upd (upd H5 ln (.lst (firstV (outM ws lk) i ++ [.int (outM ws lk i)]))) hs (.lst (refs ++ [v0])))) := (new_put a_ln).trans (new_put a_hs)
            exact dpAll_app (dpAll_same ((new_same s5).trans sN) hrf) (dpAll_one (dp_same ((new_call domHc).trans sN) g0))
    · obtain ⟨y5, y6, y7, refs, rfl, sc, el, es, lr, hrf⟩ := pp
      rw [Int.toNat_natCast] at el lr hrf
      refine ⟨.ref ln, rfl, ln, _, rfl, .inl ⟨sql_of el, fun p np => ⟨.ref hs, rfl, by show 2 ≤ sizeLine; decide, fun t nt => q _ _ ((sc.trans (same_new (Same.refl _) np)).trans (same_new (Same.refl _) nt)) ?_⟩⟩⟩
      have st1 := same_new (o := .tup (firstV (outM ws lk) m)) (Same.refl Hc) np
      have st2 := same_new (o := .tup [.ref p, .ref hs]) (Same.refl (upd Hc p (.tup (firstV (outM ws lk) m)))) nt
      refine .tup (sqt_of (new_of (sc.free (st1.free nt)) upd_same)) (.cons (.tup (sqt_of (new_of (sc.free np) (st2 _ _ upd_same))) ?_) (dpAll_one (.lst (sql_of (new_of nhs (st2 _ _ (st1 _ _ es)))) (dpAll_same ((new_same (st1.trans st2)).trans (new_less a_lt)) hrf))))
      exact outs_dp ws lk m _
end
end K8
/-! The law's greatest lot; what it hears. -/
namespace K8
open PySem PySem.Spec PyProof.Rows L2

theorem Pr.useS {X : Cx} {k : Nat} {x : Str} {ps : List Str} {sp : Sp} {W : WX} {p pos : Pos} {e : Expr} {es : List Expr} {t : TA} (O : Pr X.prog X.w X.K X.mg X.base (L2.CX X.prog X.w) k x ps sp) (hr : Room k X.A) (hg : Gl X x) (tk : Takes X W) (ha : PA X (e :: es) t)
    (hdb : (x == ("__debug__" : Str)) = false := by decide) (he : starEach (e :: es) X.env = (false, eval e X.env) :: starEach es X.env := by rfl) (hpl : (backTo pos (starEach es X.env)).any (·.1) = false := by rfl) :
    PE X (.Call (.Name x p) (e :: es) [] pos) (tCallS sp (WE W) t) := by
  obtain ⟨f, fd, m, kp, b, F⟩ := O.ex
  exact pe_callS F hr hg m kp b (fun σ => passAt tk σ) ha hdb he hpl
section
variable {P : Program} {w : World} {K : PySem.W.Frag} {mg : Str → Option Value} {base : Heap} {C fI : Addr}
abbrev s__law_greatest : Stmt := topS 35
abbrev N__law_greatest : List Str := ["_law_wells_here", "_law_leaks", "_law_gauge", "_law_shown", "_law_own"]
theorem sc__law_greatest : FnScope N__law_greatest ["_law_wells_here", "_law_leaks", "_law_gauge"] (defScope s__law_greatest) := ⟨rfl, rfl, rfl, by decide +kernel, rfl, by decide +kernel, by decide +kernel⟩
def spGreat (K : PySem.W.Frag) : Sp := fun vs H Q _ => ∃ (v u x : V) (ws : List Well) (lks : List Leak) (g : Int × Int), vs = [v, u, x] ∧ Dp K H v (wsd ws) ∧ Dp K H u (.tuple (lks.map lkd)) ∧ Dp K H x (gd g) ∧ 1 ≤ ws.length ∧ ws.length ≤ 1000 ∧ WOK ws ∧ (∀ lk ∈ lks, LkOK ws.length lk) ∧ 1 ≤ lks.length ∧ lks.length ≤ 1000 ∧ InG ws.length g ∧ 0 ≤ g.2 ∧ g.2 ≤ 900 ∧
  ∀ H', Same H H' → Q (.int (alikeM ws lks g)) H'
theorem ok__law_greatest (T : Tf mg) (D : Df K mg "_law_greatest" s__law_greatest ["_law_wells_here", "_law_leaks", "_law_gauge"]) (O__law_play : Pr P w K mg base CX0 2 "_law_play" ["_law_wells_here", "_law_leak_here", "_law_many"] (spPlay K)) : Pr P w K mg base CX0 3 "_law_greatest" ["_law_wells_here", "_law_leaks", "_law_gauge"] (spGreat K) := by
  refine D.pr fun f fd F _ _ _ => F.ok sc__law_greatest (fun vs H Q E h => by obtain ⟨_, _, _, _, _, _, rfl, _⟩ := h; rfl) fun cdv A outer s H vs Q E hr h => ?_
  obtain ⟨v, u, x, ws, lks, g, rfl, hw, hl, hg, hz1, hz, wok, lok, hl1, hl2, inn, hg1, hg2, q⟩ := h
  obtain ⟨gk, gm⟩ := g
  dsimp only at hg1 hg2
  obtain ⟨m, rfl⟩ := Int.eq_ofNat_of_zero_le hg1
  have c2 := inn.2
  obtain ⟨k, rfl⟩ := Int.eq_ofNat_of_zero_le inn.1
  dsimp only at c2
  refine ⟨_, (pss_cons (ps_set (i := 3) sc__law_greatest.nd rfl (.inr rfl) (pe_lc (own := [("_law_own", 4)]) (g := gName 4) (tt := tYes) rfl sc__law_greatest.nd (pi_tup (pv 1)) (blkOk_by (own := [("_law_own", 4)]) (N := N__law_greatest) (sc := defScope s__law_greatest) (by decide +kernel)) (fun _ _ _ _ _ => (pg_name (i := 4) sc__law_greatest.nd rfl (.inl rfl))) (fun _ _ _ _ _ => pts_nil) (fun _ _ _ _ _ => (pe_ix (r := rIxT K) ix_tup (pe_ix (r := rIxL K) ix_list (pe_ix (r := rIxT K) ix_tup (O__law_play.use hr (by rfl) pass0 (pa_cons (pv 0) (pa_cons (pv 4) (pa_cons (pe_ix (r := rIxT K) ix_tup (pv 2) pe_int (fun _ _ => rfl)) pa_nil)))) pe_int (fun _ _ => rfl)) (pe_un un_neg pe_int) (fun _ _ => rfl)) (pe_ix (r := rIxT K) ix_tup (pv 2) pe_int (fun _ _ => rfl)) (fun _ _ => rfl)))))
    (pss_one (ps_ret (pe_callB (cr_max rfl) (by rfl) T.max (by decide +kernel) (pa_cons (pe_lc (own := [("_law_own", 4)]) (g := gName 4) (tt := tYes) rfl sc__law_greatest.nd (pi_list (pv 3)) (blkOk_by (own := [("_law_own", 4)]) (N := N__law_greatest) (sc := defScope s__law_greatest) (by decide +kernel)) (fun _ _ _ _ _ => (pg_name (i := 4) sc__law_greatest.nd rfl (.inl rfl))) (fun _ _ _ _ _ => pts_nil) (fun _ _ _ _ _ => (pe_toK (F := fun K => tBM K _ (rCntI K) _ _) (K := K) rfl (pe_bm PySem.F.plainAttrs_list PySem.F.slot_list_count PySem.F.type_list_count mt_lcount (pv 3) (pa_cons (pv 4) pa_nil))))) pa_nil))))), ?_⟩
  obtain ⟨b, gx, rfl, hb, hgx⟩ := dp_tuple hg
  have egx : gx = [.int (k : Nat), .int (m : Nat)] := dpAll_ints (ns := [(k : Int), (m : Int)]) hgx
  subst egx
  obtain ⟨z, ys, rfl, hy, hyl⟩ := dp_tuple hl
  have lyl : ys.length = lks.length := by rw [dpAll_len hyl, List.length_map]
  refine ⟨.ref z, rfl, z, rfl, ⟨_, hy⟩, fun Dl nD => ?_⟩
  refine lc_it (walk_tup (xs := ys)) (Pv := fun i Hc => Same H Hc ∧ Hc Dl = some (.lst (firstV (fun j => (heldM ws (lks.getD j none) m).getD k 0) i))) ⟨same_new (Same.refl _) nD, upd_same⟩ (fun i Hc _ p => same_seqT p.1 hy) (fun i y Hc H' hi p yy => ?_) fun Hc p => ?_
  · obtain ⟨sc, eD⟩ := p
    obtain ⟨e0, yy⟩ := yy
    subst e0
    have hi' : i < lks.length := by omega
    have lyy : lks[i]? = some (lks.getD i none) := by
      rw [List.getD_eq_getElem?_getD, List.getElem?_eq_getElem hi']
      rfl
    obtain ⟨dd, e1, hd⟩ := dpAll_getV hyl yy
    rw [List.getElem?_map, lyy] at e1
    cases e1
    refine ⟨rfl, v, rfl, y, rfl, .ref b, rfl, b, _, 1, .int (m : Nat), rfl, rfl, same_seqT sc hb, rfl, v, y, ws, lks.getD i none, m, rfl, dp_same sc hw, dp_same sc hd, hz1, hz, wok, lok _ (List.mem_of_getElem? lyy), by omega, fun H2 p s2 hp => ?_⟩
    obtain ⟨pa, px, rfl, hpa, hpx⟩ := dp_tuple hp
    cases hpx with
    | cons g0 hpx => cases hpx with
      | cons g1 hpx =>
        cases hpx
        obtain ⟨rb, rx, rfl, hrb, hrx⟩ := dp_list g1
        obtain ⟨c, ec, hc⟩ := rows_at hrx (Nat.le_refl m)
        refine ⟨pa, _, 1, .ref rb, rfl, rfl, same_seqT new_in hpa, rfl, 1, rfl, rb, rx, -1, .ref c, rfl, rfl, new_in.seq hrb, atI_m1 (by rw [rows_len hrx]; exact ec), .ref b, rfl, b, _, 0, .int (k : Nat), rfl, rfl, same_seqT (sc.trans s2) hb, rfl, c, _, (k : Nat), .int ((heldM ws (lks.getD i none) m).getD k 0), rfl, rfl, same_seqT new_in hc, atI_nat (int_at (by rw [heldM_len]; omega)), _, s2 _ _ eD, ?_, same_put (sc.trans s2) nD, ?_⟩
        · rw [firstV_len]
          exact small1000 (by omega)
        · rw [upd_same, firstV_succ]
  · obtain ⟨sc, eD⟩ := p
    rw [lyl, firstV_map, map_range_getD (fun lk => (heldM ws lk m).getD k 0)] at eD
    have eD : Hc Dl = some (.lst ((shownM ws lks k m).map V.int)) := eD
    have lsh : (shownM ws lks k m).length = lks.length := by simp [shownM]
    have eA : alikeM ws lks ((k : Nat), (m : Nat)) = maxL (countsOf (shownM ws lks k m)) := rfl
    rw [eA] at q
    generalize shownM ws lks k m = sh at *
    refine ⟨.ref Dl, rfl, Dl, rfl, ⟨_, sql_of eD⟩, fun D2 nD2 => ?_⟩
    have ne : Dl ≠ D2 := ne_of_none eD nD2
    refine lc_it (walk_list (xs := sh.map V.int)) (Pv := fun i Hd => Same H Hd ∧ Hd Dl = some (.lst (sh.map V.int)) ∧ Hd D2 = some (.lst (firstV (fun j => ((sh.count (sh.getD j 0) : Nat) : Int)) i))) ⟨same_new sc nD2, by rw [upd_ne ne]; exact eD, upd_same⟩ (fun i Hd _ p => sql_of p.2.1) (fun i y Hd H' hi p yy => ?_) fun Hd p => ?_
    · obtain ⟨sd, eD', e2⟩ := p
      obtain ⟨e0, yy⟩ := yy
      subst e0
      rw [List.length_map] at hi
      have ex : y = .int (sh.getD i 0) := Option.some.inj (yy.symm.trans (int_at hi))
      subst ex
      refine ⟨rfl, .ref Dl, rfl, .inl ⟨rfl, _, sql_of eD'⟩, .int (sh.getD i 0), rfl, Dl, sh, sh.getD i 0, rfl, rfl, sql_of eD', _, e2, ?_, same_put sd (sc.free nD2), ?_, ?_⟩
      · rw [firstV_len]
        exact small1000 (by omega)
      · rw [upd_ne ne]
        exact eD'
      · rw [upd_same, firstV_succ]
    · obtain ⟨sd, eD', e2⟩ := p
      rw [List.length_map, firstV_map, map_range_getD (fun x => ((sh.count x : Nat) : Int))] at e2
      have e2 : Hd D2 = some (.lst ((countsOf sh).map V.int)) := e2
      have lc : (countsOf sh).length = sh.length := by simp [countsOf]
      refine ⟨D2, countsOf sh, rfl, sql_of e2, by omega, fun mm h1 h2 => ?_⟩
      rw [maxL_eq h1 h2]
      exact q _ sd
abbrev s__law_heard : Stmt := topS 34
abbrev N__law_heard : List Str := ["_law_wells_here", "_law_leaks", "_law_gauges", "error"]
theorem sc__law_heard : FnScope N__law_heard ["_law_wells_here", "_law_leaks", "_law_gauges"] (defScope s__law_heard) := ⟨rfl, rfl, rfl, by decide +kernel, rfl, by decide +kernel, by decide +kernel⟩
def spHeard (K : PySem.W.Frag) : Sp := fun vs H Q E => ∃ (v u x : V) (ws : List Well) (lks : List Leak) (gs : List (Int × Int)), vs = [v, u, x] ∧ WsF K H v ws ∧ SqF LkF K H u lks ∧ SqF GF K H x gs ∧ (∀ lk ∈ lks, LeakOk ws.length lk) ∧ 1 ≤ ws.length ∧ ws.length ≤ 1000 ∧ 1 ≤ lks.length ∧ lks.length ≤ 1000 ∧ 1 ≤ gs.length ∧ gs.length ≤ 1000 ∧ (∀ g ∈ gs, 0 ≤ g.2 ∧ g.2 ≤ 900) ∧
  ((∀ i, i < gs.length → InG ws.length (gs.getD i (0, 0))) → ∀ H' p, Same H H' → Dp K (New H H') p (gd (bestM ws lks gs)) → Q p H') ∧ (∀ i, i < gs.length → (∀ j, j < i → InG ws.length (gs.getD j (0, 0))) → ¬ InG ws.length (gs.getD i (0, 0)) → ∀ H' p, Same H H' → Dp K (New H H') p (.list [.str "place", .int (gs.getD i (0, 0)).1, .bool true]) → Q p H')
theorem ok__law_heard (T : Tf mg) (TN : PySem.NpX.NpTxt K mg C fI) (S : NpIs K C) (D : Df K mg "_law_heard" s__law_heard ["_law_wells_here", "_law_leaks", "_law_gauges"]) (O_best_gauge : Pr P w K mg base (L2.CX P w) 7 "best_gauge" ["waters", "leaks", "gauges"] (spBest K C)) : Pr P w K mg base CX0 8 "_law_heard" ["_law_wells_here", "_law_leaks", "_law_gauges"] (spHeard K) := by
  refine D.pr fun f fd F _ _ _ => F.ok sc__law_heard (fun vs H Q E h => by obtain ⟨_, _, _, _, _, _, rfl, _⟩ := h; rfl) fun cdv A outer s H vs Q E hr h => ?_
  obtain ⟨v, u, x, ws, lks, gs, rfl, hw, hl, hg, lok, hz1, hz, hl1, hl2, hn1, hn2, hg2, q1, q2⟩ := h
  refine ⟨_, (pss_one (ps_try_as (i := 3) (tb := fun W => tRet (tCallS (spBest K C) (WE W) (tCons (tVar 0) (tCons (tVar 1) (tCons (tVar 2) tNil))))) (ts := fun a cls d => tRet (tLst (tCons (tC (.str "place")) (tCons (tByNp C a cls d (tVar 3)) (tCons (tCB (rIsNp C a cls d) (tCons (tVar 3) (tCons (tC (.ty "LookupError")) tNil))) tNil))))) (Wout := fun _ _ _ _ => False) rfl rfl sc__law_heard.nd rfl rfl ⟨rfl, by decide, Or.inl TN.gC⟩ takes0 (fun W pn xe tk _ => pss_one (ps_ret (by exact (O_best_gauge.useS hr rfl tk (by exact (pa_cons (pv 0) (pa_cons (pv 1) (pa_cons (pv 2) pa_nil)))))))) (fun a oe cls d pn hz hf => pss_one (ps_ret (pe_lst (pa_cons pe_str (pa_cons (pe_byNp TN hz hf (pv 3)) (pa_cons (pe_callB (call_isNp TN S hz hf) (by rfl) T.isinstance (by decide +kernel) (pa_cons (pv 3) (pa_cons (pe_bltn rfl T.LookupError (by decide +kernel) rfl) pa_nil))) pa_nil)))))))), ?_⟩
  refine ⟨v, rfl, u, rfl, x, rfl, v, u, x, ws, lks, gs, rfl, hw, hl, hg, lok, hz1, hz, hl1, hl2, hn1, hn2, hg2, fun al H' p s1 hp => q1 al _ _ s1 hp, fun i hi al nin H' d s1 hd => ?_⟩
  refine ⟨true, TN.te, fun _ a0 na => ?_, fun q => Bool.noConfusion q⟩
  refine ⟨.ref a0, rfl, rfl, rfl, d, _, rfl, hd, .ref a0, rfl, rfl, rfl, ⟨d, _, rfl, hd⟩, by show 3 ≤ sizeLine; decide, fun p np => q2 i hi al nin _ _ (s1.trans (same_new (Same.refl _) np)) ?_⟩
  exact .lst (sql_of (new_of (s1.free np) upd_same)) (.cons (.str _) (.cons (.int _) (dpAll_one (.bl _))))
end
end K8
/-! What the law says by hand. -/
namespace K8
open PySem PySem.Spec PyProof.Rows L2

/-! ### tuples and lists of the law as forms that the defs take -/
section
variable {K : PySem.W.Frag} {H : Hp} {v : V}
theorem lev_wd (w : Well) : Lev 1 (wd w) := ⟨by show 5 ≤ 1000; decide, fun d hd => by
  obtain ⟨i, _, rfl⟩ := List.mem_map.mp hd
  exact trivial⟩
theorem lev_ints (ns : List Int) (h : ns.length ≤ 1000) (n : Nat) : Lev (n + 1) (.tuple (ns.map .int)) := ⟨by rw [List.length_map]; exact h, fun d hd => by
  obtain ⟨i, _, rfl⟩ := List.mem_map.mp hd
  cases n <;> exact trivial⟩
theorem lev_intsL (ns : List Int) (h : ns.length ≤ 1000) (n : Nat) : Lev (n + 1) (.list (ns.map .int)) := ⟨by rw [List.length_map]; exact h, fun d hd => by
  obtain ⟨i, _, rfl⟩ := List.mem_map.mp hd
  cases n <;> exact trivial⟩
theorem wsF_of {ws : List Well} (h : Dp K H v (wsd ws)) (l : ws.length ≤ 1000) : WsF K H v ws := by
  refine ⟨wsd ws, h, ⟨by rw [List.length_map]; exact l, fun d hd => ?_⟩, ?_⟩
  · obtain ⟨w, _, rfl⟩ := List.mem_map.mp hd
    exact lev_wd w
  · show PyData.tuple ((ws.map wd).map (tupN 1)) = .tuple (ws.map wd)
    rw [List.map_map]
    rfl
theorem wsF_ofL {ws : List Well} (h : Dp K H v (lstN 2 (wsd ws))) (l : ws.length ≤ 1000) : WsF K H v ws := by
  refine ⟨lstN 2 (wsd ws), h, ⟨by rw [List.length_map, List.length_map]; exact l, fun d hd => ?_⟩, ?_⟩
  · obtain ⟨w', h1, rfl⟩ := List.mem_map.mp hd
    obtain ⟨w, _, rfl⟩ := List.mem_map.mp h1
    exact ⟨by show 5 ≤ 1000; decide, fun d hd => by
      obtain ⟨d', h2, rfl⟩ := List.mem_map.mp hd
      obtain ⟨i, _, rfl⟩ := List.mem_map.mp h2
      exact trivial⟩
  · show PyData.tuple (((ws.map wd).map (lstN 1)).map (tupN 1)) = .tuple (ws.map wd)
    rw [List.map_map, List.map_map]
    rfl
theorem lkF_of {lk : Leak} (h : Dp K H v (lkd lk)) : LkF K H v lk := by
  refine ⟨_, h, ?_, ?_⟩
  · cases lk with
    | none => exact trivial
    | some l => exact ⟨by show 4 ≤ 1000; decide, fun d hd => by
        simp only [List.mem_cons, List.mem_nil_iff, or_false] at hd
        rcases hd with rfl | rfl | rfl | rfl <;> exact trivial⟩
  · cases lk with
    | none => rfl
    | some l => rfl
theorem lkF_ofL {lk : Leak} (h : Dp K H v (lstN 1 (lkd lk))) : LkF K H v lk := by
  refine ⟨_, h, ?_, ?_⟩
  · cases lk with
    | none => exact trivial
    | some l => exact ⟨by show 4 ≤ 1000; decide, fun d hd => by
        simp only [List.map_cons, List.map_nil, List.mem_cons, List.mem_nil_iff, or_false] at hd
        rcases hd with rfl | rfl | rfl | rfl <;> exact trivial⟩
  · cases lk with
    | none => rfl
    | some l => rfl
theorem gF_of {g : Int × Int} (h : Dp K H v (gd g)) : GF K H v g := ⟨_, h, lev_ints [g.1, g.2] (by show 2 ≤ 1000; decide) 1, rfl⟩
theorem gF_ofL {g : Int × Int} (h : Dp K H v (lstN 1 (gd g))) : GF K H v g := ⟨_, h, lev_intsL [g.1, g.2] (by show 2 ≤ 1000; decide) 1, rfl⟩
theorem sqF_of {α : Type} {R : PySem.W.Frag → Hp → V → α → Prop} {enc : α → PyData} {as : List α} (hR : ∀ v y, Dp K H v (enc y) → R K H v y) (h : Dp K H v (.tuple (as.map enc))) : SqF R K H v as := by
  obtain ⟨a, xs, rfl, ha, hx⟩ := dp_tuple h
  refine ⟨a, xs, rfl, .inr ha, by rw [dpAll_len hx, List.length_map], fun i x y h1 h2 => ?_⟩
  obtain ⟨d, e, hd⟩ := dpAll_getV hx h1
  rw [List.getElem?_map, h2] at e
  cases e
  exact hR _ _ hd
theorem sqF_ofL {α : Type} {R : PySem.W.Frag → Hp → V → α → Prop} {enc : α → PyData} {as : List α} (hR : ∀ v y, Dp K H v (enc y) → R K H v y) (h : Dp K H v (.list (as.map enc))) : SqF R K H v as := by
  obtain ⟨a, xs, rfl, ha, hx⟩ := dp_list h
  refine ⟨a, xs, rfl, .inl ha, by rw [dpAll_len hx, List.length_map], fun i x y h1 h2 => ?_⟩
  obtain ⟨d, e, hd⟩ := dpAll_getV hx h1
  rw [List.getElem?_map, h2] at e
  cases e
  exact hR _ _ hd
theorem lksF_ofL {lks : List Leak} (h : Dp K H v (lstN 2 (.tuple (lks.map lkd)))) : SqF LkF K H v lks := by
  refine sqF_ofL (enc := fun lk => lstN 1 (lkd lk)) (fun _ _ q => lkF_ofL q) ?_
  have e : lstN 2 (.tuple (lks.map lkd)) = .list (lks.map fun lk => lstN 1 (lkd lk)) := by
    show PyData.list ((lks.map lkd).map (lstN 1)) = _
    rw [List.map_map]
    rfl
  rw [← e]
  exact h
theorem gsF_ofL {gs : List (Int × Int)} (h : Dp K H v (lstN 2 (gsd gs))) : SqF GF K H v gs := by
  refine sqF_ofL (enc := fun g => lstN 1 (gd g)) (fun _ _ q => gF_ofL q) ?_
  have e : lstN 2 (gsd gs) = .list (gs.map fun g => lstN 1 (gd g)) := by
    show PyData.list ((gs.map gd).map (lstN 1)) = _
    rw [List.map_map]
    rfl
  rw [← e]
  exact h
/-- a new tuple, a new list -/
theorem tup_new {p : Addr} {xs : List V} {ds : List PyData} (n : H p = none) (h : DpAll K H xs ds) : Same H (upd H p (.tup xs)) ∧ Dp K (upd H p (.tup xs)) (.ref p) (.tuple ds) :=
  ⟨same_new (Same.refl H) n, .tup (sqt_of upd_same) (dpAll_same (same_new (Same.refl H) n) h)⟩
theorem lst_new {p : Addr} {xs : List V} {ds : List PyData} (n : H p = none) (h : DpAll K H xs ds) : Same H (upd H p (.lst xs)) ∧ Dp K (upd H p (.lst xs)) (.ref p) (.list ds) :=
  ⟨same_new (Same.refl H) n, .lst (sql_of upd_same) (dpAll_same (same_new (Same.refl H) n) h)⟩
theorem two_dp {a b : Int} : DpAll K H [.int a, .int b] [.int a, .int b] := .cons (.int a) (dpAll_one (.int b))
theorem dpAll_two {x y : V} {d e : PyData} (h1 : Dp K H x d) (h2 : Dp K H y e) : DpAll K H [x, y] [d, e] := .cons h1 (dpAll_one h2)
theorem lkOk_of {n : Nat} {lk : Leak} (h : LkOK n lk) : LeakOk n lk := by
  cases lk with
  | none => exact trivial
  | some l => exact ⟨h.1, h.2.1⟩
end
instance (n : Nat) (g : Int × Int) : Decidable (InG n g) := inferInstanceAs (Decidable (_ ∧ _))
theorem inG_all {n : Nat} {gs : List (Int × Int)} (h : ∀ g ∈ gs, InG n g) : ∀ i, i < gs.length → InG n (gs.getD i (0, 0)) := fun i hi => by
  rw [List.getD_eq_getElem?_getD, List.getElem?_eq_getElem hi]
  exact h _ (List.getElem_mem hi)
/-! ### the values by hand -/
def brookM : List Well := [⟨5, 0, 2, 9, 1⟩, ⟨3, 9, 1, 9, 0⟩, ⟨1, 9, 3, 9, 0⟩]
def lowM : Leak := some (0, 2, 4)
def midM : Leak := some (1, 2, 5)
def highM : Leak := some (2, 2, 7)
def earlyM : Leak := some (0, 2, 3)
theorem val_best1 : bestM brookM [lowM, midM, highM] [(0, 2), (1, 8), (0, 8)] = (1, 8) := by decide +kernel
theorem val_best2 : bestM brookM [lowM, earlyM, midM, highM] [(1, 8), (0, 8)] = (0, 8) := by decide +kernel
theorem val_part : partM brookM lowM midM 20 = some (5, 0) := by decide +kernel
theorem val_alike1 : alikeM brookM [lowM, midM, highM] (0, 2) = 3 := by decide +kernel
theorem val_alike2 : alikeM brookM [lowM, midM, highM] (1, 8) = 2 := by decide +kernel
section
variable {P : Program} {w : World} {K : PySem.W.Frag} {mg : Str → Option Value} {base : Heap} {C fI : Addr}
abbrev s__law_brook : Stmt := topS 28
abbrev N__law_brook : List Str := []
theorem sc__law_brook : FnScope N__law_brook [] (defScope s__law_brook) := ⟨rfl, rfl, rfl, by decide +kernel, rfl, by decide +kernel, by decide +kernel⟩
abbrev s__law_valves : Stmt := topS 29
abbrev N__law_valves : List Str := []
theorem sc__law_valves : FnScope N__law_valves [] (defScope s__law_valves) := ⟨rfl, rfl, rfl, by decide +kernel, rfl, by decide +kernel, by decide +kernel⟩
def spBrook (K : PySem.W.Frag) : Sp := fun vs H Q _ => vs = [] ∧ ∀ H' p, Same H H' → Dp K H' p (wsd brookM) → Q p H'
theorem ok__law_brook (T : Tf mg) (D : Df K mg "_law_brook" s__law_brook []) : Pr P w K mg base CX0 1 "_law_brook" [] (spBrook K) := by
  refine D.pr fun f fd F _ _ _ => F.ok sc__law_brook (fun vs H Q E h => by obtain ⟨rfl, _⟩ := h; rfl) fun cdv A outer s H vs Q E hr h => ?_
  obtain ⟨rfl, q⟩ := h
  refine ⟨_, (pss_one (ps_ret (pe_tup (pa_cons (pe_tup (pa_cons pe_int (pa_cons pe_int (pa_cons pe_int (pa_cons pe_int (pa_cons pe_int pa_nil)))))) (pa_cons (pe_tup (pa_cons pe_int (pa_cons pe_int (pa_cons pe_int (pa_cons pe_int (pa_cons pe_int pa_nil)))))) (pa_cons (pe_tup (pa_cons pe_int (pa_cons pe_int (pa_cons pe_int (pa_cons pe_int (pa_cons pe_int pa_nil)))))) pa_nil)))))), ?_⟩
  refine ⟨by show 5 ≤ sizeLine; decide, fun a1 n1 => ⟨by show 5 ≤ sizeLine; decide, fun a2 n2 => ⟨by show 5 ≤ sizeLine; decide, fun a3 n3 => ⟨by show 3 ≤ sizeLine; decide, fun a4 n4 => ?_⟩⟩⟩⟩
  obtain ⟨s1, d1⟩ := tup_new n1 (ints_dpAll (K := K) [5, 0, 2, 9, 1])
  obtain ⟨s2, d2⟩ := tup_new n2 (ints_dpAll (K := K) [3, 9, 1, 9, 0])
  obtain ⟨s3, d3⟩ := tup_new n3 (ints_dpAll (K := K) [1, 9, 3, 9, 0])
  obtain ⟨s4, d4⟩ := tup_new n4 (.cons (dp_same (s2.trans s3) d1) (dpAll_two (dp_same s3 d2) d3))
  exact q _ _ (s1.trans (s2.trans (s3.trans s4))) d4
def spValves (K : PySem.W.Frag) : Sp := fun vs H Q _ => vs = [] ∧ ∀ H' p, Same H H' → Dp K H' p (.tuple [lkd lowM, lkd midM, lkd highM]) → Q p H'
theorem lk_new {H : Hp} (k m t : Int) : DpAll K H [.str "valve", .int k, .int m, .int t] [.str "valve", .int k, .int m, .int t] := .cons (.str _) (.cons (.int k) two_dp)
theorem ok__law_valves (T : Tf mg) (D : Df K mg "_law_valves" s__law_valves []) : Pr P w K mg base CX0 1 "_law_valves" [] (spValves K) := by
  refine D.pr fun f fd F _ _ _ => F.ok sc__law_valves (fun vs H Q E h => by obtain ⟨rfl, _⟩ := h; rfl) fun cdv A outer s H vs Q E hr h => ?_
  obtain ⟨rfl, q⟩ := h
  refine ⟨_, (pss_one (ps_ret (pe_tup (pa_cons (pe_tup (pa_cons pe_str (pa_cons pe_int (pa_cons pe_int (pa_cons pe_int pa_nil))))) (pa_cons (pe_tup (pa_cons pe_str (pa_cons pe_int (pa_cons pe_int (pa_cons pe_int pa_nil))))) (pa_cons (pe_tup (pa_cons pe_str (pa_cons pe_int (pa_cons pe_int (pa_cons pe_int pa_nil))))) pa_nil)))))), ?_⟩
  refine ⟨by show 4 ≤ sizeLine; decide, fun a1 n1 => ⟨by show 4 ≤ sizeLine; decide, fun a2 n2 => ⟨by show 4 ≤ sizeLine; decide, fun a3 n3 => ⟨by show 3 ≤ sizeLine; decide, fun a4 n4 => ?_⟩⟩⟩⟩
  obtain ⟨s1, d1⟩ := tup_new n1 (lk_new (K := K) 0 2 4)
  obtain ⟨s2, d2⟩ := tup_new n2 (lk_new (K := K) 1 2 5)
  obtain ⟨s3, d3⟩ := tup_new n3 (lk_new (K := K) 2 2 7)
  obtain ⟨s4, d4⟩ := tup_new n4 (.cons (dp_same (s2.trans s3) d1) (dpAll_two (dp_same s3 d2) d3))
  exact q _ _ (s1.trans (s2.trans (s3.trans s4))) d4
end
end K8
/-! What the law says by hand. -/
namespace K8
open PySem PySem.Spec PyProof.Rows L2

section
variable {P : Program} {w : World} {K : PySem.W.Frag} {mg : Str → Option Value} {base : Heap} {C fI : Addr}
abbrev s__law_by_hand_right : Stmt := topS 36
abbrev N__law_by_hand_right : List Str := ["_law_brook_here", "_law_low", "_law_middle", "_law_high", "_law_early", "_law_got", "_law_own"]
theorem sc__law_by_hand_right : FnScope N__law_by_hand_right [] (defScope s__law_by_hand_right) := ⟨rfl, rfl, rfl, by decide +kernel, rfl, by decide +kernel, by decide +kernel⟩
def spHand (K : PySem.W.Frag) : Sp := fun vs H Q _ => vs = [] ∧ ∀ H', Same H H' → Q (.bl true) H'
def gs1 : List (Int × Int) := [(0, 2), (1, 8), (0, 8)]
def gs2 : List (Int × Int) := [(1, 8), (0, 8)]
def gs3 : List (Int × Int) := [(0, 2), (7, 2)]
def gs4 : List (Int × Int) := [(0, 2), (1, 8)]
def dueH : List PyData := [gd (1, 8), gd (0, 8), .list [.str "place", .int 7, .bool true], .tuple [.int 5, .int 0], .int 3, .int 2]
theorem wok_brook : WOK brookM := fun w hw => by
  simp only [brookM, List.mem_cons, List.mem_nil_iff, or_false] at hw
  rcases hw with rfl | rfl | rfl <;> exact ⟨by decide, by decide, by decide⟩
theorem lk_ok1 : ∀ lk ∈ [lowM, midM, highM], LkOK brookM.length lk := fun lk h => by
  simp only [List.mem_cons, List.mem_nil_iff, or_false] at h
  rcases h with rfl | rfl | rfl <;> exact ⟨by decide, by decide, by decide⟩
theorem lk_ok2 : ∀ lk ∈ [lowM, earlyM, midM, highM], LkOK brookM.length lk := fun lk h => by
  simp only [List.mem_cons, List.mem_nil_iff, or_false] at h
  rcases h with rfl | rfl | rfl | rfl <;> exact ⟨by decide, by decide, by decide⟩
theorem ok__law_by_hand_right (T : Tf mg) (D : Df K mg "_law_by_hand_right" s__law_by_hand_right []) (O__law_brook : Pr P w K mg base CX0 1 "_law_brook" [] (spBrook K)) (O__law_valves : Pr P w K mg base CX0 1 "_law_valves" [] (spValves K))
    (O_best_gauge : Pr P w K mg base (L2.CX P w) 7 "best_gauge" ["waters", "leaks", "gauges"] (spBest K C)) (O__law_heard : Pr P w K mg base CX0 8 "_law_heard" ["_law_wells_here", "_law_leaks", "_law_gauges"] (spHeard K)) (O_parting_gauge : Pr P w K mg base CX0 5 "parting_gauge" ["waters", "leak", "other_leak", "many"] (spPart K))
    (O__law_greatest : Pr P w K mg base CX0 3 "_law_greatest" ["_law_wells_here", "_law_leaks", "_law_gauge"] (spGreat K)) (O__law_same : Pr P w K mg base CX0 3 "_law_same" ["_law_got", "_law_goal"] (spSame K 2)) :
    Pr P w K mg base CX0 9 "_law_by_hand_right" [] (spHand K) := by
  refine D.pr fun f fd F _ _ _ => F.ok sc__law_by_hand_right (fun vs H Q E h => by obtain ⟨rfl, _⟩ := h; rfl) fun cdv A outer s H vs Q E hr h => ?_
  obtain ⟨rfl, q⟩ := h
  refine ⟨_, (pss_cons (ps_asg (pe_tup (pa_cons (O__law_brook.use0 (hr.mono (by decide)) (by rfl) pass0) (pa_cons (O__law_valves.use0 (hr.mono (by decide)) (by rfl) pass0) pa_nil))) (pg_tup rfl (pgs_cons (pg_name (i := 0) sc__law_by_hand_right.nd rfl (.inr rfl)) (pgs_cons (pg_tup rfl (pgs_cons (pg_name (i := 1) sc__law_by_hand_right.nd rfl (.inr rfl)) (pgs_cons (pg_name (i := 2) sc__law_by_hand_right.nd rfl (.inr rfl)) (pgs_cons (pg_name (i := 3) sc__law_by_hand_right.nd rfl (.inr rfl)) pgs_nil)))) pgs_nil))))
    (pss_cons (ps_set (i := 4) sc__law_by_hand_right.nd rfl (.inl rfl) (pe_tup (pa_cons pe_str (pa_cons pe_int (pa_cons pe_int (pa_cons pe_int pa_nil))))))
    (pss_cons (ps_set (i := 5) sc__law_by_hand_right.nd rfl (.inl rfl) (pe_lst (pa_cons (O_best_gauge.use (hr.mono (by decide)) (by rfl) (passes_call (E := fun _ _ _ => False) takes0 (fun _ _ _ _ h => h)) (pa_cons (pv 0) (pa_cons (pe_tup (pa_cons (pv 1) (pa_cons (pv 2) (pa_cons (pv 3) pa_nil)))) (pa_cons (pe_tup (pa_cons (pe_tup (pa_cons pe_int (pa_cons pe_int pa_nil))) (pa_cons (pe_tup (pa_cons pe_int (pa_cons pe_int pa_nil))) (pa_cons (pe_tup (pa_cons pe_int (pa_cons pe_int pa_nil))) pa_nil)))) pa_nil)))) (pa_cons (O_best_gauge.use (hr.mono (by decide)) (by rfl) (passes_call (E := fun _ _ _ => False) takes0 (fun _ _ _ _ h => h)) (pa_cons (pv 0) (pa_cons (pe_tup (pa_cons (pv 1) (pa_cons (pv 4) (pa_cons (pv 2) (pa_cons (pv 3) pa_nil))))) (pa_cons (pe_tup (pa_cons (pe_tup (pa_cons pe_int (pa_cons pe_int pa_nil))) (pa_cons (pe_tup (pa_cons pe_int (pa_cons pe_int pa_nil))) pa_nil))) pa_nil)))) pa_nil))))
    (pss_cons (ps_set (i := 5) sc__law_by_hand_right.nd rfl (.inl rfl) (pe_op op_cat (pv 5) (pe_lst (pa_cons (O__law_heard.use hr (by rfl) pass0 (pa_cons (pv 0) (pa_cons (pe_tup (pa_cons (pv 1) pa_nil)) (pa_cons (pe_tup (pa_cons (pe_tup (pa_cons pe_int (pa_cons pe_int pa_nil))) (pa_cons (pe_tup (pa_cons pe_int (pa_cons pe_int pa_nil))) pa_nil))) pa_nil)))) (pa_cons (O_parting_gauge.use (hr.mono (by decide)) (by rfl) pass0 (pa_cons (pv 0) (pa_cons (pv 1) (pa_cons (pv 2) (pa_cons pe_int pa_nil))))) pa_nil)))))
    (pss_cons (ps_set (i := 5) sc__law_by_hand_right.nd rfl (.inl rfl) (pe_op op_cat (pv 5) (pe_lc (own := [("_law_own", 6)]) (g := gName 6) (tt := tYes) rfl sc__law_by_hand_right.nd (pi_tup (pe_tup (pa_cons (pe_tup (pa_cons pe_int (pa_cons pe_int pa_nil))) (pa_cons (pe_tup (pa_cons pe_int (pa_cons pe_int pa_nil))) pa_nil)))) (blkOk_by (own := [("_law_own", 6)]) (N := N__law_by_hand_right) (sc := defScope s__law_by_hand_right) (by decide +kernel)) (fun _ _ _ _ _ => (pg_name (i := 6) sc__law_by_hand_right.nd rfl (.inl rfl))) (fun _ _ _ _ _ => pts_nil) (fun _ _ _ _ _ => (O__law_greatest.use (hr.mono (by decide)) (by rfl) pass0 (pa_cons (pv 0) (pa_cons (pe_tup (pa_cons (pv 1) (pa_cons (pv 2) (pa_cons (pv 3) pa_nil)))) (pa_cons (pv 6) pa_nil))))))))
    (pss_one (ps_ret (O__law_same.use (hr.mono (by decide)) (by rfl) pass0 (pa_cons (pv 5) (pa_cons (pe_lst (pa_cons (pe_tup (pa_cons pe_int (pa_cons pe_int pa_nil))) (pa_cons (pe_tup (pa_cons pe_int (pa_cons pe_int pa_nil))) (pa_cons (pe_lst (pa_cons pe_str (pa_cons pe_int (pa_cons pe_bl pa_nil)))) (pa_cons (pe_tup (pa_cons pe_int (pa_cons pe_int pa_nil))) (pa_cons pe_int (pa_cons pe_int pa_nil))))))) pa_nil)))))))))), ?_⟩
  refine ⟨rfl, fun H1 vb s1 hb => ⟨rfl, fun H2 vv s2 hv => ⟨by show 2 ≤ sizeLine; decide, fun t nt => ?_⟩⟩⟩
  obtain ⟨av, xv, rfl, hav, hxv⟩ := dp_tuple hv
  cases hxv with
  | cons dl hxv => cases hxv with
    | cons dm hxv => cases hxv with
      | cons dh hxv =>
        cases hxv
        rename_i vl vm vh
        have st : Same H2 (upd H2 t (.tup [vb, .ref av])) := same_new (Same.refl _) nt
        have et : (upd H2 t (.tup [vb, .ref av])) t = some (.tup [vb, .ref av]) := upd_same
        refine ⟨t, _, rfl, sqt_of et, rfl, _, _, rfl, _, _, rfl, av, _, rfl, same_seqT st hav, rfl, _, _, rfl, _, _, rfl, _, _, rfl, rfl, rfl, ?_⟩
        replace hb := dp_same (s2.trans st) hb
        replace dl := dp_same st dl
        replace dm := dp_same st dm
        replace dh := dp_same st dh
        generalize upd H2 t (.tup [vb, .ref av]) = H3 at *
        -- early
        refine ⟨by show 4 ≤ sizeLine; decide, fun te nte => ?_⟩
        obtain ⟨se, de⟩ := tup_new nte (lk_new (K := K) 0 2 3)
        replace hb := dp_same se hb
        replace dl := dp_same se dl
        replace dm := dp_same se dm
        replace dh := dp_same se dh
        replace de := de
        generalize upd H3 te (.tup [.str "valve", .int 0, .int 2, .int 3]) = H4 at *
        -- the first list
        refine ⟨vb, rfl, vl, rfl, vm, rfl, vh, rfl, by show 3 ≤ sizeLine; decide, fun t1 nt1 => ?_⟩
        obtain ⟨s5, d5⟩ := tup_new nt1 (.cons dl (dpAll_two dm dh))
        replace hb := dp_same s5 hb
        replace dl := dp_same s5 dl
        replace dm := dp_same s5 dm
        replace dh := dp_same s5 dh
        replace de := dp_same s5 de
        generalize upd H4 t1 (.tup [vl, vm, vh]) = H5 at *
        refine ⟨by show 2 ≤ sizeLine; decide, fun a1 n1 => ⟨by show 2 ≤ sizeLine; decide, fun a2 n2 => ⟨by show 2 ≤ sizeLine; decide, fun a3 n3 => ⟨by show 3 ≤ sizeLine; decide, fun a4 n4 => ?_⟩⟩⟩⟩
        obtain ⟨u1, e1⟩ := tup_new n1 (two_dp (K := K) (a := 0) (b := 2))
        obtain ⟨u2, e2⟩ := tup_new n2 (two_dp (K := K) (a := 1) (b := 8))
        obtain ⟨u3, e3⟩ := tup_new n3 (two_dp (K := K) (a := 0) (b := 8))
        obtain ⟨u4, e4⟩ := tup_new n4 (.cons (dp_same (u2.trans u3) e1) (dpAll_two (dp_same u3 e2) e3))
        have u14 := u1.trans (u2.trans (u3.trans u4))
        clear e1 e2 e3 u1 u2 u3 n4 n3 n2
        replace hb := dp_same u14 hb
        replace dl := dp_same u14 dl
        replace dm := dp_same u14 dm
        replace dh := dp_same u14 dh
        replace de := dp_same u14 de
        replace d5 := dp_same u14 d5
        generalize upd (upd (upd (upd H5 a1 _) a2 _) a3 _) a4 _ = H6 at *
        refine ⟨vb, .ref t1, .ref a4, brookM, [lowM, midM, highM], gs1, rfl, wsF_of hb (by decide), sqF_of (fun _ _ => lkF_of) d5, sqF_of (fun _ _ => gF_of) e4, fun lk h => lkOk_of (lk_ok1 lk h), by decide, by decide, by decide, by decide, by decide, by decide, by decide, fun _ H7 p1 s7 hp1 => ?_, fun i hi _ nin => absurd (inG_all (by decide) i hi) nin⟩
        rw [show bestM brookM [lowM, midM, highM] gs1 = (1, 8) from val_best1] at hp1
        replace hp1 := dp_same new_in hp1
        replace hb := dp_same s7 hb
        replace dl := dp_same s7 dl
        replace dm := dp_same s7 dm
        replace dh := dp_same s7 dh
        replace de := dp_same s7 de
        -- the second
        refine ⟨vb, rfl, vl, rfl, .ref te, rfl, vm, rfl, vh, rfl, by show 4 ≤ sizeLine; decide, fun t2 nt2 => ?_⟩
        obtain ⟨s8, d8⟩ := tup_new nt2 (.cons dl (.cons de (dpAll_two dm dh)))
        replace hb := dp_same s8 hb
        replace dl := dp_same s8 dl
        replace dm := dp_same s8 dm
        replace dh := dp_same s8 dh
        replace de := dp_same s8 de
        replace hp1 := dp_same s8 hp1
        generalize upd H7 t2 (.tup [vl, .ref te, vm, vh]) = H8 at *
        refine ⟨by show 2 ≤ sizeLine; decide, fun a5 n5 => ⟨by show 2 ≤ sizeLine; decide, fun a6 n6 => ⟨by show 2 ≤ sizeLine; decide, fun a7 n7 => ?_⟩⟩⟩
        obtain ⟨u5, e5⟩ := tup_new n5 (two_dp (K := K) (a := 1) (b := 8))
        obtain ⟨u6, e6⟩ := tup_new n6 (two_dp (K := K) (a := 0) (b := 8))
        obtain ⟨u7, e7⟩ := tup_new n7 (dpAll_two (dp_same u6 e5) e6)
        have u57 := u5.trans (u6.trans u7)
        clear e5 e6 u5 u6 n7 n6
        replace hb := dp_same u57 hb
        replace dl := dp_same u57 dl
        replace dm := dp_same u57 dm
        replace dh := dp_same u57 dh
        replace de := dp_same u57 de
        replace d8 := dp_same u57 d8
        replace hp1 := dp_same u57 hp1
        generalize upd (upd (upd H8 a5 _) a6 _) a7 _ = H9 at *
        refine ⟨vb, .ref t2, .ref a7, brookM, [lowM, earlyM, midM, highM], gs2, rfl, wsF_of hb (by decide), sqF_of (fun _ _ => lkF_of) d8, sqF_of (fun _ _ => gF_of) e7, fun lk h => lkOk_of (lk_ok2 lk h), by decide, by decide, by decide, by decide, by decide, by decide, by decide, fun _ H10 p2 s10 hp2 => ?_, fun i hi _ nin => absurd (inG_all (by decide) i hi) nin⟩
        rw [show bestM brookM [lowM, earlyM, midM, highM] gs2 = (0, 8) from val_best2] at hp2
        replace hp2 := dp_same new_in hp2
        replace hb := dp_same s10 hb
        replace dl := dp_same s10 dl
        replace dm := dp_same s10 dm
        replace dh := dp_same s10 dh
        replace de := dp_same s10 de
        replace hp1 := dp_same s10 hp1
        refine ⟨by show 2 ≤ sizeLine; decide, fun L1 nL1 => ?_⟩
        have sL1 : Same H10 (upd H10 L1 (.lst [p1, p2])) := same_new (Same.refl _) nL1
        have eL1 : (upd H10 L1 (.lst [p1, p2])) L1 = some (.lst [p1, p2]) := upd_same
        replace hb := dp_same sL1 hb
        replace dl := dp_same sL1 dl
        replace dm := dp_same sL1 dm
        replace dh := dp_same sL1 dh
        replace de := dp_same sL1 de
        replace hp1 := dp_same sL1 hp1
        replace hp2 := dp_same sL1 hp2
        generalize upd H10 L1 (.lst [p1, p2]) = H11 at *
        -- what is heard
        refine ⟨.ref L1, rfl, vb, rfl, vl, rfl, by show 1 ≤ sizeLine; decide, fun t3 nt3 => ?_⟩
        obtain ⟨s12, d12⟩ := tup_new nt3 (dpAll_one dl)
        replace eL1 := s12 _ _ eL1
        replace hb := dp_same s12 hb
        replace dl := dp_same s12 dl
        replace dm := dp_same s12 dm
        replace dh := dp_same s12 dh
        replace hp1 := dp_same s12 hp1
        replace hp2 := dp_same s12 hp2
        generalize upd H11 t3 (.tup [vl]) = H12 at *
        refine ⟨by show 2 ≤ sizeLine; decide, fun a8 n8 => ⟨by show 2 ≤ sizeLine; decide, fun a9 n9 => ⟨by show 2 ≤ sizeLine; decide, fun a10 n10 => ?_⟩⟩⟩
        obtain ⟨u8, e8⟩ := tup_new n8 (two_dp (K := K) (a := 0) (b := 2))
        obtain ⟨u9, e9⟩ := tup_new n9 (two_dp (K := K) (a := 7) (b := 2))
        obtain ⟨u10, e10⟩ := tup_new n10 (dpAll_two (dp_same u9 e8) e9)
        have u810 := u8.trans (u9.trans u10)
        clear e8 e9 u8 u9 n10 n9
        replace eL1 := u810 _ _ eL1
        replace hb := dp_same u810 hb
        replace dl := dp_same u810 dl
        replace dm := dp_same u810 dm
        replace dh := dp_same u810 dh
        replace d12 := dp_same u810 d12
        replace hp1 := dp_same u810 hp1
        replace hp2 := dp_same u810 hp2
        generalize upd (upd (upd H12 a8 _) a9 _) a10 _ = H13 at *
        refine ⟨vb, .ref t3, .ref a10, brookM, [lowM], gs3, rfl, wsF_of hb (by decide), sqF_of (fun _ _ => lkF_of) d12, sqF_of (fun _ _ => gF_of) e10, fun lk h => lkOk_of (lk_ok1 lk (List.mem_cons.mpr (.inl (List.mem_singleton.mp h)))), by decide, by decide, by decide, by decide, by decide, by decide, by decide, fun al => absurd (al 1 (by decide)) (by decide), fun i hi al nin H14 p3 s14 hp3 => ?_⟩
        obtain rfl : i = 1 := by
          match i, hi, nin with
          | 0, _, n => exact absurd (show InG brookM.length (gs3.getD 0 (0, 0)) by decide) n
          | 1, _, _ => rfl
          | i + 2, h, _ => exact absurd h (by show ¬ i + 2 < 2; omega)
        replace hp3 : Dp K H14 p3 (.list [.str "place", .int 7, .bool true]) := dp_same new_in hp3
        replace eL1 := s14 _ _ eL1
        replace hb := dp_same s14 hb
        replace dl := dp_same s14 dl
        replace dm := dp_same s14 dm
        replace dh := dp_same s14 dh
        replace hp1 := dp_same s14 hp1
        replace hp2 := dp_same s14 hp2
        -- where two part
        refine ⟨vb, rfl, vl, rfl, vm, rfl, vb, vl, vm, brookM, lowM, midM, 20, rfl, wsF_of hb (by decide), lkF_of dl, lkF_of dm, lkOk_of (lk_ok1 _ (by simp)), lkOk_of (lk_ok1 _ (by simp)), by decide, by decide, by decide, fun H15 p4 s15 hp4 => ?_⟩
        rw [val_part] at hp4
        replace hp4 : Dp K H15 p4 (.tuple [.int 5, .int 0]) := dp_same new_in hp4
        replace eL1 := s15 _ _ eL1
        replace hb := dp_same s15 hb
        replace dl := dp_same s15 dl
        replace dm := dp_same s15 dm
        replace dh := dp_same s15 dh
        replace hp1 := dp_same s15 hp1
        replace hp2 := dp_same s15 hp2
        replace hp3 := dp_same s15 hp3
        refine ⟨by show 2 ≤ sizeLine; decide, fun L2 nL2 => ?_⟩
        have sL2 : Same H15 (upd H15 L2 (.lst [p3, p4])) := same_new (Same.refl _) nL2
        have eL2 : (upd H15 L2 (.lst [p3, p4])) L2 = some (.lst [p3, p4]) := upd_same
        replace eL1 := sL2 _ _ eL1
        replace hb := dp_same sL2 hb
        replace dl := dp_same sL2 dl
        replace dm := dp_same sL2 dm
        replace dh := dp_same sL2 dh
        replace hp1 := dp_same sL2 hp1
        replace hp2 := dp_same sL2 hp2
        replace hp3 := dp_same sL2 hp3
        replace hp4 := dp_same sL2 hp4
        generalize upd H15 L2 (.lst [p3, p4]) = H16 at *
        refine ⟨L1, L2, _, _, rfl, rfl, eL1, eL2, by show 4 ≤ sizeLine; decide, fun L3 nL3 => ?_⟩
        have sL3 : Same H16 (upd H16 L3 (.lst ([p1, p2] ++ [p3, p4]))) := same_new (Same.refl _) nL3
        have eL3 : (upd H16 L3 (.lst ([p1, p2] ++ [p3, p4]))) L3 = some (.lst [p1, p2, p3, p4]) := upd_same
        replace hb := dp_same sL3 hb
        replace dl := dp_same sL3 dl
        replace dm := dp_same sL3 dm
        replace dh := dp_same sL3 dh
        replace hp1 := dp_same sL3 hp1
        replace hp2 := dp_same sL3 hp2
        replace hp3 := dp_same sL3 hp3
        replace hp4 := dp_same sL3 hp4
        generalize upd H16 L3 (.lst ([p1, p2] ++ [p3, p4])) = H17 at *
        -- the greatest lots
        refine ⟨.ref L3, rfl, by show 2 ≤ sizeLine; decide, fun b1 m1 => ⟨by show 2 ≤ sizeLine; decide, fun b2 m2 => ⟨by show 2 ≤ sizeLine; decide, fun b3 m3 => ?_⟩⟩⟩
        obtain ⟨w1, f1⟩ := tup_new m1 (two_dp (K := K) (a := 0) (b := 2))
        obtain ⟨w2, f2⟩ := tup_new m2 (two_dp (K := K) (a := 1) (b := 8))
        obtain ⟨w3, f3⟩ := tup_new m3 (dpAll_two (dp_same w2 f1) f2)
        have w13 := w1.trans (w2.trans w3)
        clear f1 f2 w1 w2 m3 m2
        replace eL3 := w13 _ _ eL3
        replace hb := dp_same w13 hb
        replace dl := dp_same w13 dl
        replace dm := dp_same w13 dm
        replace dh := dp_same w13 dh
        replace hp1 := dp_same w13 hp1
        replace hp2 := dp_same w13 hp2
        replace hp3 := dp_same w13 hp3
        replace hp4 := dp_same w13 hp4
        generalize upd (upd (upd H17 b1 _) b2 _) b3 _ = H18 at *
        obtain ⟨ab, xb, eab, hab, hxb⟩ := dp_tuple f3
        cases eab
        have lxb : xb.length = 2 := dpAll_len hxb
        refine ⟨b3, rfl, ⟨_, hab⟩, fun Dl nD => ?_⟩
        refine lc_it (walk_tup (xs := xb)) (Pv := fun i Hc => Same H18 Hc ∧ Hc Dl = some (.lst (firstV (fun j => alikeM brookM [lowM, midM, highM] (gs4.getD j (0, 0))) i))) ⟨same_new (Same.refl _) nD, upd_same⟩ (fun i Hc _ p => same_seqT p.1 hab) (fun i y Hc H' hi p yy => ?_) fun Hc p => ?_
        · obtain ⟨sc, eD⟩ := p
          obtain ⟨e0, yy⟩ := yy
          subst e0
          have hi' : i < gs4.length := by rw [lxb] at hi; exact hi
          have hy : Dp K H' y (gd (gs4.getD i (0, 0))) := by
            obtain ⟨d, e1, hd⟩ := dpAll_getV hxb yy
            have e2 : ([gd (0, 2), gd (1, 8)] : List PyData)[i]? = some d := e1
            have e3 : d = gd (gs4.getD i (0, 0)) := by
              match i, hi', e2 with
              | 0, _, e => exact (Option.some.inj e).symm
              | 1, _, e => exact (Option.some.inj e).symm
              | i + 2, h, _ => exact absurd h (by show ¬ i + 2 < 2; omega)
            rw [← e3]
            exact dp_same sc hd
          refine ⟨rfl, vb, rfl, vl, rfl, vm, rfl, vh, rfl, by show 3 ≤ sizeLine; decide, fun t nt => ?_⟩
          obtain ⟨sx, dx⟩ := tup_new nt (.cons (dp_same sc dl) (dpAll_two (dp_same sc dm) (dp_same sc dh)))
          have g2 : ∀ g ∈ gs4, 0 ≤ g.2 ∧ g.2 ≤ 900 := by decide
          have gm : gs4.getD i (0, 0) ∈ gs4 := by
            rw [List.getD_eq_getElem?_getD, List.getElem?_eq_getElem hi']
            exact List.getElem_mem hi'
          refine ⟨y, rfl, vb, .ref t, y, brookM, [lowM, midM, highM], gs4.getD i (0, 0), rfl, dp_same (sc.trans sx) hb, dx, dp_same sx hy, by decide, by decide, wok_brook, lk_ok1, by decide, by decide, inG_all (by decide) i hi', (g2 _ gm).1, (g2 _ gm).2, fun H19 s19 => ?_⟩
          refine ⟨_, (sx.trans s19) _ _ eD, ?_, same_put (sc.trans (sx.trans s19)) nD, ?_⟩
          · rw [firstV_len]
            exact small1000 (by omega)
          · rw [upd_same, firstV_succ]
        · obtain ⟨sc, eD⟩ := p
          rw [lxb] at eD
          have ev : firstV (fun j => alikeM brookM [lowM, midM, highM] (gs4.getD j (0, 0))) 2 = [.int 3, .int 2] := by
            show [V.int (alikeM brookM [lowM, midM, highM] (0, 2)), V.int (alikeM brookM [lowM, midM, highM] (1, 8))] = _
            rw [val_alike1, val_alike2]
          rw [ev] at eD
          replace eL3 := sc _ _ eL3
          replace hp1 := dp_same sc hp1
          replace hp2 := dp_same sc hp2
          replace hp3 := dp_same sc hp3
          replace hp4 := dp_same sc hp4
          refine ⟨L3, Dl, _, _, rfl, rfl, eL3, eD, by show 6 ≤ sizeLine; decide, fun L4 nL4 => ?_⟩
          obtain ⟨sL4, dL4⟩ := lst_new (K := K) (xs := [p1, p2, p3, p4, .int 3, .int 2]) (ds := dueH) nL4 (.cons hp1 (.cons hp2 (.cons hp3 (.cons hp4 two_dp))))
          -- all is so
          refine ⟨.ref L4, rfl, by show 2 ≤ sizeLine; decide, fun c1 k1 => ⟨by show 2 ≤ sizeLine; decide, fun c2 k2 => ⟨by show 3 ≤ sizeLine; decide, fun c3 k3 => ⟨by show 2 ≤ sizeLine; decide, fun c4 k4 => ⟨by show 6 ≤ sizeLine; decide, fun c5 k5 => ?_⟩⟩⟩⟩⟩
          obtain ⟨x1, y1⟩ := tup_new k1 (two_dp (K := K) (a := 1) (b := 8))
          obtain ⟨x2, y2⟩ := tup_new k2 (two_dp (K := K) (a := 0) (b := 8))
          obtain ⟨x3, y3⟩ := lst_new (K := K) (xs := [.str "place", .int 7, .bl true]) (ds := [.str "place", .int 7, .bool true]) k3 (.cons (.str _) (dpAll_two (.int _) (.bl _)))
          obtain ⟨x4, y4⟩ := tup_new k4 (two_dp (K := K) (a := 5) (b := 0))
          obtain ⟨x5, y5⟩ := lst_new (K := K) (xs := [.ref c1, .ref c2, .ref c3, .ref c4, .int 3, .int 2]) (ds := dueH) k5 (.cons (dp_same (x2.trans (x3.trans x4)) y1) (.cons (dp_same (x3.trans x4) y2) (.cons (dp_same x4 y3) (.cons y4 two_dp))))
          refine ⟨.ref L4, .ref c5, .list dueH, rfl, dp_same (x1.trans (x2.trans (x3.trans (x4.trans x5)))) dL4, y5, ⟨by decide, fun d hd => ?_⟩, fun H' s' => q H' (s1.trans (s2.trans (st.trans (se.trans (s5.trans (u14.trans (s7.trans (s8.trans (u57.trans (s10.trans (sL1.trans (s12.trans (u810.trans (s14.trans (s15.trans (sL2.trans (sL3.trans (w13.trans (sc.trans (sL4.trans (x1.trans (x2.trans (x3.trans (x4.trans (x5.trans s')))))))))))))))))))))))))⟩
          simp only [dueH, List.mem_cons, List.mem_nil_iff, or_false] at hd
          rcases hd with rfl | rfl | rfl | rfl | rfl | rfl
          · exact lev_ints [1, 8] (by decide) 0
          · exact lev_ints [0, 8] (by decide) 0
          · exact ⟨by decide, fun d hd => by
              simp only [List.mem_cons, List.mem_nil_iff, or_false] at hd
              rcases hd with rfl | rfl | rfl <;> exact trivial⟩
          · exact lev_ints [5, 0] (by decide) 0
          · exact trivial
          · exact trivial
end
end K8
/-! Plain facts for the law's own comparison: the places that are unlike, the first that has the least. -/
namespace K8
open PySem L2
theorem least_nat {p : Nat → Prop} : ∀ n, p n → ∃ m, p m ∧ ∀ k, k < m → ¬ p k := by
  intro n
  induction n using Nat.strongRecOn with
  | ind n ih =>
    intro h
    by_cases c : ∃ k, k < n ∧ p k
    · obtain ⟨k, hk, hp⟩ := c
      exact ih k hk hp
    · exact ⟨n, h, fun k hk hp => c ⟨k, hk, hp⟩⟩
/-- the places in the first i rows -/
def unl (a b : Nat → List Int) (n i : Nat) : List (Nat × Nat) := (List.range i).flatMap fun r => ((List.range n).filter fun k => (a r).getD k 0 != (b r).getD k 0).map fun k => (r, k)
def rowU (a b : Nat → List Int) (r n : Nat) : List (Nat × Nat) := ((List.range n).filter fun k => (a r).getD k 0 != (b r).getD k 0).map fun k => (r, k)
theorem unl_succ (a b : Nat → List Int) (n i : Nat) : unl a b n (i + 1) = unl a b n i ++ rowU a b i n := by
  unfold unl rowU
  rw [List.range_succ, List.flatMap_append]
  simp
theorem rowU_succ (a b : Nat → List Int) (r n : Nat) : rowU a b r (n + 1) = rowU a b r n ++ (if (a r).getD n 0 != (b r).getD n 0 then [(r, n)] else []) := by
  unfold rowU
  rw [List.range_succ, List.filter_append, List.map_append]
  congr 1
  by_cases c : ((a r).getD n 0 != (b r).getD n 0) = true
  · rw [if_pos c, List.filter_cons, if_pos c]
    rfl
  · rw [if_neg c, List.filter_cons, if_neg c]
    rfl
theorem rowU_len (a b : Nat → List Int) (r n : Nat) : (rowU a b r n).length ≤ n := by
  unfold rowU
  rw [List.length_map]
  refine Nat.le_trans (List.length_filter_le _ _) ?_
  rw [List.length_range]
  exact Nat.le_refl _
theorem unl_len (a b : Nat → List Int) (n : Nat) : ∀ i, (unl a b n i).length ≤ i * n
  | 0 => Nat.zero_le _
  | i + 1 => by
    rw [unl_succ, List.length_append, Nat.succ_mul]
    have := unl_len a b n i
    have := rowU_len a b i n
    omega
theorem mem_unl {a b : Nat → List Int} {n m : Nat} {p : Nat × Nat} (h : p ∈ unlikeM a b n m) : p.1 ≤ m ∧ p.2 < n ∧ ¬ (a p.1).getD p.2 0 = (b p.1).getD p.2 0 := by
  unfold unlikeM at h
  obtain ⟨r, hr, h⟩ := List.mem_flatMap.mp h
  obtain ⟨k, hk, rfl⟩ := List.mem_map.mp h
  obtain ⟨hk1, hk2⟩ := List.mem_filter.mp hk
  have := List.mem_range.mp hr
  exact ⟨by show r ≤ m; omega, List.mem_range.mp hk1, bne_iff_ne.mp hk2⟩
/-- the first place that is unlike: no other comes before it -/
theorem unlike_first {a b : Nat → List Int} {n m : Nat} {x : Nat × Nat} {xs : List (Nat × Nat)} (h : unlikeM a b n m = x :: xs) : ∀ y ∈ xs, HT.lexLt [((y.1 : Nat) : Int), ((y.2 : Nat) : Int)] [((x.1 : Nat) : Int), ((x.2 : Nat) : Int)] = false := by
  have hx := mem_unl (a := a) (b := b) (n := n) (m := m) (p := x) (by rw [h]; exact List.mem_cons_self)
  obtain ⟨i, hi, hi2⟩ := least_nat (p := fun r => ∃ k, k < n ∧ ¬ (a r).getD k 0 = (b r).getD k 0) x.1 ⟨x.2, hx.2.1, hx.2.2⟩
  obtain ⟨k, hk, hd⟩ := hi
  obtain ⟨j, ⟨hj, hjd⟩, hj2⟩ := least_nat (p := fun k => k < n ∧ ¬ (a i).getD k 0 = (b i).getD k 0) k ⟨hk, hd⟩
  have him : i ≤ m := by
    have : ¬ x.1 < i := fun z => hi2 x.1 z ⟨x.2, hx.2.1, hx.2.2⟩
    omega
  have hh := unlike_at (a := a) (b := b) (n := n) (m := m) (i := i) (j := j) (fun r hr k hk => Classical.byContradiction fun z => hi2 r hr ⟨k, hk, z⟩) him (fun k hk => Classical.byContradiction fun z => hj2 k hk ⟨by omega, z⟩) hj hjd
  rw [h] at hh
  have ex : x = (i, j) := Option.some.inj hh
  subst ex
  intro y hy
  have q := mem_unl (a := a) (b := b) (n := n) (m := m) (p := y) (by rw [h]; exact List.mem_cons_of_mem _ hy)
  have c1 : ¬ y.1 < i := fun z => hi2 y.1 z ⟨y.2, q.2.1, q.2.2⟩
  show (if ((y.1 : Nat) : Int) = ((i : Nat) : Int) then (if ((y.2 : Nat) : Int) = ((j : Nat) : Int) then false else decide (((y.2 : Nat) : Int) < ((j : Nat) : Int))) else decide (((y.1 : Nat) : Int) < ((i : Nat) : Int))) = false
  by_cases e : y.1 = i
  · rw [if_pos (by omega)]
    by_cases e2 : y.2 = j
    · rw [if_pos (by omega)]
    · rw [if_neg (by omega)]
      refine decide_eq_false fun z => hj2 y.2 (by omega) ⟨q.2.1, ?_⟩
      rw [← e]
      exact q.2.2
  · rw [if_neg (by omega)]
    exact decide_eq_false (by omega)
theorem unlike_comm (a b : Nat → List Int) (n m : Nat) : unlikeM a b n m = unlikeM b a n m := by
  unfold unlikeM
  refine congrArg (fun f => (List.range (m + 1)).flatMap f) (funext fun r => ?_)
  refine congrArg (fun f => ((List.range n).filter f).map fun k => (r, k)) (funext fun k => ?_)
  exact bne_comm
theorem unlike_self (a : Nat → List Int) (n m : Nat) : (unlikeM a a n m).head? = none := unlike_none fun _ _ _ _ => rfl
theorem part_comm (ws : List Well) (l1 l2 : Leak) (m : Nat) : partM ws l2 l1 m = partM ws l1 l2 m := by
  unfold partM
  rw [unlike_comm]
theorem part_self (ws : List Well) (l : Leak) (m : Nat) : partM ws l l m = none := unlike_self _ _ _
def pairD (p : Nat × Nat) : PyData := .tuple [.int (p.1 : Nat), .int (p.2 : Nat)]
theorem pairs_lay : ∀ ps : List (Nat × Nat), PyData.canLayAll0 (ps.map pairD) = true ∧ PyData.depthAll (ps.map pairD) ≤ 1
  | [] => ⟨by simp [PyData.canLayAll0], by simp [PyData.depthAll]⟩
  | p :: ps => by
    obtain ⟨h1, h2⟩ := pairs_lay ps
    refine ⟨?_, ?_⟩
    · simp [PyData.canLayAll0, pairD, PyData.canLay0, h1]
    · rw [List.map_cons]
      simp [PyData.depthAll, pairD, PyData.depth]
      omega
theorem pairs_shaped (ps : List (Nat × Nat)) : SeqAt.shaped (.list (ps.map pairD)) = true := by
  obtain ⟨h1, h2⟩ := pairs_lay ps
  unfold SeqAt.shaped
  rw [Bool.and_eq_true_iff]
  refine ⟨?_, decide_eq_true ?_⟩
  · simp [PyData.canLay0, h1]
  · simp [PyData.depth]
    omega
theorem eqv_nil : ∀ ds : List PyData, PyData.eqv (.list ds) (.list []) = ds.isEmpty
  | [] => by simp [PyData.eqv, PyData.eqvAll]
  | d :: ds => by simp [PyData.eqv, PyData.eqvAll]
/-- the places of the least, in their order -/
def minsM (cs : List Int) (i : Nat) : List V := ((List.range i).filter fun k => cs.getD k 0 == minL cs).map fun k => .int (k : Nat)
theorem minsM_succ (cs : List Int) (i : Nat) : minsM cs (i + 1) = minsM cs i ++ (if cs.getD i 0 == minL cs then [.int (i : Nat)] else []) := by
  unfold minsM
  rw [List.range_succ, List.filter_append, List.map_append]
  congr 1
  by_cases c : (cs.getD i 0 == minL cs) = true
  · rw [if_pos c, List.filter_cons, if_pos c]
    rfl
  · rw [if_neg c, List.filter_cons, if_neg c]
    rfl
theorem minsM_len (cs : List Int) (i : Nat) : (minsM cs i).length ≤ i := by
  unfold minsM
  rw [List.length_map]
  refine Nat.le_trans (List.length_filter_le _ _) ?_
  rw [List.length_range]
  exact Nat.le_refl _
theorem minsM_first {cs : List Int} (h : cs ≠ []) : (minsM cs cs.length)[0]? = some (.int (firstMin cs : Nat)) := by
  obtain ⟨f1, f2, f3⟩ := firstMin_spec h
  unfold minsM
  rw [range_cut f1, List.filter_append, List.filter_cons]
  have e : (List.range (firstMin cs)).filter (fun k => cs.getD k 0 == minL cs) = [] := by
    rw [List.filter_eq_nil_iff]
    intro k hk
    rw [beq_eq_false_iff_ne.mpr (f3 k (List.mem_range.mp hk))]
    exact Bool.false_ne_true
  rw [e, if_pos (by rw [f2, beq_self_eq_true])]
  rfl
end K8
/-! The law's own comparison. -/
namespace K8
open PySem PySem.Spec PyProof.Rows L2

theorem Room.u64 {k : Nat} {A : Around} (r : Room k A) : A.units + 64 < cLine := by
  have := r.un
  omega
section
variable {P : Program} {w : World} {K : PySem.W.Frag} {mg : Str → Option Value} {base : Heap} {C fI : Addr}
abbrev s__law_right : Stmt := topS 37
abbrev N__law_right : List Str := ["_law_urn", "_law_size", "_law_wells_here", "_law_leaks", "_law_gauges", "_law_counts", "_law_due", "_law_odd", "_law_got", "_law_one", "_law_two", "_law_unlike", "_law_rests", "_law_held", "_law_k", "_law_own"]
theorem sc__law_right : FnScope N__law_right ["_law_urn"] (defScope s__law_right) := ⟨rfl, rfl, rfl, by decide +kernel, rfl, by decide +kernel, by decide +kernel⟩
def spRight (K : PySem.W.Frag) : Sp := fun vs H Q _ => ∃ u, vs = [.ref u] ∧ Urn u 0 H ∧ ∀ H', Q (.bl true) H'
def pad (n : Nat) (l : List (Option V)) : List (Option V) := l ++ List.replicate (16 - l.length) none
theorem cut_one {xs : List V} (h : 1 ≤ xs.length) : cutV xs none (some 1) = xs.take 1 := by
  unfold cutV
  show List.take (min 1 xs.length - 0) xs = _
  rw [show min 1 xs.length - 0 = 1 by omega]
theorem cut_tail {xs : List V} (h : 1 ≤ xs.length) : cutV xs (some 1) none = xs.drop 1 := by
  unfold cutV
  show List.take (xs.length - min 1 xs.length) (List.drop (min 1 xs.length) xs) = _
  rw [show min 1 xs.length = 1 by omega, List.take_of_length_le (by rw [List.length_drop]; exact Nat.le_refl _)]
theorem ok__law_right (T : Tf mg) (D : Df K mg "_law_right" s__law_right ["_law_urn"]) (O__law_take : Pr P w K mg base CX0 1 "_law_take" ["_law_urn", "_law_low_so"] (spTake K)) (O__law_wells : Pr P w K mg base CX0 2 "_law_wells" ["_law_urn", "_law_many"] (spWells K)) (O__law_leak : Pr P w K mg base CX0 2 "_law_leak" ["_law_urn", "_law_many", "_law_late"] (spLeak K))
    (O__law_heard : Pr P w K mg base CX0 8 "_law_heard" ["_law_wells_here", "_law_leaks", "_law_gauges"] (spHeard K)) (O_parting_gauge : Pr P w K mg base CX0 5 "parting_gauge" ["waters", "leak", "other_leak", "many"] (spPart K)) (O__law_play : Pr P w K mg base CX0 2 "_law_play" ["_law_wells_here", "_law_leak_here", "_law_many"] (spPlay K))
    (O__law_greatest : Pr P w K mg base CX0 3 "_law_greatest" ["_law_wells_here", "_law_leaks", "_law_gauge"] (spGreat K)) (O__law_same : Pr P w K mg base CX0 3 "_law_same" ["_law_got", "_law_goal"] (spSame K 2)) (O__law_lists : Pr P w K mg base CX0 3 "_law_lists" ["_law_matter"] (spLst K 2)) :
    Pr P w K mg base CX0 9 "_law_right" ["_law_urn"] (spRight K) := by
  refine D.pr fun f fd F _ _ _ => F.ok sc__law_right (fun vs H Q E h => by obtain ⟨_, rfl, _⟩ := h; rfl) fun cdv A outer s H vs Q E hr h => ?_
  obtain ⟨u, rfl, un, q⟩ := h
  refine ⟨_, (C8.pss_cut (ps_set (i := 1) sc__law_right.nd rfl (.inr rfl) (pe_op op_add pe_int (O__law_take.use (hr.mono (by decide)) (by rfl) pass0 (pa_cons (pv 0) (pa_cons pe_int pa_nil)))))
    (pss_cons (ps_set (i := 2) sc__law_right.nd rfl (.inr rfl) (O__law_wells.use (hr.mono (by decide)) (by rfl) pass0 (pa_cons (pv 0) (pa_cons (pv 1) pa_nil))))
    (C8.pss_cut (ps_set (i := 3) sc__law_right.nd rfl (.inr rfl) (pe_callTy call_tuple_of (by rfl) T.tuple (by decide +kernel) (pa_cons (pe_lc (own := [("_law_k", 14)]) (g := gName 14) (tt := tYes) rfl sc__law_right.nd (pi_range1 (by rfl) T.range (pa_cons (pe_op op_add pe_int (O__law_take.use (hr.mono (by decide)) (by rfl) pass0 (pa_cons (pv 0) (pa_cons pe_int pa_nil)))) pa_nil)) (blkOk_by (own := [("_law_k", 14)]) (N := N__law_right) (sc := defScope s__law_right) (by decide +kernel)) (fun _ _ _ _ _ => (pg_name (i := 14) sc__law_right.nd rfl (.inl rfl))) (fun _ _ _ _ _ => pts_nil) (fun _ _ _ _ _ => (O__law_leak.use (hr.mono (by decide)) (by rfl) pass0 (pa_cons (pv 0) (pa_cons (pv 1) (pa_cons pe_int pa_nil)))))) pa_nil)))
    (C8.pss_cut (ps_set (i := 4) sc__law_right.nd rfl (.inl rfl) (pe_callTy call_tuple_of (by rfl) T.tuple (by decide +kernel) (pa_cons (pe_lc (own := [("_law_k", 14)]) (g := gName 14) (tt := tYes) rfl sc__law_right.nd (pi_range1 (by rfl) T.range (pa_cons (pe_op op_add pe_int (O__law_take.use (hr.mono (by decide)) (by rfl) pass0 (pa_cons (pv 0) (pa_cons pe_int pa_nil)))) pa_nil)) (blkOk_by (own := [("_law_k", 14)]) (N := N__law_right) (sc := defScope s__law_right) (by decide +kernel)) (fun _ _ _ _ _ => (pg_name (i := 14) sc__law_right.nd rfl (.inl rfl))) (fun _ _ _ _ _ => pts_nil) (fun _ _ _ _ _ => (pe_tup (pa_cons (O__law_take.use (hr.mono (by decide)) (by rfl) pass0 (pa_cons (pv 0) (pa_cons (pv 1) pa_nil))) (pa_cons (O__law_take.use (hr.mono (by decide)) (by rfl) pass0 (pa_cons (pv 0) (pa_cons pe_int pa_nil))) pa_nil))))) pa_nil)))
    (C8.pss_cut (ps_set (i := 5) sc__law_right.nd rfl (.inr rfl) (pe_lc (own := [("_law_own", 15)]) (g := gName 15) (tt := tYes) rfl sc__law_right.nd (pi_tup (pv 4)) (blkOk_by (own := [("_law_own", 15)]) (N := N__law_right) (sc := defScope s__law_right) (by decide +kernel)) (fun _ _ _ _ _ => (pg_name (i := 15) sc__law_right.nd rfl (.inl rfl))) (fun _ _ _ _ _ => pts_nil) (fun _ _ _ _ _ => (O__law_greatest.use (hr.mono (by decide)) (by rfl) pass0 (pa_cons (pv 2) (pa_cons (pv 3) (pa_cons (pv 15) pa_nil)))))))
    (C8.pss_cut (ps_set (i := 6) sc__law_right.nd rfl (.inl rfl) (pe_ix ix_tup (pv 4) (pe_ix ix_list (pe_lc (own := [("_law_k", 14), ("_law_own", 15)]) (g := gTup K 2 (gCons (gName 14) (gCons (gName 15) gNil))) rfl sc__law_right.nd (pi_enum (by rfl) T.enumerate (pa_cons (pv 5) pa_nil)) (blkOk_by (own := [("_law_k", 14), ("_law_own", 15)]) (N := N__law_right) (sc := defScope s__law_right) (by decide +kernel)) (fun _ _ _ _ _ => (pg_tup rfl (pgs_cons (pg_name (i := 14) sc__law_right.nd rfl (.inl rfl)) (pgs_cons (pg_name (i := 15) sc__law_right.nd rfl (.inl rfl)) pgs_nil)))) (fun _ _ _ _ _ => (pts_one (pt_cmpR op_eq (pv 15) (pe_toK (F := fun K => tCB (rMin K) _) (K := K) rfl (pe_callB (cr_min rfl) (by rfl) T.min (by decide +kernel) (pa_cons (pv 5) pa_nil))) (nomark _)))) (fun _ _ _ _ _ => (pv 14))) pe_int (fun _ _ => rfl)) (fun _ _ => rfl)))
    (C8.pss_cut (ps_set (i := 7) sc__law_right.nd rfl (.inl rfl) (pe_op op_catA (pe_op op_catA (pe_slice sl_tupA (pv 4) po_none (po_some pe_int)) (pe_tup (pa_cons (pe_tup (pa_cons (pe_op op_add (pv 1) (O__law_take.use (hr.mono (by decide)) (by rfl) pass0 (pa_cons (pv 0) (pa_cons pe_int pa_nil)))) (pa_cons pe_int pa_nil))) (pa_cons (pe_tup (pa_cons (pe_un un_neg pe_int) (pa_cons pe_int pa_nil))) pa_nil)))) (pe_slice sl_tupA (pv 4) (po_some pe_int) po_none)))
    (C8.pss_cut (ps_set (i := 8) sc__law_right.nd rfl (.inl rfl) (pe_lst (pa_cons (O__law_heard.use hr (by rfl) pass0 (pa_cons (pv 2) (pa_cons (pv 3) (pa_cons (pv 4) pa_nil)))) (pa_cons (O__law_heard.use hr (by rfl) pass0 (pa_cons (O__law_lists.use (hr.mono (by decide)) (by rfl) pass0 (pa_cons (pv 2) pa_nil)) (pa_cons (O__law_lists.use (hr.mono (by decide)) (by rfl) pass0 (pa_cons (pv 3) pa_nil)) (pa_cons (O__law_lists.use (hr.mono (by decide)) (by rfl) pass0 (pa_cons (pv 4) pa_nil)) pa_nil)))) (pa_cons (O__law_heard.use hr (by rfl) pass0 (pa_cons (pv 2) (pa_cons (pv 3) (pa_cons (pv 7) pa_nil)))) pa_nil)))))
    (C8.pss_cut (ps_if (pt_not (pt_val (O__law_same.use (hr.mono (by decide)) (by rfl) pass0 (pa_cons (pv 8) (pa_cons (pe_lst (pa_cons (pv 6) (pa_cons (pv 6) (pa_cons (pe_lst (pa_cons pe_str (pa_cons (pe_ix ix_tup (pe_ix ix_tup (pv 7) pe_int (fun _ _ => rfl)) pe_int (fun _ _ => rfl)) (pa_cons pe_bl pa_nil)))) pa_nil)))) pa_nil)))))
      (pss_one (ps_ret pe_bl))
      pss_nil)
    (C8.pss_cut (ps_asg (pe_tup (pa_cons (pe_ix ix_tup (O__law_play.use (hr.mono (by decide)) (by rfl) pass0 (pa_cons (pv 2) (pa_cons (pe_ix ix_tup (pv 3) pe_int (fun _ _ => rfl)) (pa_cons pe_int pa_nil)))) pe_int (fun _ _ => rfl)) (pa_cons (pe_ix ix_tup (O__law_play.use (hr.mono (by decide)) (by rfl) pass0 (pa_cons (pv 2) (pa_cons (pe_ix ix_tup (pv 3) pe_int (fun _ _ => rfl)) (pa_cons pe_int pa_nil)))) pe_int (fun _ _ => rfl)) pa_nil))) (pg_tup rfl (pgs_cons (pg_name (i := 9) sc__law_right.nd rfl (.inl rfl)) (pgs_cons (pg_name (i := 10) sc__law_right.nd rfl (.inr rfl)) pgs_nil))))
    (pss_cons (ps_set (i := 11) sc__law_right.nd rfl (.inl rfl) (pe_lst pa_nil))
    (C8.pss_cut (ps_for PassesOwn.never rfl (pi_enum (by rfl) T.enumerate (pa_cons (pv 9) pa_nil)) (pg_tup rfl (pgs_cons (pg_name (i := 12) sc__law_right.nd rfl (.inr rfl)) (pgs_cons (pg_name (i := 13) sc__law_right.nd rfl (.inl rfl)) pgs_nil)))
      (pss_one (ps_set (i := 11) sc__law_right.nd rfl (.inl rfl) (pe_op op_cat (pv 11) (pe_lc (own := [("_law_k", 14), ("_law_own", 15)]) (g := gTup K 2 (gCons (gName 14) (gCons (gName 15) gNil))) rfl sc__law_right.nd (pi_enumT (by rfl) T.enumerate (pa_cons (pv 13) pa_nil)) (blkOk_by (own := [("_law_k", 14), ("_law_own", 15)]) (N := N__law_right) (sc := defScope s__law_right) (by decide +kernel)) (fun _ _ _ _ _ => (pg_tup rfl (pgs_cons (pg_name (i := 14) sc__law_right.nd rfl (.inl rfl)) (pgs_cons (pg_name (i := 15) sc__law_right.nd rfl (.inl rfl)) pgs_nil)))) (fun _ _ _ _ _ => (pts_one (pt_cmpR op_ne (pv 15) (pe_ix (r := rIxT K) ix_tup (pe_ix (r := rIxL K) ix_list (pv 10) (pv 12) (fun _ _ => rfl)) (pv 14) (fun _ _ => rfl)) (nomark _)))) (fun _ _ _ _ _ => (pe_tup (pa_cons (pv 12) (pa_cons (pv 14) pa_nil)))))))))
    (pss_cons (ps_set (i := 8) sc__law_right.nd rfl (.inl rfl) (pe_lst (pa_cons (O_parting_gauge.use (hr.mono (by decide)) (by rfl) pass0 (pa_cons (pv 2) (pa_cons (pe_ix ix_tup (pv 3) pe_int (fun _ _ => rfl)) (pa_cons (pe_ix ix_tup (pv 3) pe_int (fun _ _ => rfl)) (pa_cons pe_int pa_nil))))) (pa_cons (O_parting_gauge.use (hr.mono (by decide)) (by rfl) pass0 (pa_cons (pv 2) (pa_cons (pe_ix ix_tup (pv 3) pe_int (fun _ _ => rfl)) (pa_cons (pe_ix ix_tup (pv 3) pe_int (fun _ _ => rfl)) (pa_cons pe_int pa_nil))))) (pa_cons (O_parting_gauge.use (hr.mono (by decide)) (by rfl) pass0 (pa_cons (pv 2) (pa_cons (pe_ix ix_tup (pv 3) pe_int (fun _ _ => rfl)) (pa_cons (pe_ix ix_tup (pv 3) pe_int (fun _ _ => rfl)) (pa_cons pe_int pa_nil))))) pa_nil)))))
    (pss_one (ps_ret (O__law_same.use (hr.mono (by decide)) (by rfl) pass0 (pa_cons (pv 8) (pa_cons (pe_op op_cat (pe_op op_rep (pe_lst (pa_cons (pe_ifExp (pt_cmpR (op_neD (Room.u64 hr)) (pv 11) (pe_lst pa_nil) (nomark _)) (pe_callB (cr_minT rfl (Room.u64 hr)) (by rfl) T.min (by decide +kernel) (pa_cons (pv 11) pa_nil)) pe_non) pa_nil)) pe_int) (pe_lst (pa_cons pe_non pa_nil))) pa_nil)))))))))))))))))), ?_⟩
  obtain ⟨ou, hou⟩ := urn_some un
  -- the size
  refine ⟨fun σ Hc => ∃ n : Nat, σ = [some (.ref u), some (.int (n : Nat)), none, none, none, none, none, none, none, none, none, none, none, none, none, none] ∧ 1 ≤ n ∧ n ≤ 4 ∧ Stp u H Hc ∧ Urn u 1 Hc, ?_, fun σ H1 pp => ?_⟩
  · refine ⟨.ref u, rfl, u, 4, 0, rfl, by decide, by decide, by decide, un, fun r H1 r0 r1 st1 un1 => ⟨_, _, rfl, rfl, r.toNat + 1, ?_, by omega, by omega, st1, un1⟩⟩
    show [some (V.ref u), some (V.int (1 + r)), none, none, none, none, none, none, none, none, none, none, none, none, none, none] = _
    rw [show (1 + r : Int) = ((r.toNat + 1 : Nat) : Int) by omega]
  obtain ⟨n, rfl, n1, n4, st1, un1⟩ := pp
  -- the wells
  refine ⟨.ref u, rfl, .int (n : Nat), rfl, u, n, 1, rfl, n1, n4, by decide, un1, fun H2 vw ws st2 un2 hw lw wok => ?_⟩
  replace st2 := st1.trans st2
  replace hw := dp_same (new_call st1.dm) hw
  subst lw
  -- the leaks
  refine ⟨fun σ Hc => ∃ (vl : V) (lks : List Leak), σ = [some (.ref u), some (.int (ws.length : Nat)), some vw, some vl, none, none, none, none, none, none, none, none, none, none, none, none] ∧ Stp u H2 Hc ∧ Urn u 38 Hc ∧ 2 ≤ lks.length ∧ lks.length ≤ 5 ∧ (∀ lk ∈ lks, LkOK ws.length lk) ∧ Dp K (New H Hc) vl (.tuple (lks.map lkd)), ?_, fun σ H3 pp => ?_⟩
  · refine ⟨.ref u, rfl, u, 4, 17, rfl, by decide, by decide, by decide, un2, fun r H3 r0 r1 st3 un3 => ⟨_, _, rfl, rfl, 2 + r, rfl, by omega, by omega, fun Dl nD => ?_⟩⟩
    obtain ⟨m, hm⟩ : ∃ m, m = (2 + r).toNat := ⟨_, rfl⟩
    rw [← hm]
    obtain ⟨ou3, hou3⟩ := urn_some un3
    have neD : Dl ≠ u := (ne_of_none hou3 nD).symm
    obtain ⟨A1, hA1⟩ : ∃ A1, A1 = upd H3 Dl (.lst []) := ⟨_, rfl⟩
    have a1u : A1 u = some ou3 := by rw [hA1, upd_ne neD.symm]; exact hou3
    have a1D : A1 Dl = some (.lst []) := by rw [hA1, upd_same]
    have a1H : Dom H A1 := by rw [hA1]; exact dom_upd ((st2.trans st3).dm)
    refine lc_it (walk_range (lo := 0) (n := m)) (Pv := fun i Hc => ∃ (lks : List Leak) (refs : List V), Stp u H3 Hc ∧ Urn u (18 + 4 * i) Hc ∧ Hc Dl = some (.lst refs) ∧ DpAll K (New A1 Hc) refs (lks.map lkd) ∧ Dom A1 Hc ∧ lks.length = i ∧ ∀ lk ∈ lks, LkOK ws.length lk) ?_ (fun i Hc _ p => trivial) (fun i y Hc H' hi p yy => ?_) fun Hc p => ?_
    · rw [← hA1]
      exact ⟨[], [], by rw [hA1]; exact stp_same (same_new (Same.refl _) nD), by rw [hA1]; exact urn_put un3 neD, a1D, .nil, dom_refl _, rfl, fun _ h => by cases h⟩
    · obtain ⟨lks, refs, st, un, eD, hx, dm, ll, lok⟩ := p
      obtain ⟨e0, ex⟩ := yy
      subst e0
      refine ⟨rfl, .ref u, rfl, .int (ws.length : Nat), rfl, u, ws.length, 18 + 4 * i, rfl, n1, n4, by omega, un, fun H5 p lk st5 un5 hp ok => ⟨refs, st5.kp _ _ neD eD, ?_, lks ++ [lk], refs ++ [p], stp_put (st.trans st5) nD, urn_put (urn_mono un5 (by omega)) neD, upd_same, ?_, dom_upd (dom_trans dm st5.dm), by rw [List.length_append, ll]; rfl, fun lk' h => ?_⟩⟩
      · rw [dpAll_len hx, List.length_map, ll]
        exact small1000 (by omega)
      · rw [List.map_append]
        exact dpAll_app (dpAll_same ((st5.new a1u).trans (new_put a1D)) hx) (dpAll_one (dp_same ((new_call dm).trans (new_put a1D)) hp))
      · rcases List.mem_append.mp h with h | h
        · exact lok _ h
        · rw [List.mem_singleton.mp h]
          exact ok
    · obtain ⟨lks, refs, st, un, eD, hx, dm, ll, lok⟩ := p
      refine ⟨Dl, _, rfl, .inl ⟨sql_of eD, fun p np => ⟨.ref p, lks, rfl, (st3.trans st).trans (stp_same (same_new (Same.refl _) np)), urn_mono (urn_same un (same_new (Same.refl _) np)) (by omega), by omega, by omega, lok, ?_⟩⟩⟩
      exact .tup (sqt_of (new_of (((st2.trans st3).trans st).dm p np) upd_same)) (dpAll_same ((new_less a1H).trans (new_lay np)) hx)
  obtain ⟨vl, lks, rfl, st3, un3, l2, l5, lok, hl⟩ := pp
  replace hw := dp_same (st3.new hou) hw
  replace st3 := st2.trans st3
  -- the gauges
  refine ⟨fun σ Hc => ∃ (vg : V) (gs : List (Int × Int)), σ = [some (.ref u), some (.int (ws.length : Nat)), some vw, some vl, some vg, none, none, none, none, none, none, none, none, none, none, none] ∧ Stp u H3 Hc ∧ Urn u 60 Hc ∧ 2 ≤ gs.length ∧ gs.length ≤ 5 ∧ (∀ g ∈ gs, InG ws.length g ∧ 0 ≤ g.2 ∧ g.2 ≤ 16) ∧ Dp K (New H Hc) vg (gsd gs), ?_, fun σ H4 pp => ?_⟩
  · refine ⟨.ref u, rfl, u, 4, 38, rfl, by decide, by decide, by decide, un3, fun r H4 r0 r1 st4 un4 => ⟨_, _, rfl, rfl, 2 + r, rfl, by omega, by omega, fun Dl nD => ?_⟩⟩
    obtain ⟨m, hm⟩ : ∃ m, m = (2 + r).toNat := ⟨_, rfl⟩
    rw [← hm]
    obtain ⟨ou4, hou4⟩ := urn_some un4
    have neD : Dl ≠ u := (ne_of_none hou4 nD).symm
    obtain ⟨A1, hA1⟩ : ∃ A1, A1 = upd H4 Dl (.lst []) := ⟨_, rfl⟩
    have a1u : A1 u = some ou4 := by rw [hA1, upd_ne neD.symm]; exact hou4
    have a1D : A1 Dl = some (.lst []) := by rw [hA1, upd_same]
    have a1H : Dom H A1 := by rw [hA1]; exact dom_upd ((st3.trans st4).dm)
    refine lc_it (walk_range (lo := 0) (n := m)) (Pv := fun i Hc => ∃ (gs : List (Int × Int)) (refs : List V), Stp u H4 Hc ∧ Urn u (39 + 2 * i) Hc ∧ Hc Dl = some (.lst refs) ∧ DpAll K (New A1 Hc) refs (gs.map gd) ∧ Dom A1 Hc ∧ gs.length = i ∧ ∀ g ∈ gs, InG ws.length g ∧ 0 ≤ g.2 ∧ g.2 ≤ 16) ?_ (fun i Hc _ p => trivial) (fun i y Hc H' hi p yy => ?_) fun Hc p => ?_
    · rw [← hA1]
      exact ⟨[], [], by rw [hA1]; exact stp_same (same_new (Same.refl _) nD), by rw [hA1]; exact urn_put un4 neD, a1D, .nil, dom_refl _, rfl, fun _ h => by cases h⟩
    · obtain ⟨gs, refs, st, un, eD, hx, dm, ll, gok⟩ := p
      obtain ⟨e0, ex⟩ := yy
      subst e0
      refine ⟨rfl, .ref u, rfl, .int (ws.length : Nat), rfl, u, ws.length, 39 + 2 * i, rfl, by omega, by omega, by omega, un, fun ra H5 ra0 ra1 st5 un5 => ?_⟩
      refine ⟨.ref u, rfl, u, 17, 39 + 2 * i + 1, rfl, by decide, by decide, by omega, un5, fun rb H6 rb0 rb1 st6 un6 => ⟨by show 2 ≤ sizeLine; decide, fun t nt => ?_⟩⟩
      have st7 := (st5.trans st6).trans (stp_same (same_new (o := .tup [.int ra, .int rb]) (Same.refl _) nt))
      have nt0 : A1 t = none := dm t ((st5.trans st6).dm t nt)
      refine ⟨refs, st7.kp _ _ neD eD, ?_, gs ++ [(ra, rb)], refs ++ [.ref t], stp_put (st.trans st7) nD, urn_put (urn_mono (urn_same un6 (same_new (Same.refl _) nt)) (by omega)) neD, upd_same, ?_, dom_upd (dom_trans dm st7.dm), by rw [List.length_append, ll]; rfl, fun g h => ?_⟩
      · rw [dpAll_len hx, List.length_map, ll]
        exact small1000 (by omega)
      · rw [List.map_append]
        exact dpAll_app (dpAll_same ((st7.new a1u).trans (new_put a1D)) hx) (dpAll_one (dp_same (new_put a1D) (.tup (sqt_of (new_of nt0 upd_same)) two_dp)))
      · rcases List.mem_append.mp h with h | h
        · exact gok _ h
        · rw [List.mem_singleton.mp h]
          exact ⟨⟨ra0, ra1⟩, rb0, by show rb ≤ 16; omega⟩
    · obtain ⟨gs, refs, st, un, eD, hx, dm, ll, gok⟩ := p
      refine ⟨Dl, _, rfl, .inl ⟨sql_of eD, fun p np => ⟨.ref p, gs, rfl, (st4.trans st).trans (stp_same (same_new (Same.refl _) np)), urn_mono (urn_same un (same_new (Same.refl _) np)) (by omega), by omega, by omega, gok, ?_⟩⟩⟩
      exact .tup (sqt_of (new_of (((st3.trans st4).trans st).dm p np) upd_same)) (dpAll_same ((new_less a1H).trans (new_lay np)) hx)
  obtain ⟨vg, gs, rfl, st4, un4, g2, g5, gok, hg⟩ := pp
  replace hw := dp_same (st4.new hou) hw
  replace hl := dp_same (st4.new hou) hl
  replace st4 := st3.trans st4
  -- the counts
  refine ⟨fun σ Hc => ∃ (cl : Addr), σ = [some (.ref u), some (.int (ws.length : Nat)), some vw, some vl, some vg, some (.ref cl), none, none, none, none, none, none, none, none, none, none] ∧ Same H4 Hc ∧ Hc cl = some (.lst ((gs.map (alikeM ws lks)).map V.int)), ?_, fun σ H5 pp => ?_⟩
  · obtain ⟨ag, xg, rfl, hag, hxg⟩ := dp_tuple hg
    have lxg : xg.length = gs.length := by rw [dpAll_len hxg, List.length_map]
    have hag4 := same_seqT new_in hag
    have gAt : ∀ i, i < gs.length → gs[i]? = some (gs.getD i (0, 0)) := fun i h => by
      rw [List.getD_eq_getElem?_getD, List.getElem?_eq_getElem h]
      rfl
    refine ⟨.ref ag, rfl, ag, rfl, ⟨_, hag4⟩, fun Dl nD => ?_⟩
    refine lc_it (walk_tup (xs := xg)) (Pv := fun i Hc => Same H4 Hc ∧ Hc Dl = some (.lst (firstV (fun j => alikeM ws lks (gs.getD j (0, 0))) i))) ⟨same_new (Same.refl _) nD, upd_same⟩ (fun i Hc _ p => same_seqT p.1 hag4) (fun i y Hc H' hi p yy => ?_) fun Hc p => ?_
    · obtain ⟨sc, eD⟩ := p
      obtain ⟨e0, yy⟩ := yy
      subst e0
      have hi' : i < gs.length := by omega
      obtain ⟨d, e1, hd⟩ := dpAll_getV hxg yy
      rw [List.getElem?_map, gAt i hi'] at e1
      cases e1
      have gi := gok _ (List.mem_of_getElem? (gAt i hi'))
      refine ⟨rfl, vw, rfl, vl, rfl, y, rfl, vw, vl, y, ws, lks, gs.getD i (0, 0), rfl, dp_same (new_in.trans sc) hw, dp_same (new_in.trans sc) hl, dp_same (new_in.trans sc) hd, n1, by omega, wok, lok, by omega, by omega, gi.1, gi.2.1, by omega, fun H6 s6 => ⟨_, s6 _ _ eD, ?_, same_put (sc.trans s6) nD, ?_⟩⟩
      · rw [firstV_len]
        exact small1000 (by omega)
      · rw [upd_same, firstV_succ]
    · obtain ⟨sc, eD⟩ := p
      refine ⟨Dl, rfl, sc, ?_⟩
      rw [eD, lxg, firstV_map, map_range_getD (fun g => alikeM ws lks g)]
  obtain ⟨cl, rfl, s5, ec⟩ := pp
  replace hw := dp_same (new_same s5) hw
  replace hl := dp_same (new_same s5) hl
  replace hg := dp_same (new_same s5) hg
  replace st5 := st4.trans (stp_same s5)
  replace un5 := urn_same un4 s5
  clear un4 un3 un2 un1 un
  -- the due gauge
  refine ⟨fun σ Hc => ∃ (vd : V), σ = [some (.ref u), some (.int (ws.length : Nat)), some vw, some vl, some vg, some (.ref cl), some vd, none, none, none, none, none, none, none, none, none] ∧ Same H5 Hc ∧ Dp K (New H Hc) vd (gd (bestM ws lks gs)), ?_, fun σ H6 pp => ?_⟩
  · obtain ⟨ag, xg, rfl, hag, hxg⟩ := dp_tuple hg
    have lxg : xg.length = gs.length := by rw [dpAll_len hxg, List.length_map]
    have hag5 := same_seqT new_in hag
    unfold bestM
    have lcs : (gs.map (alikeM ws lks)).length = gs.length := List.length_map _
    generalize gs.map (alikeM ws lks) = cs at *
    have cne : cs ≠ [] := fun e => by
      rw [e] at lcs
      have lcs : 0 = gs.length := lcs
      omega
    obtain ⟨f1, f2, f3⟩ := firstMin_spec cne
    refine ⟨.ref ag, rfl, .ref cl, rfl, cl, _, rfl, sql_of ec, fun Dl nD => ?_⟩
    have ncD : cl ≠ Dl := ne_of_none ec nD
    refine lc_it (walk_enum (xs := cs.map V.int)) (Pv := fun i Hc => Same H5 Hc ∧ Hc cl = some (.lst (cs.map V.int)) ∧ Hc Dl = some (.lst (minsM cs i))) ⟨same_new (Same.refl _) nD, by rw [upd_ne ncD]; exact ec, upd_same⟩ (fun i Hc _ p => sql_of p.2.1) (fun i x Hc H' hi p y => ?_) fun Hc p => ?_
    · obtain ⟨sc, ecc, eD⟩ := p
      obtain ⟨T0, x0, x1, rfl, nT, rfl, g0, g1⟩ := y
      cases g0
      rw [List.length_map] at hi
      have ex : x1 = .int (cs.getD i 0) := Option.some.inj (g1.symm.trans (int_at hi))
      subst ex
      have sT : Same Hc (upd Hc T0 (.tup [.int (i : Nat), .int (cs.getD i 0)])) := same_new (Same.refl _) nT
      have eT : (upd Hc T0 (.tup [.int (i : Nat), .int (cs.getD i 0)])) T0 = some (.tup [.int (i : Nat), .int (cs.getD i 0)]) := upd_same
      replace sc := sc.trans sT
      replace ecc := sT _ _ ecc
      replace eD := sT _ _ eD
      generalize upd Hc T0 (.tup [.int (i : Nat), .int (cs.getD i 0)]) = H7 at *
      refine ⟨T0, _, rfl, sqt_of eT, rfl, _, _, rfl, _, _, rfl, rfl, rfl, .int (cs.getD i 0), rfl, .ref cl, rfl, cl, cs, rfl, sql_of ecc, by omega, fun mm h1 h2 => ?_⟩
      rw [minL_eq h1 h2]
      refine ⟨rfl, _, rfl, ifb (fun c => ?_) fun c => ?_⟩
      · refine ⟨.int (i : Nat), rfl, minsM cs i, eD, Nat.lt_of_le_of_lt (minsM_len cs i) (small1000 (by omega)), same_put sc nD, by rw [upd_ne ncD]; exact ecc, ?_⟩
        rw [upd_same, minsM_succ, if_pos (by rw [vi_of c, beq_self_eq_true])]
      · refine ⟨sc, ecc, ?_⟩
        rw [eD, minsM_succ, if_neg (fun z => vi_nof c (eq_of_beq z)), List.append_nil]
    · obtain ⟨sc, ecc, eD⟩ := p
      rw [List.length_map] at eD
      have hj : firstMin cs < gs.length := by omega
      obtain ⟨y, hyj⟩ : ∃ y, xg[firstMin cs]? = some y := ⟨xg[firstMin cs]'(by omega), List.getElem?_eq_getElem _⟩
      obtain ⟨d, e1, hd⟩ := dpAll_getV hxg hyj
      rw [List.getElem?_map, List.getElem?_eq_getElem hj] at e1
      cases e1
      refine ⟨Dl, _, 0, .int (firstMin cs : Nat), rfl, rfl, sql_of eD, at_as (j := 0) rfl (minsM_first cne), ag, xg, (firstMin cs : Nat), y, rfl, rfl, same_seqT sc hag5, atI_nat hyj, y, rfl, sc, ?_⟩
      rw [List.getD_eq_getElem?_getD, List.getElem?_eq_getElem hj]
      exact dp_same (new_same sc) hd
  obtain ⟨vd, rfl, s6, hd⟩ := pp
  replace hw := dp_same (new_same s6) hw
  replace hl := dp_same (new_same s6) hl
  replace hg := dp_same (new_same s6) hg
  replace st6 := st5.trans (stp_same s6)
  replace un6 := urn_same un5 s6
  clear un5 ec s5
  -- the odd gauges
  refine ⟨fun σ Hc => ∃ (vo : V) (r : Int), σ = [some (.ref u), some (.int (ws.length : Nat)), some vw, some vl, some vg, some (.ref cl), some vd, some vo, none, none, none, none, none, none, none, none] ∧ 0 ≤ r ∧ Stp u H6 Hc ∧ Dp K (New H Hc) vo (gsd (gs.getD 0 (0, 0) :: ((ws.length : Nat) + r, 3) :: (-1, 3) :: gs.drop 1)), ?_, fun σ H7 pp => ?_⟩
  · obtain ⟨ag, xg, rfl, hag, hxg⟩ := dp_tuple hg
    obtain ⟨gg0, gt, rfl⟩ : ∃ gg0 gt, gs = gg0 :: gt := by
      cases gs with
      | nil => exact absurd (show 2 ≤ 0 from g2) (by decide)
      | cons a b => exact ⟨a, b, rfl⟩
    cases hxg with
    | cons h0 ht =>
      rename_i x0 xt
      have lt : xt.length = gt.length := by rw [dpAll_len ht, List.length_map]
      have lxt : 1 ≤ xt.length := by
        have g2' : 2 ≤ gt.length + 1 := g2
        omega
      have hag6 := same_seqT new_in hag
      refine ⟨.ref ag, rfl, 1, rfl, ag, _, rfl, hag6, fun z => absurd z.2 ?_, fun _ p np => ?_⟩
      · show ¬ min 1 (xt.length + 1) = xt.length + 1
        omega
      rw [cut_one (by show 1 ≤ xt.length + 1; omega)]
      have hp0 : H p = none := st6.dm p np
      have s1 : Same H6 (upd H6 p (.tup (List.take 1 (x0 :: xt)))) := same_new (Same.refl _) np
      have e1 : (upd H6 p (.tup (List.take 1 (x0 :: xt)))) p = some (.tup [x0]) := upd_same
      have ou1 := urn_same un6 s1
      generalize upd H6 p (.tup (List.take 1 (x0 :: xt))) = G1 at *
      refine ⟨.int (ws.length : Nat), rfl, .ref u, rfl, u, 3, 60, rfl, by decide, by decide, by decide, ou1, fun r G2 r0 r1 sg2 un2 => ⟨_, _, rfl, rfl, by show 2 ≤ sizeLine; decide, fun t1 m1 => ⟨1, rfl, by show 2 ≤ sizeLine; decide, fun t2 m2 => ⟨by show 2 ≤ sizeLine; decide, fun t3 m3 => ?_⟩⟩⟩⟩
      have neu : p ≠ u := fun z => by
        obtain ⟨o, ho⟩ := urn_some un6
        rw [z, ho] at np
        cases np
      have e2 := sg2.kp _ _ neu e1
      have q1' : H t1 = none := st6.dm t1 (s1.free (sg2.dm t1 m1))
      have a1 := same_new (o := .tup [.int ((ws.length : Nat) + r), .int 3]) (Same.refl G2) m1
      have b1 : (upd G2 t1 (.tup [.int ((ws.length : Nat) + r), .int 3])) t1 = some (.tup [.int ((ws.length : Nat) + r), .int 3]) := upd_same
      replace e2 := a1 _ _ e2
      have dmG : Dom H (upd G2 t1 (.tup [.int ((ws.length : Nat) + r), .int 3])) := dom_trans st6.dm (dom_trans (dom_of s1) (dom_trans sg2.dm (dom_of a1)))
      have stG : Stp u H6 (upd G2 t1 (.tup [.int ((ws.length : Nat) + r), .int 3])) := (stp_same s1).trans (sg2.trans (stp_same a1))
      clear a1 m1 un2 sg2
      generalize upd G2 t1 (.tup [.int ((ws.length : Nat) + r), .int 3]) = G3 at *
      have q2' : H t2 = none := dmG t2 m2
      have a2 := same_new (o := .tup [.int (-1), .int 3]) (Same.refl G3) m2
      have b2 : (upd G3 t2 (.tup [.int (-1), .int 3])) t2 = some (.tup [.int (-1), .int 3]) := upd_same
      replace e2 := a2 _ _ e2
      replace b1 := a2 _ _ b1
      replace dmG := dom_trans dmG (dom_of a2)
      replace stG := stG.trans (stp_same a2)
      clear a2 m2
      generalize upd G3 t2 (.tup [.int (-1), .int 3]) = G4 at *
      have q3' : H t3 = none := dmG t3 m3
      have a3 := same_new (o := .tup [.ref t1, .ref t2]) (Same.refl G4) m3
      have b3 : (upd G4 t3 (.tup [.ref t1, .ref t2])) t3 = some (.tup [.ref t1, .ref t2]) := upd_same
      replace e2 := a3 _ _ e2
      replace b1 := a3 _ _ b1
      replace b2 := a3 _ _ b2
      replace dmG := dom_trans dmG (dom_of a3)
      replace stG := stG.trans (stp_same a3)
      clear a3 m3
      generalize upd G4 t3 (.tup [.ref t1, .ref t2]) = G5 at *
      refine ⟨p, t3, _, _, rfl, rfl, sqt_of e2, sqt_of b3, by show 3 ≤ sizeLine; decide, fun z => (by cases z), fun _ z => (by cases z), fun _ _ p2 np2 => ?_⟩
      have q4' : H p2 = none := dmG p2 np2
      have a4 := same_new (o := .tup ([x0] ++ [.ref t1, .ref t2])) (Same.refl G5) np2
      have b4 : (upd G5 p2 (.tup ([x0] ++ [.ref t1, .ref t2]))) p2 = some (.tup [x0, .ref t1, .ref t2]) := upd_same
      replace b1 := a4 _ _ b1
      replace b2 := a4 _ _ b2
      replace dmG := dom_trans dmG (dom_of a4)
      replace stG := stG.trans (stp_same a4)
      clear a4 np2
      generalize upd G5 p2 (.tup ([x0] ++ [.ref t1, .ref t2])) = G6 at *
      have hagG : SqT K (New H G6) ag (x0 :: xt) := same_seqT (stG.new hou) hag
      refine ⟨.ref ag, rfl, 1, rfl, ag, _, rfl, same_seqT new_in hagG, fun z => absurd z.1 ?_, fun _ p3 np3 => ?_⟩
      · show ¬ min 1 (xt.length + 1) = 0
        omega
      rw [cut_tail (by show 1 ≤ xt.length + 1; omega)]
      have a5 := same_new (o := .tup (List.drop 1 (x0 :: xt))) (Same.refl G6) np3
      have b5 : (upd G6 p3 (.tup (List.drop 1 (x0 :: xt)))) p3 = some (.tup xt) := upd_same
      replace b1 := a5 _ _ b1
      replace b2 := a5 _ _ b2
      replace b4 := a5 _ _ b4
      replace dmG := dom_trans dmG (dom_of a5)
      replace stG := stG.trans (stp_same a5)
      clear a5 np3 hagG
      generalize upd G6 p3 (.tup (List.drop 1 (x0 :: xt))) = G7 at *
      refine ⟨p2, p3, _, _, rfl, rfl, sqt_of b4, sqt_of b5, ?_, fun z => (by cases z), fun _ z => absurd lxt (by rw [z]; decide), fun _ _ p4 np4 => ?_⟩
      · have hk : gt.length + 1 ≤ 5 := g5
        rw [sizeLine_eq]
        show 3 + xt.length ≤ 16777216
        omega
      have a6 := same_new (o := .tup ([x0, .ref t1, .ref t2] ++ xt)) (Same.refl G7) np4
      refine ⟨.ref p4, r, rfl, r0, stG.trans (stp_same a6), ?_⟩
      refine .tup (sqt_of (new_of (dmG p4 np4) upd_same)) (.cons ?_ (.cons (.tup (sqt_of (new_of q1' (a6 _ _ b1))) two_dp) (.cons (.tup (sqt_of (new_of q2' (a6 _ _ b2))) two_dp) ?_)))
      · exact dp_same ((stG.trans (stp_same a6)).new hou) h0
      · exact dpAll_same ((stG.trans (stp_same a6)).new hou) ht
  obtain ⟨vo, r, rfl, r0, st7, ho⟩ := pp
  replace hw := dp_same ((st7.new hou).trans new_in) hw
  replace hl := dp_same ((st7.new hou).trans new_in) hl
  replace hg := dp_same ((st7.new hou).trans new_in) hg
  replace hd := dp_same ((st7.new hou).trans new_in) hd
  replace ho := dp_same new_in ho
  clear st7 st6 st5 st4 st3 st2 st1 un6 s6
  have allin : ∀ i, i < gs.length → InG ws.length (gs.getD i (0, 0)) := inG_all fun g h => (gok g h).1
  have g900 : ∀ g ∈ gs, 0 ≤ g.2 ∧ g.2 ≤ 900 := fun g h => ⟨(gok g h).2.1, by have := (gok g h).2.2; omega⟩
  have lokF : ∀ lk ∈ lks, LeakOk ws.length lk := fun lk h => lkOk_of (lok lk h)
  have lev_ws : Lev 2 (wsd ws) := by
    refine ⟨by rw [List.length_map]; omega, fun d hd => ?_⟩
    obtain ⟨w, _, rfl⟩ := List.mem_map.mp hd
    exact lev_wd w
  have lev_ls : Lev 2 (.tuple (lks.map lkd)) := by
    refine ⟨by rw [List.length_map]; omega, fun d hd => ?_⟩
    obtain ⟨lk, _, rfl⟩ := List.mem_map.mp hd
    cases lk with
    | none => exact trivial
    | some l => exact ⟨by show 4 ≤ 1000; decide, fun d hd => by
        simp only [List.mem_cons, List.mem_nil_iff, or_false] at hd
        rcases hd with rfl | rfl | rfl | rfl <;> exact trivial⟩
  have lev_gs : Lev 2 (gsd gs) := by
    refine ⟨by rw [List.length_map]; omega, fun d hd => ?_⟩
    obtain ⟨g, _, rfl⟩ := List.mem_map.mp hd
    exact lev_ints [g.1, g.2] (by show 2 ≤ 1000; decide) 0
  -- what is heard
  refine ⟨fun σ Hc => ∃ L, σ = [some (.ref u), some (.int (ws.length : Nat)), some vw, some vl, some vg, some (.ref cl), some vd, some vo, some (.ref L), none, none, none, none, none, none, none] ∧ Same H7 Hc ∧ Dp K Hc (.ref L) (.list [gd (bestM ws lks gs), gd (bestM ws lks gs), .list [.str "place", .int ((ws.length : Nat) + r), .bool true]]), ?_, fun σ H8 pp => ?_⟩
  · refine ⟨vw, rfl, vl, rfl, vg, rfl, vw, vl, vg, ws, lks, gs, rfl, wsF_of hw (by omega), sqF_of (fun _ _ => lkF_of) hl, sqF_of (fun _ _ => gF_of) hg, lokF, n1, by omega, by omega, by omega, by omega, by omega, g900, fun _ H8 p1 s8 hp1 => ?_, fun i hi _ nin => absurd (allin i hi) nin⟩
    replace hp1 := dp_same new_in hp1
    replace hw := dp_same s8 hw
    replace hl := dp_same s8 hl
    replace hg := dp_same s8 hg
    replace ho := dp_same s8 ho
    -- of lists
    refine ⟨vw, rfl, vw, wsd ws, rfl, hw, lev_ws, fun H9 v1 s9 h1 => ⟨vl, rfl, vl, _, rfl, dp_same s9 hl, lev_ls, fun H10 v2 s10 h2 => ⟨vg, rfl, vg, _, rfl, dp_same (s9.trans s10) hg, lev_gs, fun H11 v3 s11 h3 => ?_⟩⟩⟩
    replace h1 := dp_same (new_in.trans (s10.trans s11)) h1
    replace h2 := dp_same (new_in.trans s11) h2
    replace h3 := dp_same new_in h3
    have s91 := s9.trans (s10.trans s11)
    refine ⟨v1, v2, v3, ws, lks, gs, rfl, wsF_ofL h1 (by omega), lksF_ofL h2, gsF_ofL h3, lokF, n1, by omega, by omega, by omega, by omega, by omega, g900, fun _ H12 p2 s12 hp2 => ?_, fun i hi _ nin => absurd (allin i hi) nin⟩
    replace hp2 := dp_same new_in hp2
    have s912 := s91.trans s12
    replace hp1 := dp_same s912 hp1
    replace hw := dp_same s912 hw
    replace hl := dp_same s912 hl
    replace ho := dp_same s912 ho
    -- of the odd gauges
    refine ⟨vw, rfl, vl, rfl, vo, rfl, vw, vl, vo, ws, lks, _, rfl, wsF_of hw (by omega), sqF_of (fun _ _ => lkF_of) hl, sqF_of (fun _ _ => gF_of) ho, lokF, n1, by omega, by omega, by omega, Nat.succ_le_succ (Nat.zero_le _), ?_, ?_, fun al => absurd (al 1 ?_) ?_, fun i hi al nin H13 p3 s13 hp3 => ?_⟩
    · show (gs.drop 1).length + 1 + 1 + 1 ≤ 1000
      rw [List.length_drop]
      omega
    · intro g h
      rcases List.mem_cons.mp h with h | h
      · rw [h]
        have hi0 : 0 < gs.length := by omega
        have e0 : gs.getD 0 (0, 0) ∈ gs := by
          rw [List.getD_eq_getElem?_getD, List.getElem?_eq_getElem hi0]
          exact List.getElem_mem hi0
        exact g900 _ e0
      · rcases List.mem_cons.mp h with h | h
        · rw [h]
          exact ⟨by show (0 : Int) ≤ 3; decide, by show (3 : Int) ≤ 900; decide⟩
        · rcases List.mem_cons.mp h with h | h
          · rw [h]
            exact ⟨by show (0 : Int) ≤ 3; decide, by show (3 : Int) ≤ 900; decide⟩
          · exact g900 _ (List.mem_of_mem_drop h)
    · exact Nat.succ_lt_succ (Nat.succ_pos _)
    · intro z
      have z2 : ((ws.length : Nat) : Int) + r < (ws.length : Nat) := z.2
      omega
    · obtain rfl : i = 1 := by
        match i, al, nin with
        | 0, _, n => exact absurd (allin 0 (by omega)) n
        | 1, _, _ => rfl
        | i + 2, a, _ =>
          have z : ((ws.length : Nat) : Int) + r < (ws.length : Nat) := (a 1 (by omega)).2
          omega
      replace hp3 : Dp K H13 p3 (.list [.str "place", .int ((ws.length : Nat) + r), .bool true]) := dp_same new_in hp3
      refine ⟨by show 3 ≤ sizeLine; decide, fun L nL => ⟨L, rfl, s8.trans (s912.trans (s13.trans (same_new (Same.refl _) nL))), (lst_new nL (.cons (dp_same s13 hp1) (dpAll_two (dp_same s13 hp2) hp3))).2⟩⟩
  obtain ⟨L, rfl, s8, hL⟩ := pp
  replace hw := dp_same s8 hw
  replace hl := dp_same s8 hl
  replace hd := dp_same s8 hd
  replace ho := dp_same s8 ho
  clear hg
  -- is it so
  refine ⟨fun σ Hc => σ = [some (.ref u), some (.int (ws.length : Nat)), some vw, some vl, some vg, some (.ref cl), some vd, some vo, some (.ref L), none, none, none, none, none, none, none] ∧ Same H8 Hc, ?_, fun σ H9 pp => ?_⟩
  · obtain ⟨ao, xo, rfl, hao, hxo⟩ := dp_tuple ho
    cases hxo with
    | cons h0 hxo => cases hxo with
      | cons h1 hxo =>
        obtain ⟨o1, x1, rfl, ho1, hx1⟩ := dp_tuple h1
        have ex1 : x1 = [.int ((ws.length : Nat) + r), .int 3] := dpAll_ints (ns := [((ws.length : Nat) : Int) + r, 3]) hx1
        subst ex1
        refine ⟨.ref L, rfl, vd, rfl, vd, rfl, .ref ao, rfl, ao, _, 1, .ref o1, rfl, rfl, hao, at_as (j := 1) rfl rfl, o1, _, 0, .int ((ws.length : Nat) + r), rfl, rfl, ho1, rfl, by show 3 ≤ sizeLine; decide, fun c1 k1 => ⟨by show 3 ≤ sizeLine; decide, fun c2 k2 => ?_⟩⟩
        obtain ⟨x3, y3⟩ := lst_new (K := K) (xs := [.str "place", .int ((ws.length : Nat) + r), .bl true]) (ds := [.str "place", .int ((ws.length : Nat) + r), .bool true]) k1 (.cons (.str _) (dpAll_two (.int _) (.bl _)))
        obtain ⟨x4, y4⟩ := lst_new k2 (.cons (dp_same x3 hd) (dpAll_two (dp_same x3 hd) y3))
        refine ⟨.ref L, .ref c2, _, rfl, dp_same (x3.trans x4) hL, y4, ⟨by show 3 ≤ 1000; decide, fun d hd => ?_⟩, fun H9 s9 => ⟨true, rfl, iff' rfl ⟨rfl, x3.trans (x4.trans s9)⟩⟩⟩
        simp only [List.mem_cons, List.mem_nil_iff, or_false] at hd
        rcases hd with rfl | rfl | rfl
        · exact lev_ints [_, _] (by show 2 ≤ 1000; decide) 0
        · exact lev_ints [_, _] (by show 2 ≤ 1000; decide) 0
        · exact ⟨by show 3 ≤ 1000; decide, fun d hd => by
            simp only [List.mem_cons, List.mem_nil_iff, or_false] at hd
            rcases hd with rfl | rfl | rfl <;> exact trivial⟩
  obtain ⟨rfl, s9⟩ := pp
  replace hw := dp_same s9 hw
  replace hl := dp_same s9 hl
  clear ho hd hL s8 lev_gs lev_ls lev_ws
  -- the two plays
  obtain ⟨lk0, hlk0⟩ : ∃ lk0, lk0 = lks.getD 0 none := ⟨_, rfl⟩
  obtain ⟨lk1, hlk1⟩ : ∃ lk1, lk1 = lks.getD 1 none := ⟨_, rfl⟩
  obtain ⟨al, xl, rfl, hal, hxl⟩ := dp_tuple hl
  have at0 : ∃ y, xl[0]? = some y ∧ Dp K H9 y (lkd lk0) := by
    refine dpAll_get hxl ?_
    rw [List.getElem?_map, hlk0, List.getD_eq_getElem?_getD, List.getElem?_eq_getElem (by omega)]
    rfl
  have at1 : ∃ y, xl[1]? = some y ∧ Dp K H9 y (lkd lk1) := by
    refine dpAll_get hxl ?_
    rw [List.getElem?_map, hlk1, List.getD_eq_getElem?_getD, List.getElem?_eq_getElem (by omega)]
    rfl
  obtain ⟨y0, ey0, dy0⟩ := at0
  obtain ⟨y1, ey1, dy1⟩ := at1
  have lok0 : LkOK ws.length lk0 := by
    refine lok _ ?_
    rw [hlk0, List.getD_eq_getElem?_getD, List.getElem?_eq_getElem (by omega)]
    exact List.getElem_mem _
  have lok1 : LkOK ws.length lk1 := by
    refine lok _ ?_
    rw [hlk1, List.getD_eq_getElem?_getD, List.getElem?_eq_getElem (by omega)]
    exact List.getElem_mem _
  clear hl hxl hlk0 hlk1 lok lokF g900 allin gok
  refine ⟨fun σ Hc => ∃ a1 x1 a2 x2, σ = [some (.ref u), some (.int (ws.length : Nat)), some vw, some (.ref al), some vg, some (.ref cl), some vd, some vo, some (.ref L), some (.ref a1), some (.ref a2), none, none, none, none, none] ∧ Same H9 Hc ∧ SqL K Hc a1 x1 ∧ DpAll K Hc x1 (rowsD ws lk0 16) ∧ SqL K Hc a2 x2 ∧ DpAll K Hc x2 (rowsD ws lk1 16), ?_, fun σ H10 pp => ?_⟩
  · refine ⟨vw, rfl, .ref al, rfl, al, xl, 0, y0, rfl, rfl, hal, at_as (j := 0) rfl ey0, vw, y0, ws, lk0, 16, rfl, hw, dy0, n1, by omega, wok, lok0, by decide, fun H10 p s10 hp => ?_⟩
    obtain ⟨pa, px, rfl, hpa, hpx⟩ := dp_tuple hp
    cases hpx with
    | cons g0 hpx => cases hpx with
      | cons g1 hpx =>
        cases hpx
        obtain ⟨rb, rx, rfl, hrb, hrx⟩ := dp_list g1
        refine ⟨pa, _, 1, .ref rb, rfl, rfl, same_seqT new_in hpa, rfl, ?_⟩
        refine ⟨vw, rfl, .ref al, rfl, al, xl, 1, y1, rfl, rfl, same_seqT s10 hal, at_as (j := 1) rfl ey1, vw, y1, ws, lk1, 16, rfl, dp_same s10 hw, dp_same s10 dy1, n1, by omega, wok, lok1, by decide, fun H11 p' s11 hp' => ?_⟩
        obtain ⟨pb, pxb, rfl, hpb, hpxb⟩ := dp_tuple hp'
        cases hpxb with
        | cons g0' hpxb => cases hpxb with
          | cons g1' hpxb =>
            cases hpxb
            obtain ⟨rb', rx', rfl, hrb', hrx'⟩ := dp_list g1'
            refine ⟨pb, _, 1, .ref rb', rfl, rfl, same_seqT new_in hpb, rfl, by show 2 ≤ sizeLine; decide, fun t nt => ?_⟩
            have sT := same_new (o := .tup [.ref rb, .ref rb']) (Same.refl H11) nt
            have sA := (new_in (A := H9)).trans (s11.trans sT)
            have sB := (new_in (A := H10)).trans sT
            exact ⟨t, _, rfl, sqt_of upd_same, rfl, _, _, rfl, _, _, rfl, rfl, rb, rx, rb', rx', rfl, s10.trans (s11.trans sT), sA.seq hrb, dpAll_same sA hrx, sB.seq hrb', dpAll_same sB hrx'⟩
  obtain ⟨a1, x1, a2, x2, rfl, s10, ha1, hx1, ha2, hx2⟩ := pp
  replace hw := dp_same s10 hw
  replace hal := same_seqT s10 hal
  replace dy0 := dp_same s10 dy0
  replace dy1 := dp_same s10 dy1
  -- the unlike places
  refine ⟨Nat.zero_le _, fun ul0 nul => ?_⟩
  have sU : Same H10 (upd H10 ul0 (.lst [])) := same_new (Same.refl _) nul
  have eU : (upd H10 ul0 (.lst [])) ul0 = some (.lst []) := upd_same
  replace hw := dp_same sU hw
  replace hal := same_seqT sU hal
  replace dy0 := dp_same sU dy0
  replace dy1 := dp_same sU dy1
  replace ha1 := sU.seq ha1
  replace hx1 := dpAll_same sU hx1
  replace ha2 := sU.seq ha2
  replace hx2 := dpAll_same sU hx2
  generalize upd H10 ul0 (.lst []) = H11 at *
  refine ⟨fun σ Hc => ∃ (ul : Addr) (refs : List Addr) (y12 y13 : Option V), σ = [some (.ref u), some (.int (ws.length : Nat)), some vw, some (.ref al), some vg, some (.ref cl), some vd, some vo, some (.ref L), some (.ref a1), some (.ref a2), some (.ref ul), y12, y13, none, none] ∧ Same H11 Hc ∧ Hc ul = some (.lst (refs.map V.ref)) ∧ DpAll K Hc (refs.map V.ref) ((unlikeM (heldM ws lk0) (heldM ws lk1) ws.length 16).map pairD), ?_, fun σ H12 pp => ?_⟩
  · refine ⟨.ref a1, rfl, a1, x1, rfl, ha1, for_it (walk_enum (xs := x1)) (Pv := fun i σ Hc => ∃ (ul : Addr) (refs : List Addr) (y12 y13 : Option V), σ = [some (.ref u), some (.int (ws.length : Nat)), some vw, some (.ref al), some vg, some (.ref cl), some vd, some vo, some (.ref L), some (.ref a1), some (.ref a2), some (.ref ul), y12, y13, none, none] ∧ Same H11 Hc ∧ Hc ul = some (.lst (refs.map V.ref)) ∧ DpAll K Hc (refs.map V.ref) ((unl (heldM ws lk0) (heldM ws lk1) ws.length i).map pairD))
      ⟨ul0, [], none, none, rfl, Same.refl _, eU, .nil⟩ (fun i σ Hc _ pp => ?_) (fun i x σ Hc H' hi pp y => ?_) fun σ Hc pp => ?_⟩
    · obtain ⟨_, _, _, _, _, sc, _⟩ := pp
      exact sc.seq ha1
    · obtain ⟨ul, refs, y12, y13, rfl, sc, eul, hrf⟩ := pp
      obtain ⟨T0, x0, xx, rfl, nT, rfl, g0, g1⟩ := y
      cases g0
      rw [rows_len hx1] at hi
      obtain ⟨r1, er1, hr1⟩ := rows_at hx1 (show i ≤ 16 by omega)
      obtain ⟨r2, er2, hr2⟩ := rows_at hx2 (show i ≤ 16 by omega)
      have ex : xx = .ref r1 := Option.some.inj (g1.symm.trans er1)
      subst ex
      have sT : Same Hc (upd Hc T0 (.tup [.int (i : Nat), .ref r1])) := same_new (Same.refl _) nT
      have eT : (upd Hc T0 (.tup [.int (i : Nat), .ref r1])) T0 = some (.tup [.int (i : Nat), .ref r1]) := upd_same
      replace sc := sc.trans sT
      replace eul := sT _ _ eul
      replace hrf := dpAll_same sT hrf
      generalize upd Hc T0 (.tup [.int (i : Nat), .ref r1]) = H3' at *
      have lul : refs.length ≤ 16 * ws.length := by
        have e := dpAll_len hrf
        rw [List.length_map, List.length_map] at e
        have l := unl_len (heldM ws lk0) (heldM ws lk1) ws.length i
        have l2 : i * ws.length ≤ 16 * ws.length := Nat.mul_le_mul_right _ (by omega)
        omega
      rw [unl_succ, List.map_append]
      generalize unl (heldM ws lk0) (heldM ws lk1) ws.length i = UL at *
      refine ⟨T0, _, rfl, sqt_of eT, rfl, _, _, rfl, _, _, rfl, rfl, ?_⟩
      refine ⟨.ref ul, rfl, .ref r1, rfl, r1, _, rfl, same_seqT sc hr1, fun Dl nD => ?_⟩
      obtain ⟨A1, hA1⟩ : ∃ A1, A1 = upd H3' Dl (.lst []) := ⟨_, rfl⟩
      have a1D : A1 Dl = some (.lst []) := by rw [hA1, upd_same]
      refine lc_it (walk_enumT (xs := (heldM ws lk0 i).map V.int)) (Pv := fun j Hd => ∃ refs2 : List Addr, Same H3' Hd ∧ Hd Dl = some (.lst (refs2.map V.ref)) ∧ DpAll K (New A1 Hd) (refs2.map V.ref) ((rowU (heldM ws lk0) (heldM ws lk1) i j).map pairD) ∧ Dom A1 Hd) ?_ (fun j Hd _ p => ?_) (fun j x Hd H' hj p y => ?_) fun Hd p => ?_
      · rw [← hA1]
        exact ⟨[], by rw [hA1]; exact same_new (Same.refl _) nD, a1D, .nil, dom_refl _⟩
      · obtain ⟨_, sd, _⟩ := p
        exact same_seqT (sc.trans sd) hr1
      · obtain ⟨refs2, sd, eD, hr, dm⟩ := p
        obtain ⟨T1, x0, xx, rfl, nT1, rfl, g0, g1⟩ := y
        cases g0
        rw [List.length_map, heldM_len] at hj
        have ex : xx = .int ((heldM ws lk0 i).getD j 0) := Option.some.inj (g1.symm.trans (int_at (by rw [heldM_len]; exact hj)))
        subst ex
        have sT1 : Same Hd (upd Hd T1 (.tup [.int (j : Nat), .int ((heldM ws lk0 i).getD j 0)])) := same_new (Same.refl _) nT1
        have eT1 : (upd Hd T1 (.tup [.int (j : Nat), .int ((heldM ws lk0 i).getD j 0)])) T1 = some (.tup [.int (j : Nat), .int ((heldM ws lk0 i).getD j 0)]) := upd_same
        replace sd := sd.trans sT1
        replace eD := sT1 _ _ eD
        replace hr := dpAll_same (new_same sT1) hr
        replace dm := dom_trans dm (dom_of sT1)
        generalize upd Hd T1 (.tup [.int (j : Nat), .int ((heldM ws lk0 i).getD j 0)]) = H4' at *
        have lr2 : refs2.length ≤ j := by
          have e := dpAll_len hr
          rw [List.length_map, List.length_map] at e
          have l := rowU_len (heldM ws lk0) (heldM ws lk1) i j
          omega
        refine ⟨T1, _, rfl, sqt_of eT1, rfl, _, _, rfl, _, _, rfl, rfl, rfl, ?_⟩
        refine ⟨.int ((heldM ws lk0 i).getD j 0), rfl, .ref a2, rfl, .int (i : Nat), rfl, a2, x2, (i : Nat), .ref r2, rfl, rfl, (sc.trans sd).seq ha2, atI_nat er2, .int (j : Nat), rfl, r2, _, (j : Nat), .int ((heldM ws lk1 i).getD j 0), rfl, rfl, same_seqT (sc.trans sd) hr2, atI_nat (int_at (by rw [heldM_len]; exact hj)), ?_⟩
        rw [rowU_succ]
        refine ⟨rfl, _, rfl, ifb (fun c => ?_) fun c => ?_⟩
        · have c := vi_nof (Bool.not_eq_true' _ ▸ c)
          rw [if_pos (bne_iff_ne.mpr c)]
          refine ⟨.int (i : Nat), rfl, .int (j : Nat), rfl, by show 2 ≤ sizeLine; decide, fun t nt => ?_⟩
          have sP := same_new (o := .tup [.int (i : Nat), .int (j : Nat)]) (Same.refl H4') nt
          refine ⟨_, sP _ _ eD, ?_, refs2 ++ [t], same_put (sd.trans sP) nD, ?_, ?_, dom_upd (dom_trans dm (dom_of sP))⟩
          · rw [List.length_map]
            exact small1000 (by omega)
          · rw [upd_same, List.map_append]
            rfl
          · rw [List.map_append, List.map_append]
            exact dpAll_app (dpAll_same ((new_same sP).trans (new_put a1D)) hr) (dpAll_one (dp_same (new_put a1D) (.tup (sqt_of (new_of (dm t nt) upd_same)) two_dp)))
        · have c := vi_of (Bool.not_eq_false' _ ▸ c)
          rw [if_neg (fun z => bne_iff_ne.mp z c), List.append_nil]
          exact ⟨refs2, sd, eD, hr, dm⟩
      · obtain ⟨refs2, sd, eD, hr, dm⟩ := p
        rw [List.length_map, heldM_len] at hr
        have lr2 : refs2.length ≤ ws.length := by
          have e := dpAll_len hr
          rw [List.length_map, List.length_map] at e
          have l := rowU_len (heldM ws lk0) (heldM ws lk1) i ws.length
          omega
        refine ⟨ul, Dl, _, _, rfl, rfl, sd _ _ eul, eD, ?_, fun p np => ?_⟩
        · rw [List.length_map, List.length_map, sizeLine_eq]
          omega
        · have sP := same_new (o := .lst (refs.map V.ref ++ refs2.map V.ref)) (Same.refl Hd) np
          refine ⟨p, refs ++ refs2, _, _, rfl, sc.trans (sd.trans sP), ?_, ?_⟩
          · rw [upd_same, List.map_append]
          · rw [List.map_append]
            exact dpAll_app (dpAll_same (sd.trans sP) hrf) (dpAll_same (new_in.trans sP) hr)
    · obtain ⟨ul, refs, y12, y13, rfl, sc, eul, hrf⟩ := pp
      rw [rows_len hx1] at hrf
      exact ⟨ul, refs, y12, y13, rfl, sc, eul, hrf⟩
  obtain ⟨ul, refs, y12, y13, rfl, s12, eul, hrf⟩ := pp
  replace hw := dp_same s12 hw
  replace hal := same_seqT s12 hal
  replace dy0 := dp_same s12 dy0
  replace dy1 := dp_same s12 dy1
  clear ha1 hx1 ha2 hx2 s12 sU eU
  have hws : ∀ G, Same H12 G → WsF K G vw ws := fun G s => wsF_of (dp_same s hw) (by omega)
  have lF0 : ∀ G, Same H12 G → LkF K G y0 lk0 := fun G s => lkF_of (dp_same s dy0)
  have lF1 : ∀ G, Same H12 G → LkF K G y1 lk1 := fun G s => lkF_of (dp_same s dy1)
  -- what the program says of the parting
  refine ⟨vw, rfl, .ref al, rfl, al, xl, 0, y0, rfl, rfl, hal, at_as (j := 0) rfl ey0, .ref al, rfl, al, xl, 1, y1, rfl, rfl, hal, at_as (j := 1) rfl ey1, vw, y0, y1, ws, lk0, lk1, 16, rfl, hws _ (Same.refl _), lF0 _ (Same.refl _), lF1 _ (Same.refl _), lkOk_of lok0, lkOk_of lok1, n1, by omega, by decide, fun H13 p1 s13 hp1 => ?_⟩
  refine ⟨vw, rfl, .ref al, rfl, al, xl, 1, y1, rfl, rfl, same_seqT s13 hal, at_as (j := 1) rfl ey1, .ref al, rfl, al, xl, 0, y0, rfl, rfl, same_seqT s13 hal, at_as (j := 0) rfl ey0, vw, y1, y0, ws, lk1, lk0, 16, rfl, hws _ s13, lF1 _ s13, lF0 _ s13, lkOk_of lok1, lkOk_of lok0, n1, by omega, by decide, fun H14 p2 s14 hp2 => ?_⟩
  have s134 := s13.trans s14
  refine ⟨vw, rfl, .ref al, rfl, al, xl, 1, y1, rfl, rfl, same_seqT s134 hal, at_as (j := 1) rfl ey1, .ref al, rfl, al, xl, 1, y1, rfl, rfl, same_seqT s134 hal, at_as (j := 1) rfl ey1, vw, y1, y1, ws, lk1, lk1, 16, rfl, hws _ s134, lF1 _ s134, lF1 _ s134, lkOk_of lok1, lkOk_of lok1, n1, by omega, by decide, fun H15 p3 s15 hp3 => ⟨by show 3 ≤ sizeLine; decide, fun L2 nL2 => ?_⟩⟩
  rw [part_comm ws lk0 lk1] at hp2
  rw [part_self] at hp3
  have s135 := s134.trans s15
  obtain ⟨s16, hL2⟩ := lst_new (K := K) (xs := [p1, p2, p3]) (ds := [optD (partM ws lk0 lk1 16), optD (partM ws lk0 lk1 16), .none]) nL2 (.cons (dp_same (new_in.trans (s14.trans s15)) hp1) (dpAll_two (dp_same (new_in.trans s15) hp2) (dp_same new_in hp3)))
  replace eul := s16 _ _ (s135 _ _ eul)
  replace hrf := dpAll_same (s135.trans s16) hrf
  generalize upd H15 L2 (.lst [p1, p2, p3]) = H16 at *
  clear hp1 hp2 hp3 hws lF0 lF1 hw hal dy0 dy1
  have lev_due : ∀ o : Option (Nat × Nat), Lev 2 (.list [optD o, optD o, .none]) := fun o => by
    refine ⟨by show 3 ≤ 1000; decide, fun d hd => ?_⟩
    simp only [List.mem_cons, List.mem_nil_iff, or_false] at hd
    rcases hd with rfl | rfl | rfl
    · cases o with
      | none => exact trivial
      | some p => exact lev_ints [_, _] (by show 2 ≤ 1000; decide) 0
    · cases o with
      | none => exact trivial
      | some p => exact lev_ints [_, _] (by show 2 ≤ 1000; decide) 0
    · exact trivial
  -- what the law says
  refine ⟨.ref L2, rfl, .ref ul, rfl, Nat.zero_le _, fun z0 m0 => ?_⟩
  have w0 := same_new (o := .lst []) (Same.refl H16) m0
  have ez0 : (upd H16 z0 (.lst [])) z0 = some (.lst []) := upd_same
  replace eul := w0 _ _ eul
  replace hrf := dpAll_same w0 hrf
  generalize upd H16 z0 (.lst []) = H17 at *
  obtain ⟨UM, hUM⟩ : ∃ UM, UM = unlikeM (heldM ws lk0) (heldM ws lk1) ws.length 16 := ⟨_, rfl⟩
  have hP : partM ws lk0 lk1 16 = UM.head? := by rw [hUM]; rfl
  rw [← hUM] at hrf
  refine ⟨_, _, .lst (sql_of eul) hrf, .lst (sql_of ez0) .nil, pairs_shaped UM, pairs_shaped [], _, rfl, ifb (fun c => ?_) fun c => ?_⟩
  · rw [eqv_nil] at c
    cases UM with
    | nil => cases c
    | cons x0 xs =>
      cases refs with
      | nil => cases hrf
      | cons b0 bs =>
        cases hrf with
        | cons h0 ht =>
          have dX : Dp K H17 (.ref b0) (optD (partM ws lk0 lk1 16)) := by
            rw [hP]
            exact h0
          obtain ⟨b0', xb, eb, hb0, hxb⟩ := dp_tuple h0
          cases eb
          have exb : xb = [((x0.1 : Nat) : Int), ((x0.2 : Nat) : Int)].map V.int := dpAll_ints (ns := [((x0.1 : Nat) : Int), ((x0.2 : Nat) : Int)]) hxb
          rw [exb] at hb0
          refine ⟨.ref ul, rfl, ul, b0, bs, _, rfl, sql_of eul, hb0, fun b hb => ?_, ?_⟩
          · obtain ⟨i, hi, eb⟩ := List.getElem_of_mem hb
            have e1 : (bs.map V.ref)[i]? = some (.ref b) := by
              rw [List.getElem?_map, List.getElem?_eq_getElem hi, eb]
              rfl
            obtain ⟨d, e2, hd⟩ := dpAll_getV ht e1
            rw [List.getElem?_map] at e2
            obtain ⟨y, ey, rfl⟩ := Option.map_eq_some_iff.mp e2
            obtain ⟨b', yb, eb', hb', hyb⟩ := dp_tuple hd
            cases eb'
            have eyb : yb = [((y.1 : Nat) : Int), ((y.2 : Nat) : Int)].map V.int := dpAll_ints (ns := [((y.1 : Nat) : Int), ((y.2 : Nat) : Int)]) hyb
            rw [eyb] at hb'
            exact ⟨_, hb', unlike_first hUM.symm y (List.mem_of_getElem? ey)⟩
          · refine ⟨by show 1 ≤ sizeLine; decide, fun z1 m1 => ⟨z1, 2, _, rfl, rfl, upd_same, by decide, by decide, by show 1 * 2 ≤ sizeLine; decide, fun z2 m2 => ⟨by show 1 ≤ sizeLine; decide, fun z3 m3 => ⟨z2, z3, _, _, rfl, rfl, same_new (Same.refl _) m3 _ _ upd_same, upd_same, by show 3 ≤ sizeLine; decide, fun z4 m4 => ?_⟩⟩⟩⟩
            have v1 := same_new (o := .lst [(.ref b0)]) (Same.refl H17) m1
            have v2 := same_new (o := .lst (List.replicate (2 : Int).toNat [(.ref b0)]).flatten) (Same.refl (upd H17 z1 (.lst [(.ref b0)]))) m2
            have v3 := same_new (o := .lst [.non]) (Same.refl (upd (upd H17 z1 (.lst [(.ref b0)])) z2 (.lst (List.replicate (2 : Int).toNat [(.ref b0)]).flatten))) m3
            have v13 := v1.trans (v2.trans v3)
            obtain ⟨v4, d4⟩ := lst_new (K := K) (xs := [(.ref b0), (.ref b0), .non]) (ds := [optD (partM ws lk0 lk1 16), optD (partM ws lk0 lk1 16), .none]) m4 (.cons (dp_same v13 dX) (dpAll_two (dp_same v13 dX) .non))
            refine ⟨.ref L2, .ref z4, _, rfl, dp_same (w0.trans (v13.trans v4)) hL2, d4, lev_due _, fun H' _ => q H'⟩
  · rw [eqv_nil] at c
    cases UM with
    | cons x0 xs => cases c
    | nil =>
      have dX : Dp K H17 .non (optD (partM ws lk0 lk1 16)) := by
        rw [hP]
        exact .non
      refine ⟨by show 1 ≤ sizeLine; decide, fun z1 m1 => ⟨z1, 2, _, rfl, rfl, upd_same, by decide, by decide, by show 1 * 2 ≤ sizeLine; decide, fun z2 m2 => ⟨by show 1 ≤ sizeLine; decide, fun z3 m3 => ⟨z2, z3, _, _, rfl, rfl, same_new (Same.refl _) m3 _ _ upd_same, upd_same, by show 3 ≤ sizeLine; decide, fun z4 m4 => ?_⟩⟩⟩⟩
      have v1 := same_new (o := .lst [.non]) (Same.refl H17) m1
      have v2 := same_new (o := .lst (List.replicate (2 : Int).toNat [.non]).flatten) (Same.refl (upd H17 z1 (.lst [.non]))) m2
      have v3 := same_new (o := .lst [.non]) (Same.refl (upd (upd H17 z1 (.lst [.non])) z2 (.lst (List.replicate (2 : Int).toNat [.non]).flatten))) m3
      have v13 := v1.trans (v2.trans v3)
      obtain ⟨v4, d4⟩ := lst_new (K := K) (xs := [.non, .non, .non]) (ds := [optD (partM ws lk0 lk1 16), optD (partM ws lk0 lk1 16), .none]) m4 (.cons (dp_same v13 dX) (dpAll_two (dp_same v13 dX) .non))
      refine ⟨.ref L2, .ref z4, _, rfl, dp_same (w0.trans (v13.trans v4)) hL2, d4, lev_due _, fun H' _ => q H'⟩
end
end K8
/-! The law; what the top has written. -/
namespace K8
open PySem PySem.Spec PyProof.Rows L2

section
variable {P : Program} {w : World} {K : PySem.W.Frag} {mg : Str → Option Value} {base : Heap} {C fI : Addr}
abbrev s_law : Stmt := topS 38
abbrev N_law : List Str := ["_law_script"]
theorem sc_law : FnScope N_law ["_law_script"] (defScope s_law) := ⟨rfl, rfl, rfl, by decide +kernel, rfl, by decide +kernel, by decide +kernel⟩
def spLaw (K : PySem.W.Frag) : Sp := fun vs H Q _ => ∃ (a : Addr) (ns : List Int), vs = [.ref a] ∧ SqL K H a (ns.map V.int) ∧ ns.length ≤ 63 ∧ ∀ H', Q (.bl true) H'
theorem ok_law {f : Addr} {fd : FuncData} (F : Fun K "law" "law" s_law f fd) (O__law_by_hand_right : Pr P w K mg base CX0 9 "_law_by_hand_right" [] (spHand K)) (O__law_cells : Pr P w K mg base CX0 1 "_law_cells" ["_law_script", "_law_top"] (spCells K)) (O__law_box : Pr P w K mg base CX0 1 "_law_box" ["_law_script", "_law_k"] (spBox K)) (O__law_right : Pr P w K mg base CX0 9 "_law_right" ["_law_urn"] (spRight K)) : FnOk P w K mg base CX0 10 f fd ["_law_script"] (spLaw K) := by
  refine F.ok sc_law (fun vs H Q E h => by obtain ⟨_, _, rfl, _⟩ := h; rfl) fun cdv A outer s H vs Q E hr h => ?_
  obtain ⟨a, ns, rfl, hs, hz, q⟩ := h
  refine ⟨_, (pss_cons (ps_if (pt_not (pt_val (O__law_by_hand_right.use0 hr (by rfl) pass0)))
      (pss_one (ps_ret pe_bl))
      pss_nil)
    (pss_one (ps_ret (O__law_right.use hr (by rfl) pass0 (pa_cons (O__law_box.use (hr.mono (by decide)) (by rfl) pass0 (pa_cons (O__law_cells.use (hr.mono (by decide)) (by rfl) pass0 (pa_cons (pv 0) (pa_cons pe_int pa_nil))) (pa_cons pe_int pa_nil))) pa_nil))))), ?_⟩
  refine ⟨rfl, fun H1 s1 => ⟨true, rfl, iff' rfl ?_⟩⟩
  refine ⟨.ref a, rfl, a, ns, rfl, s1.seq hs, hz, fun H2 p x s2 e2 => ⟨p, x, rfl, e2, fun H3 u s3 un => ⟨u, rfl, un, q⟩⟩⟩
/-- a def as the top has left it -/
theorem df_mk {x : Str} {st : Stmt} {ps : List Str} {h : Heap} {f : Addr} {od an : Option Addr} {sl : Array (Option Value)} {oc kV dc pm cd ct : Value} (X : K.In h) (G : h.Ns mainGlobals mg)
    (a : PySem.W.nsIn K mainGlobals x = some (some (.ref f))) (l : K.lookup f = some ⟨oc, od, .func (PySem.W.fnOf x x (defArgs st) (defBody st) (defScope st) .none kV dc pm an cd ct), sl⟩) (c : PySem.W.codeIn K cd x = true) (k : PySem.W.keepIn K (.ref f) = true)
    (b : ∀ (kV doc pm : Value) (an : Option Addr) (cdv ct : Value) (us : List Value), us.length = ps.length → bindArgs (PySem.W.fnOf x x (defArgs st) (defBody st) (defScope st) .none kV doc pm an cdv ct) ⟨us, []⟩ = pure (ps.zip us)) : Df K mg x st ps := by
  have F := fun_mk (st := st) l c k
  exact ⟨f, _, F, PySem.W.mg_of X G a, F.binds b⟩
theorem exm_own {K : PySem.W.Frag} {S : Addr} (h1 : PySem.W.subIn K (.ref S) (.type "BaseException") = some true) (h2 : PySem.W.isClsIn K S = true) (h3 : PySem.W.typeIn K (.ref S) = some (.type "type")) (h4 : PySem.W.subIn K (.ref S) (.ref S) = some true) :
    PySem.W.exmOne K (.ref S) (.ref S) = some true := by
  have e1 : (PySem.W.subIn K (.ref S) (.type "BaseException") == some true) = true := by rw [h1] <;> rfl
  have e2 : ((PySem.W.clsIn K S).isSome && PySem.W.typeIn K (.ref S) == some (.type "type")) = true := by
    have h2' : (PySem.W.clsIn K S).isSome = true := h2
    rw [h2', h3] <;> rfl
  show (if (PySem.W.subIn K (.ref S) (.type "BaseException") == some true) = true then (if ((PySem.W.clsIn K S).isSome && PySem.W.typeIn K (.ref S) == some (.type "type")) = true then PySem.W.subIn K (.ref S) (.ref S) else none) else none) = some true
  rw [if_pos e1, if_pos e2]
  exact h4
theorem all_ok {h : Heap} (T : Tf mg) (TN : PySem.NpX.NpTxt K mg C fI) (S : NpIs K C)
    (D_tuple_of : Df K mg "tuple_of" s_tuple_of ["thing"])
    (D_dry_held : Df K mg "dry_held" s_dry_held ["waters"])
    (D_brings : Df K mg "brings" s_brings ["waters", "held", "made", "loose", "leaks"])
    (D_behind_stroke : Df K mg "behind_stroke" s_behind_stroke ["waters", "held", "made", "loose", "leaks"])
    (D_behind_spills : Df K mg "behind_spills" s_behind_spills ["waters", "standing"])
    (D_behind_rest : Df K mg "behind_rest" s_behind_rest ["waters", "held", "rest", "made", "moved", "loose", "leaks"])
    (D_sure_cistern : Df K mg "sure_cistern" s_sure_cistern ["waters", "number"])
    (D_leaks_then : Df K mg "leaks_then" s_leaks_then ["waters", "leak", "rest"])
    (D_leaky_run : Df K mg "leaky_run" s_leaky_run ["waters", "leak", "many"])
    (D_leaky_held : Df K mg "leaky_held" s_leaky_held ["waters", "leak", "many"])
    (D_most_alike : Df K mg "most_alike" s_most_alike ["waters", "leaks", "gauge"])
    (D_best_gauge : Df K mg "best_gauge" s_best_gauge ["waters", "leaks", "gauges"])
    (D_parting_gauge : Df K mg "parting_gauge" s_parting_gauge ["waters", "leak", "other_leak", "many"])
    (D__law_box : Df K mg "_law_box" s__law_box ["_law_script", "_law_k"])
    (D__law_take : Df K mg "_law_take" s__law_take ["_law_urn", "_law_low_so"])
    (D__law_cells : Df K mg "_law_cells" s__law_cells ["_law_script", "_law_top"])
    (D__law_same : Df K mg "_law_same" s__law_same ["_law_got", "_law_goal"])
    (D__law_lists : Df K mg "_law_lists" s__law_lists ["_law_matter"])
    (D__law_brook : Df K mg "_law_brook" s__law_brook [])
    (D__law_valves : Df K mg "_law_valves" s__law_valves [])
    (D__law_rest : Df K mg "_law_rest" s__law_rest ["_law_wells_here", "_law_held", "_law_rest_here", "_law_leak_here"])
    (D__law_play : Df K mg "_law_play" s__law_play ["_law_wells_here", "_law_leak_here", "_law_many"])
    (D__law_wells : Df K mg "_law_wells" s__law_wells ["_law_urn", "_law_many"])
    (D__law_leak : Df K mg "_law_leak" s__law_leak ["_law_urn", "_law_many", "_law_late"])
    (D__law_heard : Df K mg "_law_heard" s__law_heard ["_law_wells_here", "_law_leaks", "_law_gauges"])
    (D__law_greatest : Df K mg "_law_greatest" s__law_greatest ["_law_wells_here", "_law_leaks", "_law_gauge"])
    (D__law_by_hand_right : Df K mg "_law_by_hand_right" s__law_by_hand_right [])
    (D__law_right : Df K mg "_law_right" s__law_right ["_law_urn"])
    {f : Addr} {fd : FuncData} (F : Fun K "law" "law" s_law f fd) : FnOk P w K mg base CX0 10 f fd ["_law_script"] (spLaw K) := by
  have O_tuple_of := ok_tuple_of (P := P) (w := w) (base := base) T D_tuple_of 2
  have O_dry_held := ok_dry_held (P := P) (w := w) (base := base) T D_dry_held
  have O_brings := ok_brings (P := P) (w := w) (base := base) T D_brings
  have O_behind_stroke := ok_behind_stroke T D_behind_stroke O_brings
  have O_behind_spills := ok_behind_spills (P := P) (w := w) (base := base) T D_behind_spills
  have O_behind_rest := ok_behind_rest T D_behind_rest O_behind_stroke O_behind_spills
  have O_sure_cistern := ok_sure_cistern (P := P) (w := w) (base := base) T TN D_sure_cistern
  have O_leaks_then := ok_leaks_then (P := P) (w := w) (base := base) T D_leaks_then
  have O_leaky_run := ok_leaky_run T D_leaky_run O_tuple_of O_dry_held O_behind_rest O_leaks_then
  have O_leaky_held := ok_leaky_held T D_leaky_held O_leaky_run
  have O_most_alike := ok_most_alike T D_most_alike O_sure_cistern O_leaky_held
  have O_best_gauge := ok_best_gauge T D_best_gauge O_most_alike O_tuple_of
  have O_parting_gauge := ok_parting_gauge T D_parting_gauge O_leaky_run
  have O__law_box := ok__law_box (P := P) (w := w) (base := base) T D__law_box
  have O__law_take := ok__law_take (P := P) (w := w) (base := base) T D__law_take
  have O__law_cells := ok__law_cells (P := P) (w := w) (base := base) T D__law_cells
  have O__law_same := ok__law_same (P := P) (w := w) (base := base) T D__law_same 2
  have O__law_lists := ok__law_lists (P := P) (w := w) (base := base) T D__law_lists 2
  have O__law_brook := ok__law_brook (P := P) (w := w) (base := base) T D__law_brook
  have O__law_valves := ok__law_valves (P := P) (w := w) (base := base) T D__law_valves
  have O__law_rest := ok__law_rest (P := P) (w := w) (base := base) T D__law_rest
  have O__law_play := ok__law_play T D__law_play O__law_rest
  have O__law_wells := ok__law_wells T D__law_wells O__law_take
  have O__law_leak := ok__law_leak T D__law_leak O__law_take
  have O__law_heard := ok__law_heard T TN S D__law_heard O_best_gauge
  have O__law_greatest := ok__law_greatest T D__law_greatest O__law_play
  have O__law_by_hand_right := ok__law_by_hand_right T D__law_by_hand_right O__law_brook O__law_valves O_best_gauge O__law_heard O_parting_gauge O__law_greatest O__law_same
  have O__law_right := ok__law_right T D__law_right O__law_take O__law_wells O__law_leak O__law_heard O_parting_gauge O__law_play O__law_greatest O__law_same O__law_lists
  exact ok_law F O__law_by_hand_right O__law_cells O__law_box O__law_right
theorem law_mk {h : Heap} {fa f : Addr} {od an : Option Addr} {sl : Array (Option Value)} {oc kV dc pm cd ct : Value} (X : K.In h) (G : h.Ns mainGlobals mg) (hfa : mg "law" = some (.ref fa))
    (a : PySem.W.nsIn K mainGlobals "law" = some (some (.ref f))) (l : K.lookup f = some ⟨oc, od, .func (PySem.W.fnOf "law" "law" (defArgs s_law) (defBody s_law) (defScope s_law) .none kV dc pm an cd ct), sl⟩) (c : PySem.W.codeIn K cd "law" = true) (k : PySem.W.keepIn K (.ref f) = true)
    (all : ∀ (base : Heap) (f : Addr) (fd : FuncData), Fun K "law" "law" s_law f fd → FnOk P w K mg base CX0 10 f fd ["_law_script"] (spLaw K)) :
    ∃ fd : FuncData, (∀ (s : Shared) (v : Value), BindsTo s fd ⟨[v], []⟩ [("_law_script", v)]) ∧ ∀ base : Heap, K.In base → base.Ns mainGlobals mg → FnOk P w K mg base CX0 10 fa fd ["_law_script"] (spLaw K) := by
  have e := hfa.symm.trans (PySem.W.mg_of X G a)
  cases e
  have F := fun_mk (st := s_law) l c k
  exact ⟨PySem.W.fnOf "law" "law" (defArgs s_law) (defBody s_law) (defScope s_law) .none kV dc pm an cd ct, fun s v => .of_eq rfl, fun base _ _ => all base _ _ F⟩
theorem tf_mk {h : Heap} (X : K.In h) (G : h.Ns mainGlobals mg)
    {t1 t2 t3 t4 : Tok}
    (z_len : PySem.W.nsIn K mainGlobals "len" = some none)
    (z_isinstance : PySem.W.nsIn K mainGlobals "isinstance" = some none)
    (z_list : PySem.W.nsIn K mainGlobals "list" = some none)
    (z_tuple : PySem.W.nsIn K mainGlobals "tuple" = some none)
    (z_bool : PySem.W.nsIn K mainGlobals "bool" = some none)
    (z_str : PySem.W.nsIn K mainGlobals "str" = some none)
    (z_int : PySem.W.nsIn K mainGlobals "int" = some none)
    (z_LookupError : PySem.W.nsIn K mainGlobals "LookupError" = some none)
    (z_enumerate : PySem.W.nsIn K mainGlobals "enumerate" = some none)
    (z_min : PySem.W.nsIn K mainGlobals "min" = some none)
    (z_max : PySem.W.nsIn K mainGlobals "max" = some none)
    (z_range : PySem.W.nsIn K mainGlobals "range" = some none)
    (z_zip : PySem.W.nsIn K mainGlobals "zip" = some none)
    (z_abs : PySem.W.nsIn K mainGlobals "abs" = some none)
    (z_all : PySem.W.nsIn K mainGlobals "all" = some none)
    (z_ROOM : PySem.W.nsIn K mainGlobals "ROOM" = some (some (.int 1 t1)))
    (z_SPRING : PySem.W.nsIn K mainGlobals "SPRING" = some (some (.int 2 t2)))
    (z_MEASURE : PySem.W.nsIn K mainGlobals "MEASURE" = some (some (.int 3 t3)))
    (z_ROD : PySem.W.nsIn K mainGlobals "ROD" = some (some (.int 4 t4)))
    : Tf mg :=
  { len := PySem.W.mg_none_of X G z_len, isinstance := PySem.W.mg_none_of X G z_isinstance, list := PySem.W.mg_none_of X G z_list, tuple := PySem.W.mg_none_of X G z_tuple, bool := PySem.W.mg_none_of X G z_bool, str := PySem.W.mg_none_of X G z_str, int := PySem.W.mg_none_of X G z_int, LookupError := PySem.W.mg_none_of X G z_LookupError, enumerate := PySem.W.mg_none_of X G z_enumerate, min := PySem.W.mg_none_of X G z_min, max := PySem.W.mg_none_of X G z_max, range := PySem.W.mg_none_of X G z_range, zip := PySem.W.mg_none_of X G z_zip, abs := PySem.W.mg_none_of X G z_abs, all := PySem.W.mg_none_of X G z_all, c_ROOM := ⟨_, PySem.W.mg_of X G z_ROOM⟩, c_SPRING := ⟨_, PySem.W.mg_of X G z_SPRING⟩, c_MEASURE := ⟨_, PySem.W.mg_of X G z_MEASURE⟩, c_ROD := ⟨_, PySem.W.mg_of X G z_ROD⟩ }
theorem np_mk {h : Heap} (X : K.In h) (G : h.Ns mainGlobals mg) {nm q : Str} {N : Addr} {bs : List Value} {sn : List Str} {sub : List Value} {ab : Bool} {col : Option Bool} {dd : Option Addr} {m0 m1 m2 m3 m5 : Option Value}
    {od1 an1 : Option Addr} {sl1 : Array (Option Value)} {oc1 dc1 pm1 cd1 ct1 : Value}
    (aC : PySem.W.nsIn K mainGlobals "NoPlace" = some (some (.ref C)))
    (xL : K.lookup C = some (excClassObj nm q C N bs [.type "LookupError", .type "Exception", .type "BaseException", .type "object"] true sn sub ab col dd m0 m1 m2 m3 m5 "LookupError.__new__"))
    (sa : PySem.W.findIn K (.ref C) "__setattr__" = some (some (.builtin "object.__setattr__"))) (ga : PySem.W.findIn K (.ref C) "__getattribute__" = some (some (.builtin "BaseException.__getattribute__"))) (gg : PySem.W.findIn K (.ref C) "__getattr__" = some none) (nb : PySem.W.findIn K (.ref C) "place" = some none)
    (a1 : PySem.W.findIn K (.ref C) "__init__" = some (some (.ref fI))) (t1 : PySem.W.typeIn K (.ref fI) = some (.type "function"))
    (l1 : K.lookup fI = some ⟨oc1, od1, .func (PySem.W.fnOf "__init__" "NoPlace.__init__" (PySem.NpX.iA ⟨4, 17, 4, 21⟩ ⟨4, 23, 4, 28⟩) (PySem.NpX.iB ⟨5, 8, 5, 12⟩ ⟨5, 8, 5, 18⟩ ⟨5, 21, 5, 26⟩ ⟨5, 8, 5, 26⟩) PySem.NpX.iS .none .none dc1 pm1 an1 cd1 ct1), sl1⟩) (c1 : PySem.W.codeIn K cd1 "NoPlace.__init__" = true)
    (kC : PySem.W.keepIn K (.ref C) = true) (eC : PySem.W.subIn K (.ref C) (.type "BaseException") = some true) (tC : PySem.W.typeIn K (.ref C) = some (.type "type")) (hC : PySem.W.hasDictIn K C = true) (iC : PySem.W.isClsIn K C = true) (sC : PySem.W.subIn K (.ref C) (.ref C) = some true) : PySem.NpX.NpTxt K mg C fI :=
  { gC := PySem.W.mg_of X G aC, cls := ⟨nm, q, N, bs, _, sn, sub, ab, col, dd, m0, m1, m2, m3, m5, xL, by decide +kernel⟩, sa := sa, ga := ga, gg := gg, noN := nb, iC := a1, tC := t1, kC := kC, exC := eC, tyC := tC, hdC := hC, te := exm_own eC iC tC sC,
    fn := ⟨_, _, _, _, _, _, _, _, _, _, _, _, _, _, l1, c1⟩ }
theorem is_mk (cl : PySem.W.isClsIn K C = true) (ha : PySem.W.findIn K (.ref C) "__class__" = some (some (.builtin "object.__class__"))) (hn : PySem.W.specialIn K (.builtin "object.__class__") "__get__" = some (some (.builtin "getset_descriptor.__get__")))
    (ht : PySem.W.takesIn K (.builtin "object.__class__") = some true) (hm : PySem.W.mroIn K C (.type "object") = some true) (ki : PySem.W.subIn K (.ref C) (.type "LookupError") = some true) : NpIs K C := by
  refine ⟨cl, ha, hn, ht, hm, ?_⟩
  have e : ((.ref C : Value) == .type "LookupError") = false := beq_eq_false_iff_ne.mpr (fun z => nomatch z)
  unfold PySem.W.kitOne
  rw [e, if_neg Bool.false_ne_true]
  show (if PySem.W.kitMeta "LookupError" = true then PySem.W.subIn K (.ref C) (.type "LookupError") else none) = some true
  rw [if_pos (by decide +kernel)]
  exact ki
end
end K8
open PySem PySem.W PyProof.Rows
set_option maxHeartbeats 0 in
theorem PySem.Challenge.cw_manrods_k88_whole_gauges_that_part_most_holds : PySem.Challenge.rw_manrods_k88_whole_gauges_that_part_most.Holds := by
  w_on; o_law; k_head; (case hw => w_witness2)
  k_fill
  refine L2.walk_of (l := PySem.Challenge.rw_manrods_k88_whole_gauges_that_part_most) (n := 63) (k := 10) (x := "_law_script") (CX := fun _ => L2.CX0) (sp := fun w => K8.spLaw _) rfl (by decide) rfl ⟨rfl, by decide, by decide⟩ (fun w h Y => PySem.W.kIn_of Y) ?F (fun _ _ a ns hl _ hS => ⟨a, ns, rfl, hS, hl, fun _ => rfl⟩) (fun _ _ _ _ _ h => h)
  case F =>
    intro w mg fa h KX G hmg
    have T : K8.Tf mg := by
      refine' K8.tf_mk KX G ?z_len ?z_isinstance ?z_list ?z_tuple ?z_bool ?z_str ?z_int ?z_LookupError ?z_enumerate ?z_min ?z_max ?z_range ?z_zip ?z_abs ?z_all ?z_ROOM ?z_SPRING ?z_MEASURE ?z_ROD
      (case z_len => k_is); (case z_isinstance => k_is); (case z_list => k_is); (case z_tuple => k_is); (case z_bool => k_is); (case z_str => k_is); (case z_int => k_is); (case z_LookupError => k_is); (case z_enumerate => k_is); (case z_min => k_is); (case z_max => k_is); (case z_range => k_is); (case z_zip => k_is); (case z_abs => k_is); (case z_all => k_is); (case z_ROOM => k_is); (case z_SPRING => k_is); (case z_MEASURE => k_is); (case z_ROD => k_is)
    refine' K8.law_mk KX G hmg ?a ?l ?c ?k ?all
    (case a => k_is); (case l => k_is); (case c => k_is); (case k => k_is)
    case all =>
      intro base f fd F
      refine' K8.all_ok (h := h) T (K8.np_mk KX G ?aC ?xL ?sa ?ga ?gg ?nb ?a1 ?t1 ?l1 ?c1 ?kC ?eC ?tC ?hC ?iC ?sC) (K8.is_mk ?i1 ?i2 ?i3 ?i4 ?i5 ?i6) ?D_tuple_of ?D_dry_held ?D_brings ?D_behind_stroke ?D_behind_spills ?D_behind_rest ?D_sure_cistern ?D_leaks_then ?D_leaky_run ?D_leaky_held ?D_most_alike ?D_best_gauge ?D_parting_gauge ?D__law_box ?D__law_take ?D__law_cells ?D__law_same ?D__law_lists ?D__law_brook ?D__law_valves ?D__law_rest ?D__law_play ?D__law_wells ?D__law_leak ?D__law_heard ?D__law_greatest ?D__law_by_hand_right ?D__law_right F
      (case aC => k_is); (case xL => k_is); (case sa => k_is); (case ga => k_is); (case gg => k_is); (case nb => k_is); (case a1 => k_is); (case t1 => k_is); (case l1 => k_is); (case c1 => k_is); (case kC => k_is); (case eC => k_is); (case tC => k_is); (case hC => k_is); (case iC => k_is); (case sC => first | rfl | k_is)
      (case i1 => k_is); (case i2 => k_is); (case i3 => k_is); (case i4 => k_is); (case i5 => k_is); (case i6 => k_is)
      case D_tuple_of =>
        refine' K8.df_mk KX G ?a ?l ?c ?k (fun _ _ _ _ _ _ us hl => match us, hl with | [_], _ => rfl)
        (case a => k_is); (case l => k_is); (case c => k_is); (case k => k_is)
      case D_dry_held =>
        refine' K8.df_mk KX G ?a ?l ?c ?k (fun _ _ _ _ _ _ us hl => match us, hl with | [_], _ => rfl)
        (case a => k_is); (case l => k_is); (case c => k_is); (case k => k_is)
      case D_brings =>
        refine' K8.df_mk KX G ?a ?l ?c ?k (fun _ _ _ _ _ _ us hl => match us, hl with | [_, _, _, _, _], _ => rfl)
        (case a => k_is); (case l => k_is); (case c => k_is); (case k => k_is)
      case D_behind_stroke =>
        refine' K8.df_mk KX G ?a ?l ?c ?k (fun _ _ _ _ _ _ us hl => match us, hl with | [_, _, _, _, _], _ => rfl)
        (case a => k_is); (case l => k_is); (case c => k_is); (case k => k_is)
      case D_behind_spills =>
        refine' K8.df_mk KX G ?a ?l ?c ?k (fun _ _ _ _ _ _ us hl => match us, hl with | [_, _], _ => rfl)
        (case a => k_is); (case l => k_is); (case c => k_is); (case k => k_is)
      case D_behind_rest =>
        refine' K8.df_mk KX G ?a ?l ?c ?k (fun _ _ _ _ _ _ us hl => match us, hl with | [_, _, _, _, _, _, _], _ => rfl)
        (case a => k_is); (case l => k_is); (case c => k_is); (case k => k_is)
      case D_sure_cistern =>
        refine' K8.df_mk KX G ?a ?l ?c ?k (fun _ _ _ _ _ _ us hl => match us, hl with | [_, _], _ => rfl)
        (case a => k_is); (case l => k_is); (case c => k_is); (case k => k_is)
      case D_leaks_then =>
        refine' K8.df_mk KX G ?a ?l ?c ?k (fun _ _ _ _ _ _ us hl => match us, hl with | [_, _, _], _ => rfl)
        (case a => k_is); (case l => k_is); (case c => k_is); (case k => k_is)
      case D_leaky_run =>
        refine' K8.df_mk KX G ?a ?l ?c ?k (fun _ _ _ _ _ _ us hl => match us, hl with | [_, _, _], _ => rfl)
        (case a => k_is); (case l => k_is); (case c => k_is); (case k => k_is)
      case D_leaky_held =>
        refine' K8.df_mk KX G ?a ?l ?c ?k (fun _ _ _ _ _ _ us hl => match us, hl with | [_, _, _], _ => rfl)
        (case a => k_is); (case l => k_is); (case c => k_is); (case k => k_is)
      case D_most_alike =>
        refine' K8.df_mk KX G ?a ?l ?c ?k (fun _ _ _ _ _ _ us hl => match us, hl with | [_, _, _], _ => rfl)
        (case a => k_is); (case l => k_is); (case c => k_is); (case k => k_is)
      case D_best_gauge =>
        refine' K8.df_mk KX G ?a ?l ?c ?k (fun _ _ _ _ _ _ us hl => match us, hl with | [_, _, _], _ => rfl)
        (case a => k_is); (case l => k_is); (case c => k_is); (case k => k_is)
      case D_parting_gauge =>
        refine' K8.df_mk KX G ?a ?l ?c ?k (fun _ _ _ _ _ _ us hl => match us, hl with | [_, _, _, _], _ => rfl)
        (case a => k_is); (case l => k_is); (case c => k_is); (case k => k_is)
      case D__law_box =>
        refine' K8.df_mk KX G ?a ?l ?c ?k (fun _ _ _ _ _ _ us hl => match us, hl with | [_, _], _ => rfl)
        (case a => k_is); (case l => k_is); (case c => k_is); (case k => k_is)
      case D__law_take =>
        refine' K8.df_mk KX G ?a ?l ?c ?k (fun _ _ _ _ _ _ us hl => match us, hl with | [_, _], _ => rfl)
        (case a => k_is); (case l => k_is); (case c => k_is); (case k => k_is)
      case D__law_cells =>
        refine' K8.df_mk KX G ?a ?l ?c ?k (fun _ _ _ _ _ _ us hl => match us, hl with | [_, _], _ => rfl)
        (case a => k_is); (case l => k_is); (case c => k_is); (case k => k_is)
      case D__law_same =>
        refine' K8.df_mk KX G ?a ?l ?c ?k (fun _ _ _ _ _ _ us hl => match us, hl with | [_, _], _ => rfl)
        (case a => k_is); (case l => k_is); (case c => k_is); (case k => k_is)
      case D__law_lists =>
        refine' K8.df_mk KX G ?a ?l ?c ?k (fun _ _ _ _ _ _ us hl => match us, hl with | [_], _ => rfl)
        (case a => k_is); (case l => k_is); (case c => k_is); (case k => k_is)
      case D__law_brook =>
        refine' K8.df_mk KX G ?a ?l ?c ?k (fun _ _ _ _ _ _ us hl => match us, hl with | [], _ => rfl)
        (case a => k_is); (case l => k_is); (case c => k_is); (case k => k_is)
      case D__law_valves =>
        refine' K8.df_mk KX G ?a ?l ?c ?k (fun _ _ _ _ _ _ us hl => match us, hl with | [], _ => rfl)
        (case a => k_is); (case l => k_is); (case c => k_is); (case k => k_is)
      case D__law_rest =>
        refine' K8.df_mk KX G ?a ?l ?c ?k (fun _ _ _ _ _ _ us hl => match us, hl with | [_, _, _, _], _ => rfl)
        (case a => k_is); (case l => k_is); (case c => k_is); (case k => k_is)
      case D__law_play =>
        refine' K8.df_mk KX G ?a ?l ?c ?k (fun _ _ _ _ _ _ us hl => match us, hl with | [_, _, _], _ => rfl)
        (case a => k_is); (case l => k_is); (case c => k_is); (case k => k_is)
      case D__law_wells =>
        refine' K8.df_mk KX G ?a ?l ?c ?k (fun _ _ _ _ _ _ us hl => match us, hl with | [_, _], _ => rfl)
        (case a => k_is); (case l => k_is); (case c => k_is); (case k => k_is)
      case D__law_leak =>
        refine' K8.df_mk KX G ?a ?l ?c ?k (fun _ _ _ _ _ _ us hl => match us, hl with | [_, _, _], _ => rfl)
        (case a => k_is); (case l => k_is); (case c => k_is); (case k => k_is)
      case D__law_heard =>
        refine' K8.df_mk KX G ?a ?l ?c ?k (fun _ _ _ _ _ _ us hl => match us, hl with | [_, _, _], _ => rfl)
        (case a => k_is); (case l => k_is); (case c => k_is); (case k => k_is)
      case D__law_greatest =>
        refine' K8.df_mk KX G ?a ?l ?c ?k (fun _ _ _ _ _ _ us hl => match us, hl with | [_, _, _], _ => rfl)
        (case a => k_is); (case l => k_is); (case c => k_is); (case k => k_is)
      case D__law_by_hand_right =>
        refine' K8.df_mk KX G ?a ?l ?c ?k (fun _ _ _ _ _ _ us hl => match us, hl with | [], _ => rfl)
        (case a => k_is); (case l => k_is); (case c => k_is); (case k => k_is)
      case D__law_right =>
        refine' K8.df_mk KX G ?a ?l ?c ?k (fun _ _ _ _ _ _ us hl => match us, hl with | [_], _ => rfl)
        (case a => k_is); (case l => k_is); (case c => k_is); (case k => k_is)
